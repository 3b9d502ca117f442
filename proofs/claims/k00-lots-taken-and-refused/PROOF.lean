import PyProof.Rows.All
import Wide.All
import OpenK.AllK
import Wide.FinOn
import PySem.Challenge.RW_piecerealm_k00_lots_taken_and_refused
import HandS.ForMost
import HandS.TupAny
import HandS.Wide
import HandS.WideBits
import HandS.SortInts
import HandS.IsInst
import HandS.Exc
import HandS.CallSlots
import HandS.TupMul
import HandS.Sort
import HandS.SortOrd
import HandS.SortRule
import KE.KSortTup
import PyProof.TupleOfSeq
import HandS.Iter
import HandS.Rev
import KE.GoesEnum
import KE.KTupSum
import HandS.DictTup
import HandS.Walk
import HandS.Deep
import HandS.RaiseMore
import HandS.Codes
import HandS.Comp
import HandS.HotCalls
import HandS.ExcCtx
import HandS.Flow
import HandS.Zip
import HandS.Defaults
import HandS.MakeKw
import HandS.TryOnly
import HandS.Steps
import HandS.CallRecv
import HandS.Style
import KE.KRevSl
import PyProof.InstEq
import PyProof.Rows.TupDisplay
import HandS.ExcField
import KE.KExcIs
import HandS.Head0
import HandS.Head1
import HandS.Head2
import HandS.HeadEnd
import HandS.HeadHook1
import HandS.HeadHook2
import KE.KExcSuper
import KE.KSuper
import HandS.ExcInit
import HandS.ExcValue
import HandS.HeadWalk
import HandS.Ends
import HandS.Words
set_option Elab.async false
set_option linter.all false
section
set_option maxRecDepth 100000
set_option maxHeartbeats 4000000
/-! Ev, part 1: a small language, its data and its evaluator. -/
namespace Ev
open PySem
noncomputable section
open Classical

/-! #### data and store -/
inductive D where
  | non | bl (b : Bool) | int (i : Int) | str (s : List Nat) | tup (l : List D) | lst (l : List D)
  | ref (n : Nat) | obj (c : Nat) (l : List D)
  deriving Inhabited
inductive Cell where
  | lst (l : List D)
  | ins (c : Nat) (fs : List (Nat × D))
  | dct (lk : Bool) (kvs : List (List Int × D))
abbrev Store := List Cell
abbrev Fr := List (Option D)
inductive Rs (α : Type) where
  | ok (a : α) (S : Store)
  | ex (c : Nat) (l : List D) (S : Store)
  | bad
/-- a mark that keeps simp out of a function -/
inductive Tag {α : Type} (a : α) : Type where
  | mk
def Rs.th {α β : Type} (r : Rs α) (k : α → Store → Rs β) (_t : Tag k := .mk) : Rs β :=
  match r with
  | .ok a S => k a S
  | .ex c l S => .ex c l S
  | .bad => .bad
theorem th_ok {α β : Type} (a : α) (S : Store) (k : α → Store → Rs β) (t : Tag k) : (Rs.ok a S).th k t = k a S := rfl
theorem th_ex {α β : Type} (c : Nat) (l : List D) (S : Store) (k : α → Store → Rs β) (t : Tag k) : (Rs.ex c l S : Rs α).th k t = .ex c l S := rfl
theorem th_bad {α β : Type} (k : α → Store → Rs β) (t : Tag k) : (Rs.bad : Rs α).th k t = .bad := rfl
/-- no exception may leave (within a comprehension) -/
def Rs.nox {α : Type} : Rs α → Rs α
  | .ok a S => .ok a S
  | _ => .bad

/-! #### the language -/
inductive Op where | add | sub | mul | div | mod | pow | shl | shr | band | bor | bxor
inductive Cp where | eq | ne | lt | le | gt | ge | isIn | notIn
inductive Bi where | len | abs | min | max | sum | sorted | all | any | int | str | list | tuple | bool
inductive Bm where | append | pop | extend | index | bitLength
inductive Bt where | int | bool | str | tuple | list | dict
  deriving DecidableEq
inductive Ty where | b (t : Bt) | c (k : Nat)
inductive Tg where
  | nm (i : Nat)
  | tp (l : List Nat)
mutual
inductive Ex where
  | var (i : Nat) | non | bl (b : Bool) | int (i : Int) | str (s : List Nat) | glb (g : Nat)
  | bin (op : Op) (m : Bool) (a b : Ex) | neg (a : Ex)
  | cmp (op : Cp) (a b : Ex) | chn (o1 o2 : Cp) (a b c : Ex) | isN (n : Bool) (a : Ex)
  | and (a b : Ex) | or (a b : Ex) | not (a : Ex) | ife (c a b : Ex)
  | tup (es : Exs) | lst (m : Bool) (es : Exs)
  | idx (a b : Ex) | slc (m : Bool) (a : Ex) (lo hi : Exo) | att (a : Ex) (f : Nat)
  | call (f : Nat) (es : Exs) | calk (f : Nat) (es ks : Exs) (pm : List Nat)
  | mak (m : Bool) (c : Nat) (es : Exs) | makk (m : Bool) (c : Nat) (es ks : Exs) (pm : List Nat) | mth (a : Ex) (f : Nat) (es : Exs)
  | bi (b : Bi) (m : Bool) (es : Exs) | isI (a : Ex) (ts : List Ty) (p : Bool)
  | bm (b : Bm) (a : Ex) (es : Exs)
  | dnew | dlit (e v : Ex) | dget (a k v : Ex)
  | slr (a : Ex) | lno (a : Ex) (f : Nat) | eqo (a b : Ex) (f : Nat) | mthk (a : Ex) (f g : Nat) (es ks : Exs) (pm : List Nat) | neo (a b : Ex) (f : Nat)
  | lc (m : Bool) (own : List Nat) (tg : Tg) (it : Iter) (c : Exo) (e : Ex)
  | lc2 (m : Bool) (own : List Nat) (tg : Tg) (it : Iter) (c : Exo) (tg2 : Tg) (it2 : Iter) (c2 : Exo) (e : Ex)
inductive Exs where
  | nil | cons (e : Ex) (es : Exs)
inductive Exo where
  | no | yes (e : Ex)
inductive Iter where
  | seq (e : Ex) | rng (es : Exs) | enm (e : Ex) | zip (a b : Ex) | rev (e : Ex)
end
/-! #### except suites (the exception has no other name than its own) -/
mutual
inductive Hx where
  | pl (a : Ex) | fld (f : Nat) | isx (ks : List Nat) (p : Bool) | and (a b : Hx) | not (a : Hx) | call (f : Nat) (l : Hxs) | tup (l : Hxs)
inductive Hxs where
  | nil | cons (h : Hx) (l : Hxs)
end
/-- a suite: it returns -/
inductive Hs where
  | ret (h : Hx) | ife (c : Hx) (a r : Hs)
mutual
inductive St where
  | ex (e : Ex)
  | asg (i : Nat) (e : Ex) | asgT (is : List Nat) (e : Ex) | swp (i j : Nat) (a b : Ex)
  | asgI (o i e : Ex) | asgA (o : Ex) (f : Nat) (e : Ex)
  | augN (i : Nat) (sb : Bool) (e : Ex) | augI (o i : Ex) (sb : Bool) (e : Ex) | asg2 (i j : Nat) (e : Ex)
  | ret (e : Ex) | retN | pas | brk | cnt
  | ife (c : Ex) (a b : Sts) | whl (c : Ex) (b : Sts) | forr (tg : Tg) (it : Iter) (b : Sts)
  | rai (c : Nat) (es : Exs)
  | nev
  | tryE (b : Sts) (c : Nat) (i : Option Nat) (h : Hs)
  | forI (i j v : Nat) (b : Sts)
inductive Sts where
  | nil | cons (s : St) (ss : Sts)
  | dset (i : Nat) (e o v : Ex) (ss : Sts)
end

/-! #### what stands behind the names -/
structure Fn where
  np : Nat
  nv : Nat
  body : Sts
  fz : Bool
structure Cl where
  flds : List Nat
  init : Option Nat
  mths : List (Nat × Nat)
structure Tb where
  fns : List Fn
  cls : List Cl
  exc : List (List Nat)
  anc : List (List Nat)
  glb : List D
/-- what is called: fn at the level at hand, fn1 one level down (for an __init__) -/
structure Cs where
  T : Tb
  fn : Nat → List D → Store → Rs D
  fn1 : Nat → List D → Store → Rs D

/-! #### values -/
def Wd : Nat := 2 ^ 4000
def LIM : Nat := 16777216
/-- a list as it stands: frozen, or a cell's -/
def lstOf (d : D) (S : Store) : Option (List D) := match d with
  | .lst l => some l
  | .ref n => match S[n]? with
    | some (.lst l) => some l
    | _ => none
  | _ => none
def seqOf (d : D) (S : Store) : Option (List D) := match d with
  | .tup l => some l
  | .lst l => some l
  | .ref n => match S[n]? with
    | some (.lst l) => some l
    | _ => none
  | _ => none
/-- a new list -/
def mkL (m : Bool) (l : List D) (S : Store) : Rs D := if m then .ok (.ref S.length) (S ++ [.lst l]) else .ok (.lst l) S
def truD (d : D) (S : Store) : Option Bool := match d with
  | .non => some false
  | .bl b => some b
  | .int i => some (i != 0)
  | .str s => if s.length ≤ LIM then some (!s.isEmpty) else none
  | .tup l => some (!l.isEmpty)
  | .lst l => some (!l.isEmpty)
  | .ref n => match S[n]? with
    | some (.lst l) => some (!l.isEmpty)
    | _ => none
  | .obj _ _ => none
def b2i (b : Bool) : Int := if b then 1 else 0
/-- ints, bools among them -/
def numD : D → Option Int
  | .int i => some i
  | _ => none
def arI (op : Op) (i j : Int) : Option Int := match op with
  | .add => some (i + j)
  | .sub => some (i - j)
  | .mul => if i.natAbs < Wd ∧ j.natAbs < Wd then some (i * j) else none
  | .div => if 0 < j ∧ j.natAbs < Wd then some (i / j) else none
  | .mod => if 0 < j then some (i % j) else none
  | .pow => if 0 ≤ j ∧ j ≤ 1000000 ∧ i.natAbs < 2 ^ 64 then some (i ^ j.toNat) else none
  | .shl => if 0 ≤ j ∧ j ≤ 1000000 ∧ i.natAbs < 2 ^ 64 then some (i * 2 ^ j.toNat) else none
  | .shr => if 0 ≤ j then some (i / 2 ^ j.toNat) else none
  | .band => some (Builtin.bitAnd i j)
  | .bor => some (Builtin.bitOr i j)
  | .bxor => some (Builtin.bitXor i j)
def binD (op : Op) (m : Bool) (d e : D) (S : Store) : Rs D := match d, e with
  | .int i, .int j => match arI op i j with
    | some k => .ok (.int k) S
    | none => .bad
  | .str s, .str t => match op with
    | .add => if s.length + t.length ≤ LIM then .ok (.str (s ++ t)) S else .bad
    | _ => .bad
  | .tup s, .tup t => match op with
    | .add => if s.length + t.length ≤ LIM then .ok (.tup (s ++ t)) S else .bad
    | _ => .bad
  | .tup s, .int k => match op with
    | .mul => if 1 ≤ k ∧ k ≤ 1000 ∧ 1 ≤ s.length ∧ s.length ≤ 1000 then .ok (.tup (List.replicate k.toNat s).flatten) S else .bad
    | _ => .bad
  | d, e => match op, lstOf d S, lstOf e S with
    | .add, some s, some t => if s.length + t.length ≤ LIM then mkL m (s ++ t) S else .bad
    | _, _, _ => .bad
/-! == -/
mutual
def eqD : D → D → Bool
  | .non, .non => true
  | .bl a, .bl b => a == b
  | .bl a, .int j => (if a then (1 : Int) else 0) == j
  | .int i, .bl b => i == (if b then (1 : Int) else 0)
  | .int i, .int j => i == j
  | .str x, .str y => x == y
  | .lst xs, .lst ys => eqL xs ys
  | .tup xs, .tup ys => eqL xs ys
  | _, _ => false
def eqL : List D → List D → Bool
  | [], [] => true
  | x :: xs, y :: ys => eqD x y && eqL xs ys
  | _, _ => false
end
mutual
/-- plain data: no object, nested below n -/
def pln : Nat → D → Bool
  | _, .non => true
  | _, .bl _ => true
  | _, .int _ => true
  | _, .str s => s.all (· < 0x110000)
  | 0, .tup _ => false
  | 0, .lst _ => false
  | n + 1, .tup l => plnL n l
  | n + 1, .lst l => plnL n l
  | _, .ref _ => false
  | _, .obj _ _ => false
def plnL : Nat → List D → Bool
  | _, [] => true
  | n, d :: l => pln n d && plnL n l
end
/-- the list of a cell in its place -/
def vw (d : D) (S : Store) : D := match d with
  | .ref n => match S[n]? with
    | some (.lst l) => .lst l
    | _ => d
  | _ => d
/-- tuples and lists of ints in order; ints -/
def allInt : List D → Option (List Int)
  | [] => some []
  | .int i :: r => match allInt r with
    | some l => some (i :: l)
    | none => none
  | _ :: _ => none
def cmpI (op : Cp) (i j : Int) : Bool := match op with
  | .lt => decide (i < j)
  | .le => decide (i ≤ j)
  | .gt => decide (j < i)
  | .ge => decide (j ≤ i)
  | .eq => decide (i = j)
  | .ne => !decide (i = j)
  | _ => false
def flD : D → Bool
  | .non => true
  | .bl _ => true
  | .int _ => true
  | .str _ => true
  | _ => false
/-- x in a list or tuple -/
def inD (d e : D) (S : Store) : Option Bool := match e with
  | .tup l => if flD d && l.all flD then some (l.any fun x => eqD x d) else none
  | e => match lstOf e S with
    | some l => if pln 60 (vw d S) && plnL 60 l then some (l.any fun x => eqD x (vw d S)) else none
    | none => none
def intCmp (op : Cp) (d e : D) : Option Bool := match d, e with
  | .int i, .int j => some (cmpI op i j)
  | _, _ => none
def cmpD (op : Cp) (d e : D) (S : Store) : Option Bool := match op with
  | .eq => if pln 60 (vw d S) && pln 60 (vw e S) then some (eqD (vw d S) (vw e S)) else none
  | .ne => if pln 60 (vw d S) && pln 60 (vw e S) then some (!eqD (vw d S) (vw e S)) else none
  | .isIn => inD d e S
  | .notIn => match inD d e S with
    | some b => some (!b)
    | none => none
  | op => intCmp op d e
/-- a place of a sequence -/
def ixN (n : Nat) (i : Int) : Option Nat := if 0 ≤ i then (if i < n then some i.toNat else none) else if -(n : Int) ≤ i then some (i + n).toNat else none
def idxD (d e : D) (S : Store) : Option D := match e with
  | .int i => match d with
    | .str s => if s.length ≤ LIM then match ixN s.length i with
        | some k => match s[k]? with
          | some c => some (.str [c])
          | none => none
        | none => none
      else none
    | d => match seqOf d S with
      | some l => match ixN l.length i with
        | some k => l[k]?
        | none => none
      | none => none
  | _ => none
def sIx (n d : Nat) : Option Int → Nat
  | none => d
  | some v => if v < 0 then (v + (n : Int)).toNat else min v.toNat n
def cut {α : Type} (xs : List α) (lo hi : Option Int) : List α := (xs.drop (sIx xs.length 0 lo)).take (sIx xs.length xs.length hi - sIx xs.length 0 lo)
def slcD (m : Bool) (d : D) (lo hi : Option Int) (S : Store) : Rs D := match d with
  | .tup l => .ok (.tup (cut l lo hi)) S
  | .str l => if l.length ≤ LIM then .ok (.str (cut l lo hi)) S else .bad
  | d => match lstOf d S with
    | some l => mkL m (cut l lo hi) S
    | none => .bad
def isD (T : Tb) (d : D) (S : Store) (t : Ty) : Option Bool := match t with
  | .b t => match d with
    | .non => some false
    | .bl _ => some (t == .bool || t == .int)
    | .int _ => some (t == .int)
    | .str _ => some (t == .str)
    | .tup _ => some (t == .tuple)
    | .lst _ => some (t == .list)
    | .ref n => match S[n]? with
      | some (.lst _) => some (t == .list)
      | some (.ins c _) => if c < T.cls.length then some false else none
      | some (.dct _ _) => none
      | none => none
    | .obj c _ => if c < T.cls.length then some false else none
  | .c k => if k < T.cls.length then
      match d with
      | .ref n => match S[n]? with
        | some (.lst _) => some false
        | some (.ins c _) => if c < T.cls.length then some (c == k) else none
        | some (.dct _ _) => none
        | none => none
      | .obj c _ => if c < T.cls.length then some (c == k) else none
      | _ => some false
    else none
def isAny (T : Tb) (d : D) (S : Store) : List Ty → Option Bool
  | [] => some false
  | t :: r => match isD T d S t with
    | some true => some true
    | some false => isAny T d S r
    | none => none
/-! built-in functions -/
def sumI : List Int → Int
  | [] => 0
  | x :: r => x + sumI r
def insI (x : Int) : List Int → List Int
  | [] => [x]
  | y :: r => if x ≤ y then x :: y :: r else y :: insI x r
def sortI : List Int → List Int
  | [] => []
  | x :: r => insI x (sortI r)
/-- the order of lists of ints -/
def lexL : List Int → List Int → Bool
  | [], [] => false
  | [], _ :: _ => true
  | _ :: _, [] => false
  | x :: xs, y :: ys => if x = y then lexL xs ys else decide (x < y)
def insT (x : List Int) : List (List Int) → List (List Int)
  | [] => [x]
  | y :: r => if lexL y x = false then x :: y :: r else y :: insT x r
def sortT : List (List Int) → List (List Int)
  | [] => []
  | x :: r => insT x (sortT r)
def allTup : List D → Option (List (List Int))
  | [] => some []
  | .tup l :: r => match allInt l, allTup r with
    | some (x :: xs), some q => some ((x :: xs) :: q)
    | _, _ => none
  | _ :: _ => none
def tupI (l : List Int) : D := .tup (l.map .int)
def allBl : List D → Option (List Bool)
  | [] => some []
  | .bl b :: r => match allBl r with
    | some l => some (b :: l)
    | none => none
  | _ :: _ => none
def maxI : Int → List Int → Int
  | m, [] => m
  | m, x :: r => maxI (if x > m then x else m) r
def minI : Int → List Int → Int
  | m, [] => m
  | m, x :: r => minI (if x < m then x else m) r
def biD (b : Bi) (m : Bool) (ds : List D) (S : Store) : Rs D := match b, ds with
  | .len, [d] => match d with
    | .str s => if s.length ≤ LIM then .ok (.int s.length) S else .bad
    | d => match seqOf d S with
      | some l => .ok (.int l.length) S
      | none => .bad
  | .abs, [.int i] => .ok (.int (if i < 0 then -i else i)) S
  | .min, [.int i, .int j] => .ok (.int (if j < i then j else i)) S
  | .max, [.int i, .int j] => .ok (.int (if j > i then j else i)) S
  | .min, [d] => match lstOf d S with
    | some l => match allInt l with
      | some (x :: r) => .ok (.int (minI x r)) S
      | _ => .bad
    | none => .bad
  | .max, [d] => match lstOf d S with
    | some l => match allInt l with
      | some (x :: r) => .ok (.int (maxI x r)) S
      | _ => .bad
    | none => .bad
  | .sum, [d] => match seqOf d S with
    | some l => match allInt l with
      | some l => .ok (.int (sumI l)) S
      | none => .bad
    | none => .bad
  | .sorted, [d] => match seqOf d S with
    | some l => match allInt l with
      | some l => mkL m ((sortI l).map .int) S
      | none => match allTup l with
        | some l => mkL m ((sortT l).map tupI) S
        | none => .bad
    | none => .bad
  | .all, [d] => match lstOf d S with
    | some l => match allBl l with
      | some l => .ok (.bl (l.all id)) S
      | none => .bad
    | none => .bad
  | .any, [d] => match lstOf d S with
    | some l => match allBl l with
      | some l => .ok (.bl (l.any id)) S
      | none => .bad
    | none => .bad
  | .int, [.int i] => .ok (.int i) S
  | .int, [.bl b] => .ok (.int (if b then 1 else 0)) S
  | .str, [.int i] => if i.natAbs.log2 < 1920 then .ok (.str ((toString i).toList.map Char.toNat)) S else .bad
  | .list, [d] => match seqOf d S with
    | some l => mkL m l S
    | none => .bad
  | .tuple, [d] => match seqOf d S with
    | some l => .ok (.tup l) S
    | none => .bad
  | .bool, [.int i] => .ok (.bl (i != 0)) S
  | .bool, [.bl b] => .ok (.bl b) S
  | _, _ => .bad
def putAt (S : Store) (n : Nat) (c : Cell) : Store := S.set n c
def bmD (b : Bm) (d : D) (ds : List D) (S : Store) : Rs D := match b, ds with
  | .append, [e] => match d with
    | .ref n => match S[n]? with
      | some (.lst l) => if l.length < LIM then .ok .non (S.set n (.lst (l ++ [e]))) else .bad
      | _ => .bad
    | _ => .bad
  | .pop, [] => match d with
    | .ref n => match S[n]? with
      | some (.lst l) => match l[l.length - 1]? with
        | some e => .ok e (S.set n (.lst l.dropLast))
        | none => .bad
      | _ => .bad
    | _ => .bad
  | .bitLength, [] => match d with
    | .int i => .ok (.int (Builtin.Int.intBits i : Nat)) S
    | _ => .bad
  | _, _ => .bad
/-- the receiver is of the method's type -/
def bmOk (b : Bm) (d : D) (S : Store) : Bool := match b with
  | .bitLength => match d with
    | .int _ => true
    | _ => false
  | .index => match d with
    | .lst _ => true
    | .ref n => match S[n]? with
      | some (.lst _) => true
      | _ => false
    | _ => false
  | _ => match d with
    | .ref n => match S[n]? with
      | some (.lst _) => true
      | _ => false
    | _ => false
def setI (d e x : D) (S : Store) : Option Store := match d, e with
  | .ref n, .int i => match S[n]? with
    | some (.lst l) => match ixN l.length i with
      | some k => some (S.set n (.lst (l.set k x)))
      | none => none
    | _ => none
  | _, _ => none
/-- x += y, x -= y -/
def augV (sb : Bool) (x y : D) : Option D := match x, y with
  | .int i, .int j => some (.int (if sb then i - j else i + j))
  | _, _ => none
def refIx (d e : D) (S : Store) : Option D := match d with
  | .ref n => match S[n]? with
    | some (.lst l) => match e with
      | .int i => match ixN l.length i with
        | some k => l[k]?
        | none => none
      | _ => none
    | _ => none
  | _ => none
def valS (ρ : Fr) (i : Nat) : Option D := match ρ[i]? with
  | some (some d) => some d
  | _ => none
/-! attributes -/
def lookN {α : Type} (f : Nat) : List (Nat × α) → Option α
  | [] => none
  | (g, x) :: r => if g = f then some x else lookN f r
def putN (f : Nat) (x : D) : List (Nat × D) → List (Nat × D)
  | [] => [(f, x)]
  | (g, y) :: r => if g = f then (g, x) :: r else (g, y) :: putN f x r
def fldsOf (T : Tb) (c : Nat) : List Nat := match T.cls[c]? with
  | some C => C.flds
  | none => []
def attD (T : Tb) (d : D) (f : Nat) (S : Store) : Option D := match d with
  | .obj c l => lookN f ((fldsOf T c).zip l)
  | .ref n => match S[n]? with
    | some (.ins c fs) => if (fldsOf T c).contains f then lookN f fs else none
    | _ => none
  | _ => none
def mthC (T : Tb) (c f : Nat) : Option Nat := match T.cls[c]? with
  | some C => lookN f C.mths
  | none => none
def mthOf (T : Tb) (d : D) (f : Nat) (S : Store) : Option Nat := match d with
  | .obj c _ => if (fldsOf T c).contains f then none else mthC T c f
  | .ref n => match S[n]? with
    | some (.ins c fs) => if (fs.map (·.1)).contains f then none else mthC T c f
    | _ => none
  | _ => none
/-- an instance's class -/
def clsD (d : D) (S : Store) : Option Nat := match d with
  | .obj c _ => some c
  | .ref n => match S[n]? with
    | some (.ins c _) => some c
    | _ => none
  | _ => none
/-- no instance -/
def plK (d : D) (S : Store) : Bool := match d with
  | .obj _ _ => false
  | .ref n => match S[n]? with
    | some (.lst _) => true
    | _ => false
  | _ => true
def notR (r : D) (S : Store) : Rs D := match r with
  | .bl q => .ok (.bl (!q)) S
  | _ => .bad
def lenR (r : D) (S : Store) : Rs D := match r with
  | .int i => if 0 ≤ i ∧ i < 2 ^ 62 then .ok (.int i) S else .bad
  | _ => .bad
def revR (d : D) (S : Store) : Rs D := match d with
  | .tup l => if l.length ≤ LIM then .ok (.tup l.reverse) S else .bad
  | _ => .bad
mutual
/-- no cell from n on -/
def below (n : Nat) : D → Bool
  | .ref k => decide (k < n)
  | .tup l => belowL n l
  | .lst l => belowL n l
  | .obj _ l => belowL n l
  | _ => true
def belowL (n : Nat) : List D → Bool
  | [] => true
  | d :: l => below n d && belowL n l
end
def belowC (n : Nat) : Cell → Bool
  | .lst l => belowL n l
  | .ins _ fs => belowL n (fs.map (·.2))
  | .dct _ kvs => belowL n (kvs.map (·.2))
/-- may the cells behind those of S be forgotten? -/
def cutOk (S S' : Store) : Bool := decide (S'.take S.length = S) || (S'.take S.length).all (belowC S.length)
/-- behind a call: cells that nobody sees are dropped; fz: a new list that is handed back is frozen -/
def tidy (fz : Bool) (S : Store) (r : Rs D) : Rs D := match r with
  | .ok d S' =>
    if cutOk S S' then
      if below S.length d then .ok d (S'.take S.length)
      else if fz then
        match d with
        | .ref n => match S'[n]? with
          | some (.lst l) => if belowL S.length l then .ok (.lst l) (S'.take S.length) else .ok d S'
          | _ => .ok d S'
        | _ => .ok d S'
      else .ok d S'
    else .ok d S'
  | .ex c l S' => if cutOk S S' && belowL S.length l then .ex c l (S'.take S.length) else .ex c l S'
  | .bad => .bad
/-- C(..): a new instance, its __init__, then frozen (m: kept as a cell) -/
def makD (T : Tb) (fn1 : Nat → List D → Store → Rs D) (m : Bool) (c : Nat) (ds : List D) (S : Store) : Rs D := match T.cls[c]? with
  | some C => match C.init with
    | some f => match fn1 f (.ref S.length :: ds) (S ++ [.ins c []]) with
      | .ok .non S' =>
        if m then .ok (.ref S.length) S'
        else match S'[S.length]? with
          | some (.ins c' fs) => if c' = c ∧ fs.map (·.1) = C.flds ∧ belowL S.length (fs.map (·.2)) ∧ cutOk S S' then .ok (.obj c (fs.map (·.2))) (S'.take S.length) else .bad
          | _ => .bad
      | .ok _ _ => .bad
      | .ex x l S' => if cutOk S S' && belowL S.length l then .ex x l (S'.take S.length) else .ex x l S'
      | .bad => .bad
    | none => .bad
  | none => .bad

/-! #### targets, what is walked -/
def setS (ρ : Fr) (i : Nat) (d : D) : Fr := ρ.set i (some d)
def setAll : List Nat → List D → Fr → Option Fr
  | [], [], ρ => some ρ
  | i :: is, d :: ds, ρ => setAll is ds (setS ρ i d)
  | _, _, _ => none
def setT (tg : Tg) (d : D) (ρ : Fr) (S : Store) : Option Fr := match tg with
  | .nm i => some (setS ρ i d)
  | .tp is => match seqOf d S with
    | some l => setAll is l ρ
    | none => none
def wipe (ρ : Fr) : List Nat → Fr
  | [] => ρ
  | i :: is => (wipe ρ is).set i none
abbrev Gd := List (Nat × Cell)
/-- the lists that are walked stand as they stood -/
def gOk (g : Gd) (S : Store) : Bool := decide (∀ p ∈ g, S[p.1]? = some p.2)
def guard (d : D) (S : Store) : Gd := match d with
  | .ref n => match S[n]? with
    | some c => [(n, c)]
    | none => []
  | _ => []
def upTo (i : Int) : Nat → List D
  | 0 => []
  | n + 1 => .int i :: upTo (i + 1) n
def dnTo (i : Int) : Nat → List D
  | 0 => []
  | n + 1 => .int i :: dnTo (i - 1) n
def seqIt (d : D) (S : Store) : Rs (List D × Gd) := match d with
  | .str s => .ok (s.map fun c => .str [c], []) S
  | d => match seqOf d S with
    | some l => .ok (l, guard d S) S
    | none => .bad
def rngIt (ds : List D) (S : Store) : Rs (List D × Gd) := match ds with
  | [.int j] => if j ≤ LIM ∧ -(LIM : Int) ≤ j then .ok (upTo 0 j.toNat, []) S else .bad
  | [.int i, .int j] => if j - i ≤ LIM ∧ i.natAbs < 2 ^ 61 ∧ j.natAbs < 2 ^ 61 then .ok (upTo i (j - i).toNat, []) S else .bad
  | [.int i, .int j, .int c] => if c = -1 ∧ i - j ≤ LIM ∧ i.natAbs < 2 ^ 61 ∧ j.natAbs < 2 ^ 61 then .ok (dnTo i (i - j).toNat, []) S else .bad
  | _ => .bad
def enmL (i : Int) : List D → List D
  | [] => []
  | d :: r => .tup [.int i, d] :: enmL (i + 1) r
def enmIt (d : D) (S : Store) : Rs (List D × Gd) := match seqOf d S with
  | some l => .ok (enmL 0 l, guard d S) S
  | none => .bad
def zipIt (d e : D) (S : Store) : Rs (List D × Gd) := match d, e with
  | .tup l, .tup r => .ok ((l.zip r).map fun p => .tup [p.1, p.2], []) S
  | d, e => match lstOf d S, lstOf e S with
    | some l, some r => .ok ((l.zip r).map fun p => .tup [p.1, p.2], guard d S ++ guard e S) S
    | _, _ => .bad
def revIt (d : D) (S : Store) : Rs (List D × Gd) := match seqOf d S with
  | some l => .ok (l.reverse, guard d S) S
  | none => .bad
def ofO {α : Type} (o : Option α) (S : Store) : Rs α := match o with
  | some a => .ok a S
  | none => .bad
/-- the items of a comprehension, one behind another; k: the new list's cell -/
def lcL (tg : Tg) (fc : Fr → Store → Rs Bool) (fe : Fr → Store → Rs D) (ρ : Fr) (g : Gd) (k : Nat) : List D → Store → Rs Unit
  | [], S => if gOk g S then .ok () S else .bad
  | d :: ds, S =>
    if gOk g S then
      match setT tg d ρ S with
      | some ρ1 => (fc ρ1 S).th fun b S1 =>
        if b then (fe ρ1 S1).th fun x S2 => match S2[k]? with
          | some (.lst acc) => if acc.length < LIM then lcL tg fc fe ρ g k ds (S2.set k (.lst (acc ++ [x]))) else .bad
          | _ => .bad
        else lcL tg fc fe ρ g k ds S1
      | none => .bad
    else .bad
def tgIx : Tg → List Nat
  | .nm i => [i]
  | .tp is => is
/-- .. of two: the inner items are looked up in each turn of the outer ones -/
def lcL2 (tg : Tg) (fc : Fr → Store → Rs Bool) (fw : Fr → Store → Rs (List D × Gd)) (tg2 : Tg) (fc2 : Fr → Store → Rs Bool) (fe : Fr → Store → Rs D) (ρ : Fr) (g : Gd) (k : Nat) : List D → Store → Rs Unit
  | [], S => if gOk g S then .ok () S else .bad
  | d :: ds, S =>
    if gOk g S then
      match setT tg d ρ S with
      | some ρ1 => (fc ρ1 S).th fun b S1 =>
        if b then (fw ρ1 S1).th fun p S2 => (lcL tg2 fc2 fe (wipe ρ1 (tgIx tg2)) p.2 k p.1 S2).th fun _ S3 => lcL2 tg fc fw tg2 fc2 fe ρ g k ds S3
        else lcL2 tg fc fw tg2 fc2 fe ρ g k ds S1
      | none => .bad
    else .bad
/-- .. its end -/
def lcE (m : Bool) (S S' : Store) : Rs D := match S'[S.length]? with
  | some (.lst l) => if m then .ok (.ref S.length) S' else if cutOk S S' && belowL S.length l then .ok (.lst l) (S'.take S.length) else .ok (.ref S.length) S'
  | _ => .bad
def pick {α : Type} (ds : List α) : List Nat → Option (List α)
  | [] => some []
  | i :: r => match ds[i]?, pick ds r with
    | some d, some l => some (d :: l)
    | _, _ => none

/-! dicts whose keys are tuples of ints -/
def keyD : D → Option (List Int)
  | .tup l => allInt l
  | _ => none
def getK (k : List Int) : List (List Int × D) → Option D
  | [] => none
  | (j, x) :: r => if j = k then some x else getK k r
def putD (k : List Int) (x : D) (kvs : List (List Int × D)) : List (List Int × D) :=
  if kvs.any (fun q => decide (q.1 = k)) then kvs.map (fun q => if q.1 = k then (q.1, x) else q) else kvs ++ [(k, x)]
def dctOf (d : D) (S : Store) : Option (List (List Int × D)) := match d with
  | .ref n => match S[n]? with
    | some (.dct _ kvs) => some kvs
    | _ => none
  | _ => none
def dgetD (d k x : D) (S : Store) : Option D := match dctOf d S, keyD k with
  | some kvs, some k => match getK k kvs with
    | some y => some y
    | none => some x
  | _, _ => none
/-- the ints of a list -/
def lstI (d : D) (S : Store) : Option (List Int) := match lstOf d S with
  | some l => allInt l
  | none => none
def dputD (d : D) (k : List Int) (x : D) (S : Store) : Option Store := match d with
  | .ref n => match S[n]? with
    | some (.dct false kvs) => if kvs.length < LIM then some (S.set n (.dct false (putD k x kvs))) else none
    | _ => none
  | _ => none
/-- {k: x}, the new dict's cell at n -/
def dnewD (n : Nat) (k : List Int) (x : D) (S : Store) : Rs D := match S[n]? with
  | some (.dct false []) => .ok (.ref n) (S.set n (.dct false [(k, x)]))
  | _ => .bad
def opnD (d : D) (S : Store) : Option (Nat × List (List Int × D)) := match d with
  | .ref n => match S[n]? with
    | some (.dct false kvs) => some (n, kvs)
    | _ => none
  | _ => none
def itmL (kvs : List (List Int × D)) : List D := kvs.map fun q => .tup [tupI q.1, q.2]
def isNo (n : Bool) (d : D) : Bool := match d with
  | .non => !n
  | _ => n
/-! #### expressions -/
mutual
def evE (C : Cs) : Ex → Fr → Store → Rs D
  | .var i, ρ, S => match ρ[i]? with
    | some (some d) => .ok d S
    | _ => .bad
  | .non, _, S => .ok .non S
  | .bl b, _, S => .ok (.bl b) S
  | .int i, _, S => .ok (.int i) S
  | .str s, _, S => .ok (.str s) S
  | .glb g, _, S => ofO C.T.glb[g]? S
  | .bin op m a b, ρ, S => (evE C a ρ S).th fun d S1 => (evE C b ρ S1).th fun e S2 => binD op m d e S2
  | .neg a, ρ, S => (evE C a ρ S).th fun d S1 => match d with
    | .int i => .ok (.int (-i)) S1
    | _ => .bad
  | .cmp op a b, ρ, S => (evE C a ρ S).th fun d S1 => (evE C b ρ S1).th fun e S2 => (ofO (cmpD op d e S2) S2).th fun k S3 => .ok (.bl k) S3
  | .chn o1 o2 a b c, ρ, S => (evE C a ρ S).th fun d S1 => (evE C b ρ S1).th fun e S2 => (ofO (cmpD o1 d e S2) S2).th fun k S3 =>
      if k then (evE C c ρ S3).th fun f S4 => (ofO (cmpD o2 e f S4) S4).th fun k2 S5 => .ok (.bl k2) S5 else .ok (.bl false) S3
  | .isN n a, ρ, S => (evE C a ρ S).th fun d S1 => .ok (.bl (isNo n d)) S1
  | .and a b, ρ, S => (evE C a ρ S).th fun d S1 => (ofO (truD d S1) S1).th fun k S2 => if k then evE C b ρ S2 else .ok d S2
  | .or a b, ρ, S => (evE C a ρ S).th fun d S1 => (ofO (truD d S1) S1).th fun k S2 => if k then .ok d S2 else evE C b ρ S2
  | .not a, ρ, S => (evE C a ρ S).th fun d S1 => (ofO (truD d S1) S1).th fun k S2 => .ok (.bl (!k)) S2
  | .ife c a b, ρ, S => (evT C c ρ S).th fun k S1 => if k then evE C a ρ S1 else evE C b ρ S1
  | .tup es, ρ, S => (evL C es ρ S).th fun ds S1 => .ok (.tup ds) S1
  | .lst m es, ρ, S => (evL C es ρ S).th fun ds S1 => mkL m ds S1
  | .idx a b, ρ, S => (evE C a ρ S).th fun d S1 => (evE C b ρ S1).th fun e S2 => ofO (idxD d e S2) S2
  | .slc m a lo hi, ρ, S => (evE C a ρ S).th fun d S1 => (evI C lo ρ S1).th fun l S2 => (evI C hi ρ S2).th fun h S3 => slcD m d l h S3
  | .att a f, ρ, S => (evE C a ρ S).th fun d S1 => ofO (attD C.T d f S1) S1
  | .call f es, ρ, S => (evL C es ρ S).th fun ds S1 => C.fn f ds S1
  | .calk f es ks pm, ρ, S => (evL C es ρ S).th fun ds S1 => (evL C ks ρ S1).th fun zs S2 => (ofO (pick (ds ++ zs) pm) S2).th fun ws S3 => C.fn f ws S3
  | .mak m c es, ρ, S => (evL C es ρ S).th fun ds S1 => makD C.T C.fn1 m c ds S1
  | .makk m c es ks pm, ρ, S => (evL C es ρ S).th fun ds S1 => (evL C ks ρ S1).th fun zs S2 => (ofO (pick (ds ++ zs) pm) S2).th fun ws S3 => makD C.T C.fn1 m c ws S3
  | .mth a f es, ρ, S => (evE C a ρ S).th fun d S1 => (ofO (mthOf C.T d f S1) S1).th fun k S2 => (evL C es ρ S2).th fun ds S3 => C.fn k (d :: ds) S3
  | .bi b m es, ρ, S => (evL C es ρ S).th fun ds S1 => biD b m ds S1
  | .isI a ts _, ρ, S => (evE C a ρ S).th fun d S1 => (ofO (isAny C.T d S1 ts) S1).th fun k S2 => .ok (.bl k) S2
  | .bm b a es, ρ, S => (evE C a ρ S).th fun d S1 => if bmOk b d S1 then (evL C es ρ S1).th fun ds S2 => bmD b d ds S2 else .bad
  | .lc m own tg it c e, ρ, S => (evW C it ρ S).th fun p S1 =>
      ((lcL tg (fun ρ S => evC C c ρ S) (fun ρ S => evE C e ρ S) (wipe ρ own) p.2 S1.length p.1 (S1 ++ [.lst []])).nox).th fun _ S2 => lcE m S1 S2
  | .lc2 m own tg it c tg2 it2 c2 e, ρ, S => (evW C it ρ S).th fun p S1 =>
      ((lcL2 tg (fun ρ S => evC C c ρ S) (fun ρ S => evW C it2 ρ S) tg2 (fun ρ S => evC C c2 ρ S) (fun ρ S => evE C e ρ S) (wipe ρ own) p.2 S1.length p.1 (S1 ++ [.lst []])).nox).th fun _ S2 => lcE m S1 S2
  | .dnew, _, S => .ok (.ref S.length) (S ++ [.dct false []])
  | .dlit e v, ρ, S => (evE C e ρ (S ++ [.dct false []])).th fun d S1 => (ofO (lstI d S1) S1).th fun k S2 => (evE C v ρ S2).th fun x S3 => dnewD S.length k x S3
  | .dget a k v, ρ, S => (evE C a ρ S).th fun d S1 => if (dctOf d S1).isSome then (evE C k ρ S1).th fun y S2 => (evE C v ρ S2).th fun x S3 => ofO (dgetD d y x S3) S3 else .bad
  | .slr a, ρ, S => (evE C a ρ S).th fun d S1 => revR d S1
  | .lno a f, ρ, S => (evE C a ρ S).th fun d S1 => (ofO (mthOf C.T d f S1) S1).th fun k S2 => ((C.fn1 k [d] S2).nox).th fun r S3 => lenR r S3
  | .eqo a b f, ρ, S => (evE C a ρ S).th fun d S1 => (evE C b ρ S1).th fun e S2 => (ofO (mthOf C.T d f S2) S2).th fun k S3 => if (clsD d S3).isSome && (decide (clsD e S3 = clsD d S3) || plK e S3) then (C.fn k [d, e] S3).nox else .bad
  | .mthk a f g es ks pm, ρ, S => (evE C a ρ S).th fun d S1 => (ofO (mthOf C.T d f S1) S1).th fun k S2 => if k = g then (evL C es ρ S2).th fun ds S3 => (evL C ks ρ S3).th fun zs S4 => (ofO (pick (ds ++ zs) pm) S4).th fun ws S5 => C.fn k (d :: ws) S5 else .bad
  | .neo a b f, ρ, S => (evE C a ρ S).th fun d S1 => (evE C b ρ S1).th fun e S2 => (ofO (mthOf C.T d f S2) S2).th fun k S3 => if (clsD d S3).isSome && (decide (clsD e S3 = clsD d S3) || plK e S3) then ((C.fn1 k [d, e] S3).nox).th fun r S4 => notR r S4 else .bad
/-- as a test -/
def evT (C : Cs) : Ex → Fr → Store → Rs Bool
  | .and a b, ρ, S => (evT C a ρ S).th fun k S1 => if k then evT C b ρ S1 else .ok false S1
  | .or a b, ρ, S => (evT C a ρ S).th fun k S1 => if k then .ok true S1 else evT C b ρ S1
  | .not a, ρ, S => (evT C a ρ S).th fun k S1 => .ok (!k) S1
  | .cmp op a b, ρ, S => (evE C a ρ S).th fun d S1 => (evE C b ρ S1).th fun e S2 => ofO (cmpD op d e S2) S2
  | .chn o1 o2 a b c, ρ, S => (evE C a ρ S).th fun d S1 => (evE C b ρ S1).th fun e S2 => (ofO (cmpD o1 d e S2) S2).th fun k S3 =>
      if k then (evE C c ρ S3).th fun f S4 => ofO (cmpD o2 e f S4) S4 else .ok false S3
  | .isN n a, ρ, S => (evE C a ρ S).th fun d S1 => .ok (isNo n d) S1
  | .var i, ρ, S => match ρ[i]? with
    | some (some d) => ofO (truD d S) S
    | _ => .bad
  | .bl b, _, S => .ok b S
  | .call f es, ρ, S => (evL C es ρ S).th fun ds S1 => (C.fn f ds S1).th fun d S2 => ofO (truD d S2) S2
  | .calk f es ks pm, ρ, S => (evL C es ρ S).th fun ds S1 => (evL C ks ρ S1).th fun zs S2 => (ofO (pick (ds ++ zs) pm) S2).th fun ws S3 => (C.fn f ws S3).th fun d S4 => ofO (truD d S4) S4
  | .mth a f es, ρ, S => (evE C a ρ S).th fun d S1 => (ofO (mthOf C.T d f S1) S1).th fun k S2 => (evL C es ρ S2).th fun ds S3 => (C.fn k (d :: ds) S3).th fun d S4 => ofO (truD d S4) S4
  | .bi b m es, ρ, S => (evL C es ρ S).th fun ds S1 => (biD b m ds S1).th fun d S2 => ofO (truD d S2) S2
  | .isI a ts _, ρ, S => (evE C a ρ S).th fun d S1 => ofO (isAny C.T d S1 ts) S1
  | .idx a b, ρ, S => (evE C a ρ S).th fun d S1 => (evE C b ρ S1).th fun e S2 => (ofO (idxD d e S2) S2).th fun d S3 => ofO (truD d S3) S3
  | .att a f, ρ, S => (evE C a ρ S).th fun d S1 => (ofO (attD C.T d f S1) S1).th fun d S2 => ofO (truD d S2) S2
  | .bin op m a b, ρ, S => (evE C a ρ S).th fun d S1 => (evE C b ρ S1).th fun e S2 => (binD op m d e S2).th fun d S3 => ofO (truD d S3) S3
  | _, _, _ => .bad
def evL (C : Cs) : Exs → Fr → Store → Rs (List D)
  | .nil, _, S => .ok [] S
  | .cons e es, ρ, S => (evE C e ρ S).th fun d S1 => (evL C es ρ S1).th fun ds S2 => .ok (d :: ds) S2
/-- a slice's part -/
def evI (C : Cs) : Exo → Fr → Store → Rs (Option Int)
  | .no, _, S => .ok none S
  | .yes e, ρ, S => (evE C e ρ S).th fun d S1 => match d with
    | .int i => .ok (some i) S1
    | _ => .bad
/-- a comprehension's test -/
def evC (C : Cs) : Exo → Fr → Store → Rs Bool
  | .no, _, S => .ok true S
  | .yes e, ρ, S => evT C e ρ S
def evW (C : Cs) : Iter → Fr → Store → Rs (List D × Gd)
  | .seq e, ρ, S => (evE C e ρ S).th fun d S1 => seqIt d S1
  | .rng es, ρ, S => (evL C es ρ S).th fun ds S1 => rngIt ds S1
  | .enm e, ρ, S => (evE C e ρ S).th fun d S1 => enmIt d S1
  | .zip a b, ρ, S => (evE C a ρ S).th fun d S1 => (evE C b ρ S1).th fun e S2 => zipIt d e S2
  | .rev e, ρ, S => (evE C e ρ S).th fun d S1 => revIt d S1
end

/-! #### statements -/
inductive Os where
  | nx (ρ : Fr) (S : Store) | rt (d : D) (S : Store) | bk (ρ : Fr) (S : Store) | ct (ρ : Fr) (S : Store)
  | ex (c : Nat) (l : List D) (ρ : Fr) (S : Store)
  | bad
def Os.sq (r : Os) (k : Fr → Store → Os) (_t : Tag k := .mk) : Os := match r with
  | .nx ρ S => k ρ S
  | r => r
def Rs.os {α : Type} (r : Rs α) (ρ : Fr) (k : α → Store → Os) (_t : Tag k := .mk) : Os := match r with
  | .ok a S => k a S
  | .ex c l S => .ex c l ρ S
  | .bad => .bad
/-- a for over items -/
def forL (tg : Tg) (f : Fr → Store → Os) (g : Gd) : List D → Fr → Store → Os
  | [], ρ, S => if gOk g S then .nx ρ S else .bad
  | d :: ds, ρ, S =>
    if gOk g S then
      match setT tg d ρ S with
      | some ρ1 => match f ρ1 S with
        | .nx ρ2 S2 => forL tg f g ds ρ2 S2
        | .ct ρ2 S2 => forL tg f g ds ρ2 S2
        | .bk ρ2 S2 => .nx ρ2 S2
        | r => r
      | none => .bad
    else .bad
/-- behind the items of the dict at n: it is open again -/
def opn (n : Nat) (kvs : List (List Int × D)) (r : Os) : Os := match r with
  | .nx ρ S => .nx ρ (S.set n (.dct false kvs))
  | .rt d S => .rt d (S.set n (.dct false kvs))
  | .bk ρ S => .bk ρ (S.set n (.dct false kvs))
  | .ct ρ S => .ct ρ (S.set n (.dct false kvs))
  | r => r
/-- at most n turns of a while (none: more are asked) -/
def whlN (c : Fr → Store → Rs Bool) (f : Fr → Store → Os) : Nat → Fr → Store → Option Os
  | 0, _, _ => none
  | n + 1, ρ, S => match c ρ S with
    | .ok true S1 => match f ρ S1 with
      | .nx ρ2 S2 => whlN c f n ρ2 S2
      | .ct ρ2 S2 => whlN c f n ρ2 S2
      | .bk ρ2 S2 => some (.nx ρ2 S2)
      | r => some r
    | .ok false S1 => some (.nx ρ S1)
    | .ex x l S1 => some (.ex x l ρ S1)
    | .bad => some .bad
def whl (c : Fr → Store → Rs Bool) (f : Fr → Store → Os) (ρ : Fr) (S : Store) : Os :=
  if h : ∃ n r, whlN c f n ρ S = some r then h.choose_spec.choose else .bad
/-- the names of a caught exception's fields -/
def excF (T : Tb) (c : Nat) : List Nat := T.exc.getD c []
def ancOf (T : Tb) (c : Nat) : List Nat := T.anc.getD c []
mutual
/-- an except suite's expression: the exception is of class k, with the fields l -/
def evHx (C : Cs) (k : Nat) (l : List D) : Hx → Fr → Store → Rs D
  | .pl a, ρ, S => evE C a ρ S
  | .fld f, _, S => ofO (lookN f ((excF C.T k).zip l)) S
  | .isx ks _, _, S => .ok (.bl (ks.any fun j => (ancOf C.T k).contains j)) S
  | .and a b, ρ, S => (evHx C k l a ρ S).th fun d S1 => (ofO (truD d S1) S1).th fun q S2 => if q then evHx C k l b ρ S2 else .ok d S2
  | .not a, ρ, S => (evHx C k l a ρ S).th fun d S1 => (ofO (truD d S1) S1).th fun q S2 => .ok (.bl (!q)) S2
  | .call f es, ρ, S => (evHl C k l es ρ S).th fun ds S1 => C.fn f ds S1
  | .tup es, ρ, S => (evHl C k l es ρ S).th fun ds S1 => .ok (.tup ds) S1
def evHl (C : Cs) (k : Nat) (l : List D) : Hxs → Fr → Store → Rs (List D)
  | .nil, _, S => .ok [] S
  | .cons h es, ρ, S => (evHx C k l h ρ S).th fun d S1 => (evHl C k l es ρ S1).th fun ds S2 => .ok (d :: ds) S2
end
def evHt (C : Cs) (k : Nat) (l : List D) : Hx → Fr → Store → Rs Bool
  | .pl a, ρ, S => evT C a ρ S
  | .isx ks _, _, S => .ok (ks.any fun j => (ancOf C.T k).contains j) S
  | .not a, ρ, S => (evHt C k l a ρ S).th fun q S1 => .ok (!q) S1
  | _, _, _ => .bad
def evHs (C : Cs) (k : Nat) (l : List D) : Hs → Fr → Store → Rs D
  | .ret h, ρ, S => evHx C k l h ρ S
  | .ife c a r, ρ, S => (evHt C k l c ρ S).th fun q S1 => if q then evHs C k l a ρ S1 else evHs C k l r ρ S1
mutual
def exS (C : Cs) : St → Fr → Store → Os
  | .ex e, ρ, S => (evE C e ρ S).os ρ fun _ S1 => .nx ρ S1
  | .asg i e, ρ, S => (evE C e ρ S).os ρ fun d S1 => .nx (setS ρ i d) S1
  | .asgT is e, ρ, S => (evE C e ρ S).os ρ fun d S1 => match setT (.tp is) d ρ S1 with
    | some ρ1 => .nx ρ1 S1
    | none => .bad
  | .swp i j a b, ρ, S => (evE C a ρ S).os ρ fun d S1 => (evE C b ρ S1).os ρ fun e S2 => .nx (setS (setS ρ i d) j e) S2
  | .asgI o i e, ρ, S => (evE C e ρ S).os ρ fun x S1 => (evE C o ρ S1).os ρ fun d S2 => (evE C i ρ S2).os ρ fun k S3 => match setI d k x S3 with
    | some S4 => .nx ρ S4
    | none => .bad
  | .augN i sb e, ρ, S => (ofO (valS ρ i) S).os ρ fun x S0 => (evE C e ρ S0).os ρ fun y S1 => match augV sb x y with
    | some z => .nx (setS ρ i z) S1
    | none => .bad
  | .augI o i sb e, ρ, S => (evE C o ρ S).os ρ fun d S1 => (evE C i ρ S1).os ρ fun k S2 => (ofO (refIx d k S2) S2).os ρ fun x S3 => (evE C e ρ S3).os ρ fun y S4 => match augV sb x y with
    | some z => match setI d k z S4 with
      | some S5 => .nx ρ S5
      | none => .bad
    | none => .bad
  | .asg2 i j e, ρ, S => (evE C e ρ S).os ρ fun d S1 => .nx (setS (setS ρ i d) j d) S1
  | .asgA o f e, ρ, S => (evE C e ρ S).os ρ fun x S1 => (evE C o ρ S1).os ρ fun d S2 => match d with
    | .ref n => match S2[n]? with
      | some (.ins c fs) => if fs.length < 1000 ∧ (fldsOf C.T c).contains f then .nx ρ (S2.set n (.ins c (putN f x fs))) else .bad
      | _ => .bad
    | _ => .bad
  | .ret e, ρ, S => (evE C e ρ S).os ρ fun d S1 => .rt d S1
  | .retN, _, S => .rt .non S
  | .pas, ρ, S => .nx ρ S
  | .nev, _, _ => .bad
  | .brk, ρ, S => .bk ρ S
  | .cnt, ρ, S => .ct ρ S
  | .ife c a b, ρ, S => (evT C c ρ S).os ρ fun k S1 => if k then exSs C a ρ S1 else exSs C b ρ S1
  | .whl c b, ρ, S => whl (fun ρ S => evT C c ρ S) (fun ρ S => exSs C b ρ S) ρ S
  | .forr tg it b, ρ, S => (evW C it ρ S).os ρ fun p S1 => forL tg (fun ρ S => exSs C b ρ S) p.2 p.1 ρ S1
  | .forI i j v b, ρ, S => (ofO (valS ρ v) S).os ρ fun d S1 => match opnD d S1 with
    | some (n, kvs) => opn n kvs (forL (.tp [i, j]) (fun ρ S => exSs C b ρ S) [(n, .dct true kvs)] (itmL kvs) ρ (S1.set n (.dct true kvs)))
    | none => .bad
  | .rai c es, ρ, S => (evL C es ρ S).os ρ fun ds S1 => if ds.length = (excF C.T c).length ∧ ds.length = 1 then .ex c ds ρ S1 else .bad
  | .tryE b c i h, ρ, S => match exSs C b ρ S with
    | .ex x l ρ1 S1 => if (ancOf C.T x).contains c then (evHs C x l h (match i with
        | some j => ρ1.set j none
        | none => ρ1) S1).nox.os ρ1 fun d S2 => .rt d S2
      else .ex x l ρ1 S1
    | r => r
def exSs (C : Cs) : Sts → Fr → Store → Os
  | .nil, ρ, S => .nx ρ S
  | .cons s ss, ρ, S => (exS C s ρ S).sq fun ρ1 S1 => exSs C ss ρ1 S1
  | .dset i e o v ss, ρ, S => if ρ.length ≤ i then .bad else (evE C e ρ S).os ρ fun d S1 => (ofO (lstI d S1) S1).os ρ fun k S2 => (evE C v (setS ρ i (tupI k)) S2).os (setS ρ i (tupI k)) fun x S3 => (evE C o (setS ρ i (tupI k)) S3).os (setS ρ i (tupI k)) fun q S4 => match dputD q k x S4 with
    | some S5 => exSs C ss (setS ρ i (tupI k)) S5
    | none => .bad
end

/-! #### defs -/
def startF (n : Nat) (ds : List D) : Fr := ds.map some ++ List.replicate (n - ds.length) none
def toR : Os → Rs D
  | .nx _ S => .ok .non S
  | .rt d S => .ok d S
  | .ex c l _ S => .ex c l S
  | _ => .bad
def runB (C : Cs) (f : Nat) (ds : List D) (S : Store) : Rs D := match C.T.fns[f]? with
  | some F => if ds.length = F.np then tidy F.fz S (toR (exSs C F.body (startF F.nv ds) S)) else .bad
  | none => .bad
def csOf (T : Tb) : Nat → Cs
  | 0 => ⟨T, fun _ _ _ => .bad, fun _ _ _ => .bad⟩
  | n + 1 => ⟨T, runB (csOf T n), (csOf T n).fn⟩
/-- a call at level n -/
def run (T : Tb) (n : Nat) : Nat → List D → Store → Rs D := (csOf T n).fn
theorem csOf_T (T : Tb) (n : Nat) : (csOf T n).T = T := by cases n <;> rfl
theorem csOf_fn (T : Tb) (n : Nat) : (csOf T n).fn = run T n := rfl
theorem csOf_fn1 (T : Tb) (n : Nat) : (csOf T (n + 1)).fn1 = run T n := rfl
theorem run_succ (T : Tb) (n f : Nat) (ds : List D) (S : Store) : run T (n + 1) f ds S = runB (csOf T n) f ds S := rfl
theorem run_zero (T : Tb) (f : Nat) (ds : List D) (S : Store) : run T 0 f ds S = .bad := rfl
end
end Ev
end
section
set_option maxRecDepth 100000
set_option maxHeartbeats 4000000
/-! Ev, part 2: does a text of the small language stand for a text of Python? -/
namespace Ev
open PySem
/-- the names -/
structure Nm where
  fns : List Str
  /-- calls with keywords: the def, how many values, the keywords, where each parameter is found -/
  kws : List (Nat × Nat × List Str × List Nat)
  cls : List Str
  /-- .. of classes -/
  ckw : List (Nat × Nat × List Str × List Nat)
  /-- .. of methods -/
  mkw : List (Nat × Nat × List Str × List Nat)
  exc : List Str
  atts : List Str
  glb : List Str
  /-- the defs that except suites may reach -/
  hot : List Nat
/-- where an expression stands: the slots' names, the scope, the block's own scope (a comprehension) -/
structure Sx where
  N : List Str
  sc : Scope
  blk : Option Scope
  /-- within an except suite, or called from there -/
  hot : Bool
def seeB (X : Sx) (i : Nat) (x : Str) : Bool := decide (X.N[i]? = some x) && !(x == ("__debug__" : Str)) && !(x == ("__classdict__" : Str)) && (match X.sc.names.lookup x with
  | some .local => true
  | some .cell => true
  | some .free => true
  | _ => false)
def putB (X : Sx) (i : Nat) (x : Str) : Bool := decide (X.N[i]? = some x) && (match X.sc.names.lookup x with
  | some .local => true
  | some .cell => (match X.blk with
    | none => true
    | some b => decide (b.names.lookup x = some .cell))
  | _ => false)
def gloB (X : Sx) (x : Str) : Bool := (match X.sc.names.lookup x with
  | some .globalImplicit => true
  | _ => false) && !(x == ("__debug__" : Str)) && !(x == ("__name__" : Str)) && !(x == ("super" : Str)) && !(x == ("" : Str))
def Op.of : Op → Operator
  | .add => .Add | .sub => .Sub | .mul => .Mult | .div => .FloorDiv | .mod => .Mod | .pow => .Pow | .shl => .LShift | .shr => .RShift
  | .band => .BitAnd | .bor => .BitOr | .bxor => .BitXor
def opB (o : Op) (p : Operator) : Bool := match o, p with
  | .add, .Add => true | .sub, .Sub => true | .mul, .Mult => true | .div, .FloorDiv => true | .mod, .Mod => true | .pow, .Pow => true
  | .shl, .LShift => true | .shr, .RShift => true | .band, .BitAnd => true | .bor, .BitOr => true | .bxor, .BitXor => true
  | _, _ => false
def Cp.of : Cp → CmpOp
  | .eq => .Eq | .ne => .NotEq | .lt => .Lt | .le => .LtE | .gt => .Gt | .ge => .GtE | .isIn => .In | .notIn => .NotIn
def cpB (o : Cp) (p : CmpOp) : Bool := match o, p with
  | .eq, .Eq => true | .ne, .NotEq => true | .lt, .Lt => true | .le, .LtE => true | .gt, .Gt => true | .ge, .GtE => true
  | .isIn, .In => true | .notIn, .NotIn => true
  | _, _ => false
def Bi.of : Bi → Str
  | .len => "len" | .abs => "abs" | .min => "min" | .max => "max" | .sum => "sum" | .sorted => "sorted" | .all => "all" | .any => "any"
  | .int => "int" | .str => "str" | .list => "list" | .tuple => "tuple" | .bool => "bool"
def Bm.of : Bm → Str
  | .append => "append" | .pop => "pop" | .extend => "extend" | .index => "index" | .bitLength => "bit_length"
def Bt.of : Bt → Str
  | .int => "int" | .bool => "bool" | .str => "str" | .tuple => "tuple" | .list => "list" | .dict => "dict"
def notSlice : Expr → Bool
  | .Slice _ _ _ _ => false
  | _ => true
def notTuple : Expr → Bool
  | .Tuple _ _ _ => false
  | _ => true
def notComp : Expr → Bool
  | .ListComp _ _ _ _ => false
  | .SetComp _ _ _ _ => false
  | .DictComp _ _ _ _ _ => false
  | _ => true
def tyB (M : Nm) (t : Ty) (X : Sx) (e : Expr) : Bool := match e with
  | .Name x _ => gloB X x && (match t with
    | .b t => decide (x = t.of)
    | .c k => decide (M.cls[k]? = some x))
  | _ => false
def tysB (M : Nm) (X : Sx) : List Ty → List Expr → Bool
  | [], [] => true
  | t :: r, e :: es => tyB M t X e && tysB M X r es
  | _, _ => false
def tgsB (X : Sx) : List Nat → List Expr → Bool
  | [], [] => true
  | i :: is, e :: es => (match e with
    | .Name x _ => putB X i x
    | _ => false) && tgsB X is es
  | _, _ => false
def tgB (X : Sx) (t : Tg) (e : Expr) : Bool := match t with
  | .nm i => (match e with
    | .Name x _ => putB X i x
    | _ => false)
  | .tp is => (match e with
    | .Tuple es _ _ => !X.hot && tgsB X is es
    | _ => false)
def hF (M : Nm) (X : Sx) (f : Nat) : Bool := !X.hot || M.hot.contains f
/-- the built-ins that ask no calm -/
def biHot : Bi → Bool
  | .len => true | .abs => true | .int => true | .str => true | .list => true | .tuple => true | .bool => true
  | _ => false
def kwN : List Keyword → List Str
  | [] => []
  | q :: qs => (q.arg.getD "") :: kwN qs
def kwE : List Keyword → List Expr
  | [] => []
  | q :: qs => q.value :: kwE qs
def kwAll (qs : List Keyword) : Bool := qs.all fun q => q.arg.isSome
mutual
def chkE (M : Nm) : Ex → Sx → Expr → Bool
  | .var i, X, e => (match e with
    | .Name x _ => seeB X i x
    | _ => false)
  | .non, X, e => (match e with
    | .Constant .none _ _ => true
    | _ => false)
  | .bl b, X, e => (match e with
    | .Constant (.bool c) _ _ => b == c
    | _ => false)
  | .int i, X, e => (match e with
    | .Constant (.int j) _ _ => decide (i = j)
    | _ => false)
  | .str s, X, e => (match e with
    | .Constant (.str x) _ _ => decide (x = ⟨s.toArray⟩)
    | _ => false)
  | .glb g, X, e => (match e with
    | .Name x _ => gloB X x && decide (M.glb[g]? = some x)
    | _ => false)
  | .bin op _ a b, X, e => (match e with
    | .BinOp x p y _ => opB op p && (chkE M a X x && chkE M b X y)
    | _ => false)
  | .neg a, X, e => (match e with
    | .UnaryOp .USub x _ => chkE M a X x
    | _ => false)
  | .cmp op a b, X, e => (match e with
    | .Compare x [p] [y] _ => cpB op p && (chkE M a X x && chkE M b X y)
    | _ => false)
  | .chn o1 o2 a b c, X, e => (match e with
    | .Compare x [p, q] [y, z] _ => cpB o1 p && (cpB o2 q && (chkE M a X x && (chkE M b X y && chkE M c X z)))
    | _ => false)
  | .isN n a, X, e => (match e with
    | .Compare x [p] [.Constant .none _ _] _ => (match n, p with
      | false, .Is => true
      | true, .IsNot => true
      | _, _ => false) && chkE M a X x
    | _ => false)
  | .and a b, X, e => (match e with
    | .BoolOp .And (x :: y :: r) p => chkE M a X x && chkE M b X (match r with
      | [] => y
      | z :: r => .BoolOp .And (y :: z :: r) p)
    | _ => false)
  | .or a b, X, e => (match e with
    | .BoolOp .Or (x :: y :: r) p => chkE M a X x && chkE M b X (match r with
      | [] => y
      | z :: r => .BoolOp .Or (y :: z :: r) p)
    | _ => false)
  | .not a, X, e => (match e with
    | .UnaryOp .Not x _ => chkE M a X x
    | _ => false)
  | .ife c a b, X, e => (match e with
    | .IfExp t x y _ => chkE M c X t && (chkE M a X x && chkE M b X y)
    | _ => false)
  | .tup es, X, e => (match e with
    | .Tuple l _ _ => decide (l.length ≤ LIM) && chkL M es X l
    | _ => false)
  | .lst _ es, X, e => (match e with
    | .List l _ => decide (l.length ≤ LIM) && chkL M es X l
    | _ => false)
  | .idx a b, X, e => (match e with
    | .Subscript x y _ => notSlice y && (chkE M a X x && chkE M b X y)
    | _ => false)
  | .slc _ a lo hi, X, e => (match e with
    | .Subscript x (.Slice l h none _) _ => chkE M a X x && (chkO M lo X l && chkO M hi X h)
    | _ => false)
  | .att a f, X, e => (match e with
    | .Attribute x n _ => decide (M.atts[f]? = some n) && chkE M a X x
    | _ => false)
  | .call f es, X, e => (match e with
    | .Call (.Name x _) l [] _ => gloB X x && (decide (M.fns[f]? = some x) && (chkL M es X l && hF M X f))
    | _ => false)
  | .calk f es ks pm, X, e => (match e with
    | .Call (.Name x _) l qs _ => gloB X x && (decide (M.fns[f]? = some x) && (chkL M es X l && (chkL M ks X (kwE qs) && (kwAll qs && (M.kws.contains (f, l.length, kwN qs, pm) && hF M X f)))))
    | _ => false)
  | .makk _ c es ks pm, X, e => (match e with
    | .Call (.Name x _) l qs _ => gloB X x && (decide (M.cls[c]? = some x) && (chkL M es X l && (chkL M ks X (kwE qs) && (kwAll qs && (M.ckw.contains (c, l.length, kwN qs, pm) && !X.hot)))))
    | _ => false)
  | .mak _ c es, X, e => (match e with
    | .Call (.Name x _) l [] _ => gloB X x && (decide (M.cls[c]? = some x) && (chkL M es X l && !X.hot))
    | _ => false)
  | .mth a f es, X, e => (match e with
    | .Call (.Attribute x n p) l [] q => decide (M.atts[f]? = some n) && (p.endLine == q.line && (chkE M a X x && (decide (l.length < 20) && (chkL M es X l && !X.hot))))
    | _ => false)
  | .bi b _ es, X, e => (match e with
    | .Call (.Name x _) l [] _ => gloB X x && (decide (x = b.of) && (chkL M es X l && (!X.hot || biHot b)))
    | _ => false)
  | .isI a ts p, X, e => (match e with
    | .Call (.Name x _) [y, t] [] _ => gloB X x && (decide (x = "isinstance") && (chkE M a X y && (match p with
      | false => (match ts with
        | [ty] => tyB M ty X t
        | _ => false)
      | true => (match t with
        | .Tuple l _ _ => !ts.isEmpty && (decide (ts.length ≤ LIM) && tysB M X ts l)
        | _ => false))))
    | _ => false)
  | .bm b a es, X, e => (match e with
    | .Call (.Attribute x n p) l [] q => decide (n = b.of) && (p.endLine == q.line && (chkE M a X x && (decide (l.length < 20) && chkL M es X l)))
    | _ => false)
  | .dnew, X, e => (match e with
    | .Dict [] [] _ => true
    | _ => false)
  | .dlit e0 v, X, e => (match e with
    | .Dict [some (.Call (.Name x _) [y] [] _)] [w] _ => gloB X x && (decide (x = "tuple") && (chkE M e0 X y && chkE M v X w))
    | _ => false)
  | .dget a k v, X, e => (match e with
    | .Call (.Attribute x n p) [y, z] [] q => decide (n = "get") && (p.endLine == q.line && (chkE M a X x && (chkE M k X y && chkE M v X z)))
    | _ => false)
  | .slr a, X, e => (match e with
    | .Subscript x (.Slice none none (some (.UnaryOp .USub (.Constant (.int i) _ _) _)) _) _ => decide (i = 1) && chkE M a X x
    | _ => false)
  | .lno a f, X, e => (match e with
    | .Call (.Name x _) [y] [] _ => gloB X x && (decide (x = "len") && (decide (M.atts[f]? = some "__len__") && (chkE M a X y && !X.hot)))
    | _ => false)
  | .eqo a b f, X, e => (match e with
    | .Compare x [.Eq] [y] _ => decide (M.atts[f]? = some "__eq__") && (chkE M a X x && (chkE M b X y && !X.hot))
    | _ => false)
  | .mthk a f g es ks pm, X, e => (match e with
    | .Call (.Attribute x n p) l qs q => decide (M.atts[f]? = some n) && (p.endLine == q.line && (chkE M a X x && (decide (l.length + qs.length < 20) && (chkL M es X l && (chkL M ks X (kwE qs) && (kwAll qs && (M.mkw.contains (g, l.length, kwN qs, pm) && !X.hot)))))))
    | _ => false)
  | .neo a b f, X, e => (match e with
    | .Compare x [.NotEq] [y] _ => decide (M.atts[f]? = some "__eq__") && (chkE M a X x && (chkE M b X y && !X.hot))
    | _ => false)
  | .lc _ own tg it c e0, X, e => (match e with
    | .ListComp x [⟨t, i, ifs, 0⟩] sc _ => L2.blkC X.N X.sc sc (own.map fun j => (X.N.getD j "", j)) && (tgB ⟨X.N, L2.relS sc X.sc, some sc, X.hot⟩ tg t && ((match tg with
        | .nm j => own.contains j
        | .tp js => js.all own.contains) && (chkW M it X t i && (chkI M c ⟨X.N, L2.relS sc X.sc, some sc, X.hot⟩ ifs && chkE M e0 ⟨X.N, L2.relS sc X.sc, some sc, X.hot⟩ x))))
    | _ => false)
  | .lc2 _ own tg it c tg2 it2 c2 e0, X, e => (match e with
    | .ListComp x [⟨t, i, ifs, 0⟩, ⟨t2, i2, ifs2, 0⟩] sc _ => L2.blkC X.N X.sc sc (own.map fun j => (X.N.getD j "", j)) && (tgB ⟨X.N, L2.relS sc X.sc, some sc, X.hot⟩ tg t && ((tgIx tg).all own.contains && (chkW M it X t i && (chkI M c ⟨X.N, L2.relS sc X.sc, some sc, X.hot⟩ ifs && (tgB ⟨X.N, L2.relS sc X.sc, some sc, X.hot⟩ tg2 t2 && ((tgIx tg2).all own.contains && (chkW M it2 ⟨X.N, L2.relS sc X.sc, some sc, X.hot⟩ t2 i2 && (chkI M c2 ⟨X.N, L2.relS sc X.sc, some sc, X.hot⟩ ifs2 && (chkE M e0 ⟨X.N, L2.relS sc X.sc, some sc, X.hot⟩ x && !X.hot)))))))))
    | _ => false)
def chkL (M : Nm) : Exs → Sx → List Expr → Bool
  | .nil, X, l => l.isEmpty
  | .cons e es, X, l => (match l with
    | x :: r => chkE M e X x && chkL M es X r
    | [] => false)
def chkO (M : Nm) : Exo → Sx → Option Expr → Bool
  | .no, X, o => o.isNone
  | .yes e, X, o => (match o with
    | some x => chkE M e X x
    | none => false)
def chkI (M : Nm) : Exo → Sx → List Expr → Bool
  | .no, X, l => l.isEmpty
  | .yes e, X, l => (match l with
    | [x] => chkE M e X x
    | _ => false)
def chkW (M : Nm) : Iter → Sx → Expr → Expr → Bool
  | .seq e, X, _, x => !X.hot && chkE M e X x
  | .rng es, X, _, x => (match x with
    | .Call (.Name n _) l [] _ => gloB X n && (decide (n = "range") && ((decide (l.length = 1) || decide (l.length = 2) || decide (l.length = 3)) && ((!X.hot || decide (l.length = 1)) && chkL M es X l)))
    | _ => false)
  | .enm e, X, t, x => (match x with
    | .Call (.Name n _) [y] [] _ => !(notTuple t) && gloB X n && (decide (n = "enumerate") && (!X.hot && chkE M e X y))
    | _ => false)
  | .zip a b, X, t, x => (match x with
    | .Call (.Name n _) [y, z] [] _ => !(notTuple t) && gloB X n && (decide (n = "zip") && (!X.hot && (chkE M a X y && chkE M b X z)))
    | _ => false)
  | .rev e, X, _, x => (match x with
    | .Call (.Name n _) [y] [] _ => gloB X n && (decide (n = "reversed") && (!X.hot && chkE M e X y))
    | _ => false)
end
/-- a, b = x, y: are the stores swapped (the library's swappedStores, of two names)? -/
def swpB (X : Sx) (x y : Str) (px py : Pos) (vs : List Expr) : Bool :=
  (match X.sc.names.lookup x with
  | some .local => true
  | _ => false) && (match X.sc.names.lookup y with
  | some .local => true
  | _ => false) && px.line == py.line && !(x == y) && !(vs.all (foldedForSure 8)) && !(vs.all (constantsAlone 8)) && !(vs.any fun | .Starred .. => true | _ => false)
/-- the classes of exceptions -/
def xnB (M : Nm) (X : Sx) : List Nat → List Expr → Bool
  | [], [] => true
  | k :: r, e :: es => (match e with
    | .Name y _ => gloB X y && decide (M.exc[k]? = some y)
    | _ => false) && xnB M X r es
  | _, _ => false
mutual
/-- a suite's expression; slot i is the exception -/
def chkHx (M : Nm) (X : Sx) (i : Option Nat) : Hx → Expr → Bool
  | .pl a, e => chkE M a X e
  | .fld f, e => (match e, i with
    | .Attribute (.Name x _) n _, some j => seeB X j x && decide (M.atts[f]? = some n)
    | _, _ => false)
  | .isx ks p, e => (match e, i with
    | .Call (.Name g _) [.Name x _, t] [] _, some j => gloB X g && (decide (g = "isinstance") && (seeB X j x && (match p with
      | false => (match ks, t with
        | [k], .Name y _ => gloB X y && decide (M.exc[k]? = some y)
        | _, _ => false)
      | true => (match t with
        | .Tuple l _ _ => !ks.isEmpty && (decide (ks.length ≤ LIM) && xnB M X ks l)
        | _ => false))))
    | _, _ => false)
  | .and a b, e => (match e with
    | .BoolOp .And (x :: y :: r) p => chkHx M X i a x && chkHx M X i b (match r with
      | [] => y
      | z :: r => .BoolOp .And (y :: z :: r) p)
    | _ => false)
  | .not a, e => (match e with
    | .UnaryOp .Not x _ => chkHx M X i a x
    | _ => false)
  | .call f es, e => (match e with
    | .Call (.Name x _) (y :: l) [] _ => gloB X x && (decide (M.fns[f]? = some x) && (chkHl M X i es (y :: l) && hF M X f))
    | _ => false)
  | .tup es, e => (match e with
    | .Tuple l _ _ => decide (l.length ≤ LIM) && chkHl M X i es l
    | _ => false)
def chkHl (M : Nm) (X : Sx) (i : Option Nat) : Hxs → List Expr → Bool
  | .nil, l => l.isEmpty
  | .cons h es, l => (match l with
    | x :: r => chkHx M X i h x && chkHl M X i es r
    | [] => false)
end
def tstH : Hx → Bool
  | .pl _ => true
  | .isx _ _ => true
  | .not a => tstH a
  | _ => false
def chkHs (M : Nm) (X : Sx) (i : Option Nat) : Hs → List Stmt → Bool
  | .ret h, l => (match l with
    | [.Return (some v) _] => chkHx M X i h v
    | _ => false)
  | .ife c a r, l => (match l with
    | .If t x [] _ :: rest => tstH c && (chkHx M X i c t && (chkHs M X i a x && chkHs M X i r rest))
    | _ => false)
/-- += or -= -/
def augB (sb : Bool) (op : Operator) : Bool := match sb, op with
  | false, .Add => true
  | true, .Sub => true
  | _, _ => false
mutual
def chkS (M : Nm) : St → Sx → Stmt → Bool
  | .ex e, X, s => (match s with
    | .Expr v _ => notComp v && chkE M e X v
    | _ => false)
  | .asg i e, X, s => (match s with
    | .Assign [.Name x _] v _ => putB X i x && (chkE M e X v && (!X.hot || notComp v))
    | _ => false)
  | .asgT is e, X, s => (match s with
    | .Assign [.Tuple l _ _] v _ => (match v with
        | .Tuple vs _ _ => vs.all (foldedForSure 8) || !(l.length == 2 || l.length == 3)
        | _ => true) && (!X.hot && (tgsB X is l && chkE M e X v))
    | _ => false)
  | .swp i j a b, X, s => (match s with
    | .Assign [.Tuple [.Name x px, .Name y py] _ _] (.Tuple [v, w] _ _) _ => swpB X x y px py [v, w] && !X.hot && (putB X i x && (putB X j y && (!(i == j) && (chkE M a X v && chkE M b X w))))
    | _ => false)
  | .asgI o i e, X, s => (match s with
    | .Assign [.Subscript x y _] v _ => notSlice y && (chkE M o X x && (chkE M i X y && chkE M e X v))
    | _ => false)
  | .augN i sb e, X, s => (match s with
    | .AugAssign (.Name x _) op v _ => augB sb op && (putB X i x && chkE M e X v)
    | _ => false)
  | .augI o i sb e, X, s => (match s with
    | .AugAssign (.Subscript x y _) op v _ => augB sb op && (notSlice y && (chkE M o X x && (chkE M i X y && chkE M e X v)))
    | _ => false)
  | .asg2 i j e, X, s => (match s with
    | .Assign [.Name x _, .Name y _] v _ => putB X i x && (putB X j y && (notTuple v && chkE M e X v))
    | _ => false)
  | .asgA o f e, X, s => (match s with
    | .Assign [.Attribute x n _] v _ => decide (M.atts[f]? = some n) && (chkE M o X x && chkE M e X v)
    | _ => false)
  | .ret e, X, s => (match s with
    | .Return (some v) _ => chkE M e X v
    | _ => false)
  | .retN, X, s => (match s with
    | .Return none _ => true
    | _ => false)
  | .pas, X, s => (match s with
    | .Pass _ => true
    | _ => false)
  | .nev, _, _ => true
  | .brk, X, s => (match s with
    | .Break _ => true
    | _ => false)
  | .cnt, X, s => (match s with
    | .Continue _ => true
    | _ => false)
  | .ife c a b, X, s => (match s with
    | .If t x y _ => chkE M c X t && (chkSs M a X x && chkSs M b X y)
    | _ => false)
  | .whl c b, X, s => (match s with
    | .While t x [] _ => chkE M c X t && chkSs M b X x
    | _ => false)
  | .forr tg it b, X, s => (match s with
    | .For t i x [] _ => tgB X tg t && (chkW M it X t i && chkSs M b X x)
    | _ => false)
  | .forI i j v b, X, s => (match s with
    | .For (.Tuple [.Name x px, .Name y py] k pt) (.Call (.Attribute (.Name o po) n p) [] [] q) z [] _ => decide (n = "items") && !X.hot && (p.endLine == q.line && (tgB X (.tp [i, j]) (.Tuple [.Name x px, .Name y py] k pt) && (seeB X v o && chkSs M b X z)))
    | _ => false)
  | .rai c es, X, s => (match s with
    | .Raise (some (.Call (.Name x _) l [] _)) none _ => gloB X x && (decide (M.exc[c]? = some x) && (!X.hot && chkL M es X l))
    | _ => false)
  | .tryE b c i h, X, s => (match s with
    | .Try x [.ExceptHandler (some (.Name n _)) o v _] [] [] _ => gloB X n && !X.hot && (decide (M.exc[c]? = some n) && (chkSs M b X x && (chkHs M { X with hot := true } i h v && (match i, o with
      | none, none => true
      | some j, some y => decide (X.N[j]? = some y) && decide (X.sc.names.lookup y = some .local)
      | _, _ => false))))
    | _ => false)
def chkSs (M : Nm) : Sts → Sx → List Stmt → Bool
  | .nil, X, l => l.isEmpty
  | .cons s ss, X, l => (match l with
    | x :: r => chkS M s X x && chkSs M ss X r
    | [] => false)
  | .dset i e o v ss, X, l => (match l with
    | .Assign [.Name x _] (.Call (.Name f _) [y] [] _) _ :: .Assign [.Subscript z (.Name x2 _) _] w _ :: r => putB X i x && (seeB X i x2 && (gloB X f && (decide (f = "tuple") && (chkE M e X y && (chkE M v X w && (chkE M o X z && chkSs M ss X r))))))
    | _ => false)
end
end Ev
end
section
set_option maxRecDepth 100000
set_option maxHeartbeats 4000000
/-! Ev, part 3: data and the heap. -/
namespace Ev
open PySem PySem.Spec PyProof.Rows L2
/-- the program, its names, where its classes stand -/
structure Pg where
  P : Program
  w : World
  K : PySem.W.Frag
  mg : Str → Option Value
  base : Heap
  M : Nm
  T : Tb
  ca : Nat → Addr
  xa : Nat → Addr
  fa : Nat → Addr
  fd : Nat → FuncData
  ps : Nat → List Str
def Pg.att (G : Pg) (f : Nat) : Str := match G.M.atts[f]? with
  | some x => x
  | none => ⟨Array.replicate (1000 + f) 0⟩
def KT (K : PySem.W.Frag) (a : Addr) (xs : List V) : Prop := ∃ (o : Obj) (its : Array Value) (n : Nat), K.lookup a = some o ∧ o.cls = .type "tuple" ∧ o.data = .seq its n ∧ its.size ≤ sizeLine ∧ Vals xs its.toList
/-- a frozen list, a tuple: no cell's, or of the written part -/
def FzL (m : List Addr) (H : Hp) (p : Addr) (vs : List V) : Prop := p ∉ m ∧ Rd H p (.lst vs)
def FzT (K : PySem.W.Frag) (m : List Addr) (H : Hp) (p : Addr) (vs : List V) : Prop := (p ∉ m ∧ Rd H p (.tup vs)) ∨ KT K p vs
def FzO (m : List Addr) (H : Hp) (p C : Addr) (fs : List (Str × V)) : Prop := p ∉ m ∧ ∃ dx, H p = some (.ins C dx fs)
def namesOf (G : Pg) (c : Nat) : List Str := (fldsOf G.T c).map G.att
mutual
/-- v stands for d -/
def Rep (G : Pg) (m : List Addr) (H : Hp) : D → V → Prop
  | .non, v => v = .non
  | .bl b, v => v = .bl b
  | .int i, v => v = .int i
  | .str s, v => v = .str ⟨s.toArray⟩
  | .tup l, v => ∃ p vs, v = .ref p ∧ FzT G.K m H p vs ∧ RepL G m H l vs
  | .lst l, v => ∃ p vs, v = .ref p ∧ FzL m H p vs ∧ RepL G m H l vs
  | .ref n, v => ∃ p, v = .ref p ∧ m[n]? = some p
  | .obj c l, v => ∃ p vs, v = .ref p ∧ FzO m H p (G.ca c) ((namesOf G c).zip vs) ∧ RepL G m H l vs
def RepL (G : Pg) (m : List Addr) (H : Hp) : List D → List V → Prop
  | [], vs => vs = []
  | d :: l, vs => ∃ v r, vs = v :: r ∧ Rep G m H d v ∧ RepL G m H l r
end
/-- an int as a key -/
def iK (i : Int) : Key := .inl i
/-- locked, or not -/
def Lk (lk : Bool) (H : Hp) (p : Addr) (u : HO) : Prop := match lk with
  | true => ∃ o, H p = some (.frz o u)
  | false => H p = some u
/-- not locked -/
def NF (H : Hp) (p : Addr) : Prop := ∀ o u, H p ≠ some (.frz o u)
def RepC (G : Pg) (m : List Addr) (H : Hp) : Cell → Addr → Prop
  | .lst l, p => ∃ vs, H p = some (.lst vs) ∧ RepL G m H l vs
  | .ins c fs, p => ∃ dx vs, H p = some (.ins (G.ca c) dx ((fs.map fun f => G.att f.1).zip vs)) ∧ RepL G m H (fs.map (·.2)) vs
  | .dct lk kvs, p => ∃ vs, Lk lk H p (.dT ((kvs.map fun q => q.1.map iK).zip vs)) ∧ RepL G m H (kvs.map (·.2)) vs
/-- the cells stand at the addresses m -/
structure RS (G : Pg) (m : List Addr) (H : Hp) (S : Store) : Prop where
  len : m.length = S.length
  nd : m.Nodup
  cel : ∀ (n : Nat) (c : Cell), S[n]? = some c → ∃ p, m[n]? = some p ∧ RepC G m H c p
structure RE (G : Pg) (m : List Addr) (H : Hp) (ρ : Fr) (σ : L2.St) : Prop where
  len : ρ.length = σ.length
  at_ : ∀ (i : Nat) (d : D), ρ[i]? = some (some d) → ∃ v, σ[i]? = some (some v) ∧ Rep G m H d v
/-- what stood stands; new cells behind the old ones -/
structure Ext (m : List Addr) (H : Hp) (m' : List Addr) (H' : Hp) : Prop where
  pre : m <+: m'
  keep : ∀ a o, H a = some o → a ∉ m → H' a = some o ∧ a ∉ m'
  frz : ∀ a o u, H a = some (.frz o u) → H' a = some (.frz o u)
section
variable {G : Pg} {m m' m2 : List Addr} {H H' H2 : Hp} {S S' : Store} {ρ : Fr} {σ : L2.St}
theorem Lk.at' {lk : Bool} {p : Addr} {u : HO} (h : Lk lk H p u) (e : H' p = H p) : Lk lk H' p u := by
  cases lk with
  | true => exact let ⟨o, h⟩ := h; ⟨o, e.trans h⟩
  | false => exact e.trans h
theorem Lk.there {lk : Bool} {p : Addr} {u : HO} (h : Lk lk H p u) : ∃ o, H p = some o := by
  cases lk with
  | true => exact let ⟨o, h⟩ := h; ⟨_, h⟩
  | false => exact ⟨_, h⟩
theorem Ext.refl : Ext m H m H := ⟨List.prefix_refl _, fun _ _ h n => ⟨h, n⟩, fun _ _ _ h => h⟩
theorem Ext.trans (a : Ext m H m' H') (b : Ext m' H' m2 H2) : Ext m H m2 H2 :=
  ⟨a.pre.trans b.pre, fun c o h n => let ⟨h1, n1⟩ := a.keep c o h n; b.keep c o h1 n1, fun c o u h => b.frz c o u (a.frz c o u h)⟩
theorem pre_get {n : Nat} {p : Addr} (a : m <+: m') (h : m[n]? = some p) : m'[n]? = some p := by
  obtain ⟨r, rfl⟩ := a
  have hl : n < m.length := (List.getElem?_eq_some_iff.mp h).1
  rw [List.getElem?_append_left hl]
  exact h
theorem rd_keep {p : Addr} {u : HO} (x : Ext m H m' H') (h : p ∉ m ∧ Rd H p u) : p ∉ m' ∧ Rd H' p u := by
  obtain ⟨n, h | ⟨o, h⟩⟩ := h
  · obtain ⟨h1, n1⟩ := x.keep _ _ h n
    exact ⟨n1, .inl h1⟩
  · obtain ⟨h1, n1⟩ := x.keep _ _ h n
    exact ⟨n1, .inr ⟨o, h1⟩⟩
theorem FzL.mono {p : Addr} {vs : List V} (x : Ext m H m' H') (h : FzL m H p vs) : FzL m' H' p vs := rd_keep x h
theorem FzT.mono {K : PySem.W.Frag} {p : Addr} {vs : List V} (x : Ext m H m' H') (h : FzT K m H p vs) : FzT K m' H' p vs := h.imp (rd_keep x) id
theorem FzO.mono {p C : Addr} {fs : List (Str × V)} (x : Ext m H m' H') (h : FzO m H p C fs) : FzO m' H' p C fs := by
  obtain ⟨n, dx, h⟩ := h
  obtain ⟨h1, n1⟩ := x.keep _ _ h n
  exact ⟨n1, dx, h1⟩
mutual
theorem Rep.mono (x : Ext m H m' H') : ∀ (d : D) (v : V), Rep G m H d v → Rep G m' H' d v
  | .non, _, h => by simp only [Rep] at h ⊢; exact h
  | .bl _, _, h => by simp only [Rep] at h ⊢; exact h
  | .int _, _, h => by simp only [Rep] at h ⊢; exact h
  | .str _, _, h => by simp only [Rep] at h ⊢; exact h
  | .tup l, _, h => by
    simp only [Rep] at h ⊢
    obtain ⟨p, vs, e, f, r⟩ := h
    exact ⟨p, vs, e, f.mono x, RepL.mono x l vs r⟩
  | .lst l, _, h => by
    simp only [Rep] at h ⊢
    obtain ⟨p, vs, e, f, r⟩ := h
    exact ⟨p, vs, e, f.mono x, RepL.mono x l vs r⟩
  | .ref n, _, h => by
    simp only [Rep] at h ⊢
    obtain ⟨p, e, r⟩ := h
    exact ⟨p, e, pre_get x.pre r⟩
  | .obj c l, _, h => by
    simp only [Rep] at h ⊢
    obtain ⟨p, vs, e, f, r⟩ := h
    exact ⟨p, vs, e, f.mono x, RepL.mono x l vs r⟩
theorem RepL.mono (x : Ext m H m' H') : ∀ (l : List D) (vs : List V), RepL G m H l vs → RepL G m' H' l vs
  | [], _, h => by simp only [RepL] at h ⊢; exact h
  | d :: l, _, h => by
    simp only [RepL] at h ⊢
    obtain ⟨v, r, e, h1, h2⟩ := h
    exact ⟨v, r, e, Rep.mono x d v h1, RepL.mono x l r h2⟩
end
theorem RE.mono (x : Ext m H m' H') (h : RE G m H ρ σ) : RE G m' H' ρ σ :=
  ⟨h.len, fun i d e => let ⟨v, e1, r⟩ := h.at_ i d e; ⟨v, e1, Rep.mono x d v r⟩⟩
theorem RepL.length : ∀ {l : List D} {vs : List V}, RepL G m H l vs → l.length = vs.length
  | [], _, h => by simp only [RepL] at h; subst h; rfl
  | d :: l, _, h => by
    simp only [RepL] at h
    obtain ⟨v, r, rfl, _, h2⟩ := h
    simp [RepL.length h2]
theorem RepL.get : ∀ {l : List D} {vs : List V} {i : Nat} {d : D}, RepL G m H l vs → l[i]? = some d → ∃ v, vs[i]? = some v ∧ Rep G m H d v
  | [], _, _, _, _, e => by simp at e
  | d :: l, _, 0, _, h, e => by
    simp only [RepL] at h
    obtain ⟨v, r, rfl, h1, _⟩ := h
    simp at e; subst e
    exact ⟨v, rfl, h1⟩
  | d :: l, _, i + 1, _, h, e => by
    simp only [RepL] at h
    obtain ⟨v, r, rfl, _, h2⟩ := h
    simp at e
    obtain ⟨u, e1, q⟩ := RepL.get h2 e
    exact ⟨u, by simpa using e1, q⟩
theorem RepL.nil : RepL G m H [] [] := by simp only [RepL]
theorem RepL.cons {d : D} {l : List D} {v : V} {vs : List V} (h : Rep G m H d v) (r : RepL G m H l vs) : RepL G m H (d :: l) (v :: vs) := by
  simp only [RepL]; exact ⟨v, vs, rfl, h, r⟩
theorem RepL.append : ∀ {l k : List D} {vs us : List V}, RepL G m H l vs → RepL G m H k us → RepL G m H (l ++ k) (vs ++ us)
  | [], _, _, _, h, q => by simp only [RepL] at h; subst h; exact q
  | d :: l, _, _, _, h, q => by
    simp only [RepL] at h
    obtain ⟨v, r, rfl, h1, h2⟩ := h
    exact RepL.cons h1 (RepL.append h2 q)
theorem RepL.take : ∀ {l : List D} {vs : List V} (n : Nat), RepL G m H l vs → RepL G m H (l.take n) (vs.take n)
  | _, _, 0, _ => RepL.nil
  | [], _, n + 1, h => by simp only [RepL] at h; subst h; exact RepL.nil
  | d :: l, _, n + 1, h => by
    simp only [RepL] at h
    obtain ⟨v, r, rfl, h1, h2⟩ := h
    exact RepL.cons h1 (RepL.take n h2)
theorem RepL.drop : ∀ {l : List D} {vs : List V} (n : Nat), RepL G m H l vs → RepL G m H (l.drop n) (vs.drop n)
  | _, _, 0, h => h
  | [], _, n + 1, h => by simp only [RepL] at h; subst h; exact RepL.nil
  | d :: l, _, n + 1, h => by
    simp only [RepL] at h
    obtain ⟨v, r, rfl, h1, h2⟩ := h
    exact RepL.drop n h2
theorem RepL.set {d : D} {v : V} (q : Rep G m H d v) : ∀ {l : List D} {vs : List V} (n : Nat), RepL G m H l vs → RepL G m H (l.set n d) (vs.set n v)
  | [], _, _, h => by simp only [RepL] at h; subst h; exact RepL.nil
  | e :: l, _, 0, h => by
    simp only [RepL] at h
    obtain ⟨u, r, rfl, h1, h2⟩ := h
    exact RepL.cons q h2
  | e :: l, _, n + 1, h => by
    simp only [RepL] at h
    obtain ⟨u, r, rfl, h1, h2⟩ := h
    exact RepL.cons h1 (RepL.set q n h2)
theorem RepL.reverse : ∀ {l : List D} {vs : List V}, RepL G m H l vs → RepL G m H l.reverse vs.reverse
  | [], _, h => by simp only [RepL] at h; subst h; exact RepL.nil
  | d :: l, _, h => by
    simp only [RepL] at h
    obtain ⟨v, r, rfl, h1, h2⟩ := h
    rw [List.reverse_cons, List.reverse_cons]
    exact RepL.append (RepL.reverse h2) (RepL.cons h1 RepL.nil)
theorem RepL.dropLast {l : List D} {vs : List V} (h : RepL G m H l vs) : RepL G m H l.dropLast vs.dropLast := by
  rw [List.dropLast_eq_take, List.dropLast_eq_take, ← h.length]
  exact RepL.take _ h
theorem RepL.cut {l : List D} {vs : List V} (lo hi : Option Int) (h : RepL G m H l vs) : RepL G m H (cut l lo hi) (cutV vs lo hi) := by
  have e : ∀ n d o, sIx n d o = HT.sIx n d o := fun n d o => by cases o <;> rfl
  unfold Ev.cut cutV
  rw [h.length]
  simp only [e]
  exact RepL.take _ (RepL.drop _ h)
/-! what may be read -/
theorem sq_of {K : PySem.W.Frag} {p : Addr} {vs : List V} (h : Rd H p (.lst vs)) : SqL K H p vs := .inl h
theorem FzT.sq {K : PySem.W.Frag} {p : Addr} {vs : List V} (h : FzT K m H p vs) : SqT K H p vs := h.imp (·.2) id
theorem Rep.int_inv {i : Int} {v : V} (h : Rep G m H (.int i) v) : v = .int i := by simpa only [Rep] using h
theorem Rep.bl_inv {b : Bool} {v : V} (h : Rep G m H (.bl b) v) : v = .bl b := by simpa only [Rep] using h
theorem Rep.non_inv {v : V} (h : Rep G m H .non v) : v = .non := by simpa only [Rep] using h
theorem Rep.str_inv {s : List Nat} {v : V} (h : Rep G m H (.str s) v) : v = .str ⟨s.toArray⟩ := by simpa only [Rep] using h
theorem Rep.tup_inv {l : List D} {v : V} (h : Rep G m H (.tup l) v) : ∃ p vs, v = .ref p ∧ FzT G.K m H p vs ∧ RepL G m H l vs := by simpa only [Rep] using h
theorem Rep.lst_inv {l : List D} {v : V} (h : Rep G m H (.lst l) v) : ∃ p vs, v = .ref p ∧ FzL m H p vs ∧ RepL G m H l vs := by simpa only [Rep] using h
theorem Rep.ref_inv {n : Nat} {v : V} (h : Rep G m H (.ref n) v) : ∃ p, v = .ref p ∧ m[n]? = some p := by simpa only [Rep] using h
theorem Rep.obj_inv {c : Nat} {l : List D} {v : V} (h : Rep G m H (.obj c l) v) : ∃ p vs, v = .ref p ∧ FzO m H p (G.ca c) ((namesOf G c).zip vs) ∧ RepL G m H l vs := by simpa only [Rep] using h
theorem rep_int {i : Int} : Rep G m H (.int i) (.int i) := by simp only [Rep]
theorem rep_bl {b : Bool} : Rep G m H (.bl b) (.bl b) := by simp only [Rep]
theorem rep_non : Rep G m H .non .non := by simp only [Rep]
theorem rep_str {s : List Nat} : Rep G m H (.str s) (.str ⟨s.toArray⟩) := by simp only [Rep]
theorem rep_tup {l : List D} {p : Addr} {vs : List V} (f : FzT G.K m H p vs) (r : RepL G m H l vs) : Rep G m H (.tup l) (.ref p) := by
  simp only [Rep]; exact ⟨p, vs, rfl, f, r⟩
theorem rep_lst {l : List D} {p : Addr} {vs : List V} (f : FzL m H p vs) (r : RepL G m H l vs) : Rep G m H (.lst l) (.ref p) := by
  simp only [Rep]; exact ⟨p, vs, rfl, f, r⟩
theorem rep_ref {n : Nat} {p : Addr} (h : m[n]? = some p) : Rep G m H (.ref n) (.ref p) := by
  simp only [Rep]; exact ⟨p, rfl, h⟩
theorem rep_obj {c : Nat} {l : List D} {p : Addr} {vs : List V} (f : FzO m H p (G.ca c) ((namesOf G c).zip vs)) (r : RepL G m H l vs) : Rep G m H (.obj c l) (.ref p) := by
  simp only [Rep]; exact ⟨p, vs, rfl, f, r⟩
/-- a list, frozen or a cell's, is to be read -/
theorem lstOf_sq {d : D} {v : V} {l : List D} (rs : RS G m H S) (h : Rep G m H d v) (e : lstOf d S = some l) : ∃ p vs, v = .ref p ∧ Rd H p (.lst vs) ∧ RepL G m H l vs := by
  unfold lstOf at e
  split at e
  · cases e
    obtain ⟨p, vs, rfl, f, r⟩ := h.lst_inv
    exact ⟨p, vs, rfl, f.2, r⟩
  · rename_i n
    split at e
    · rename_i l' q
      cases e
      obtain ⟨p, rfl, hp⟩ := h.ref_inv
      obtain ⟨p', hp', vs, hv, r⟩ := rs.cel _ _ q
      rw [hp] at hp'; cases hp'
      exact ⟨p, vs, rfl, .inl hv, r⟩
    · cases e
  · cases e
theorem seqOf_sq {d : D} {v : V} {l : List D} (rs : RS G m H S) (h : Rep G m H d v) (e : seqOf d S = some l) : ∃ p vs, v = .ref p ∧ (Rd H p (.lst vs) ∨ SqT G.K H p vs) ∧ RepL G m H l vs := by
  unfold seqOf at e
  split at e
  · cases e
    obtain ⟨p, vs, rfl, f, r⟩ := h.tup_inv
    exact ⟨p, vs, rfl, .inr f.sq, r⟩
  · cases e
    obtain ⟨p, vs, rfl, f, r⟩ := h.lst_inv
    exact ⟨p, vs, rfl, .inl f.2, r⟩
  · rename_i n
    split at e
    · rename_i l' q
      cases e
      obtain ⟨p, rfl, hp⟩ := h.ref_inv
      obtain ⟨p', hp', vs, hv, r⟩ := rs.cel _ _ q
      rw [hp] at hp'; cases hp'
      exact ⟨p, vs, rfl, .inl (.inl hv), r⟩
    · cases e
  · cases e
theorem RS.mono_of (rs : RS G m H S) (x : Ext m H m H') (k : ∀ p ∈ m, H' p = H p) : RS G m H' S :=
  ⟨rs.len, rs.nd, fun n c e => by
    obtain ⟨p, hp, q⟩ := rs.cel n c e
    have hk := k p (List.mem_of_getElem? hp)
    refine ⟨p, hp, ?_⟩
    cases c with
    | lst l =>
      obtain ⟨vs, h1, r⟩ := q
      exact ⟨vs, by rw [hk]; exact h1, RepL.mono x _ _ r⟩
    | ins c fs =>
      obtain ⟨dx, vs, h1, r⟩ := q
      exact ⟨dx, vs, by rw [hk]; exact h1, RepL.mono x _ _ r⟩
    | dct lk kvs =>
      obtain ⟨vs, h1, r⟩ := q
      exact ⟨vs, h1.at' hk, RepL.mono x _ _ r⟩⟩
/-- something new is laid that is no cell -/
theorem Ext.new {p : Addr} {o : HO} (n : H p = none) : Ext m H m (upd H p o) :=
  ⟨List.prefix_refl _, fun a u h na => ⟨by rw [upd_ne (ne_of_none h n)]; exact h, na⟩, fun a o u h => by rw [upd_ne (ne_of_none h n)]; exact h⟩
theorem RS.there (rs : RS G m H S) {p : Addr} (h : p ∈ m) : ∃ o, H p = some o := by
  obtain ⟨n, hn, e⟩ := List.getElem_of_mem h
  have hS : n < S.length := by rw [← rs.len]; exact hn
  obtain ⟨p', hp', q⟩ := rs.cel n S[n] (List.getElem?_eq_getElem hS)
  have e2 : p' = p := by
    rw [List.getElem?_eq_getElem hn] at hp'
    exact (Option.some.inj hp').symm.trans e
  subst e2
  cases hc : S[n] with
  | lst l =>
    rw [hc] at q
    obtain ⟨vs, h1, _⟩ := q
    exact ⟨_, h1⟩
  | ins c fs =>
    rw [hc] at q
    obtain ⟨dx, vs, h1, _⟩ := q
    exact ⟨_, h1⟩
  | dct lk kvs =>
    rw [hc] at q
    obtain ⟨vs, h1, _⟩ := q
    exact h1.there
theorem RS.fresh (rs : RS G m H S) {p : Addr} (n : H p = none) : p ∉ m := fun h => by
  obtain ⟨o, e⟩ := rs.there h
  rw [n] at e; cases e
theorem RS.new {p : Addr} {o : HO} (rs : RS G m H S) (n : H p = none) : RS G m (upd H p o) S :=
  rs.mono_of (Ext.new n) fun q hq => upd_ne fun e => by subst e; exact rs.fresh n hq
/-- a new cell -/
theorem Ext.cell {p : Addr} {o : HO} (n : H p = none) : Ext m H (m ++ [p]) (upd H p o) :=
  ⟨List.prefix_append _ _, fun a u h na => ⟨by rw [upd_ne (ne_of_none h n)]; exact h, by
    rw [List.mem_append, List.mem_singleton]
    rintro (z | z)
    · exact na z
    · exact ne_of_none h n z⟩, fun a o u h => by rw [upd_ne (ne_of_none h n)]; exact h⟩
theorem Rep.wider {d : D} {v : V} (x : Ext m H m' H') (h : Rep G m H d v) : Rep G m' H' d v := Rep.mono x d v h
theorem RepC.mono {c : Cell} {p : Addr} (x : Ext m H m' H') (hk : H' p = H p) (h : RepC G m H c p) : RepC G m' H' c p := by
  cases c with
  | lst l =>
    obtain ⟨vs, h1, r⟩ := h
    exact ⟨vs, by rw [hk]; exact h1, RepL.mono x _ _ r⟩
  | ins c fs =>
    obtain ⟨dx, vs, h1, r⟩ := h
    exact ⟨dx, vs, by rw [hk]; exact h1, RepL.mono x _ _ r⟩
  | dct lk kvs =>
    obtain ⟨vs, h1, r⟩ := h
    exact ⟨vs, h1.at' hk, RepL.mono x _ _ r⟩
theorem RS.cell {p : Addr} {o : HO} {c : Cell} (rs : RS G m H S) (n : H p = none) (h : RepC G (m ++ [p]) (upd H p o) c p) : RS G (m ++ [p]) (upd H p o) (S ++ [c]) := by
  have hp := rs.fresh n
  refine ⟨by simp [rs.len], ?_, fun k c' e => ?_⟩
  · rw [List.nodup_append]
    refine ⟨rs.nd, by simp, fun a ha b hb => ?_⟩
    rw [List.mem_singleton] at hb
    subst hb
    exact fun e => hp (e ▸ ha)
  · by_cases hk : k < S.length
    · rw [List.getElem?_append_left hk] at e
      obtain ⟨q, hq, r⟩ := rs.cel k c' e
      refine ⟨q, by rw [List.getElem?_append_left (by rw [rs.len]; exact hk)]; exact hq, RepC.mono (Ext.cell n) (upd_ne fun z => ?_) r⟩
      subst z
      exact hp (List.mem_of_getElem? hq)
    · have e1 : k = S.length := by
        have := (List.getElem?_eq_some_iff.mp e).1
        simp at this
        omega
      subst e1
      simp at e
      subst e
      exact ⟨p, by rw [← rs.len]; simp, h⟩
/-- a cell is written -/
theorem Ext.write {p : Addr} {o : HO} (h : p ∈ m) (nf : NF H p) : Ext m H m (upd H p o) :=
  ⟨List.prefix_refl _, fun a u e na => ⟨by rw [upd_ne (show a ≠ p from fun z => na (by rw [z]; exact h))]; exact e, na⟩, fun a o u e => by rw [upd_ne (show a ≠ p from fun z => nf o u (by rw [← z]; exact e))]; exact e⟩
theorem NF.of {p : Addr} {u : HO} (h : H p = some u) (n : ∀ o v, u ≠ .frz o v) : NF H p := fun o v e => n o v (Option.some.inj (h.symm.trans e))
theorem RS.write {p : Addr} {o : HO} {n : Nat} {c : Cell} (rs : RS G m H S) (nf : NF H p) (hp : m[n]? = some p) (h : RepC G m (upd H p o) c p) : RS G m (upd H p o) (S.set n c) := by
  have hm : p ∈ m := List.mem_of_getElem? hp
  refine ⟨by simp [rs.len], rs.nd, fun k c' e => ?_⟩
  by_cases hk : k = n
  · subst hk
    have hl : k < S.length := by rw [← rs.len]; exact (List.getElem?_eq_some_iff.mp hp).1
    rw [List.getElem?_set_self hl] at e
    cases e
    exact ⟨p, hp, h⟩
  · rw [List.getElem?_set_ne (Ne.symm hk)] at e
    obtain ⟨q, hq, r⟩ := rs.cel k c' e
    refine ⟨q, hq, RepC.mono (Ext.write hm nf) (upd_ne fun z => hk ?_) r⟩
    subst z
    have h1 := (List.getElem?_eq_some_iff.mp hq)
    have h2 := (List.getElem?_eq_some_iff.mp hp)
    obtain ⟨l1, e1⟩ := h1
    obtain ⟨l2, e2⟩ := h2
    exact (List.getElem_inj rs.nd).mp (e1.trans e2.symm)
theorem RE.set {i : Nat} {d : D} {v : V} (h : RE G m H ρ σ) (r : Rep G m H d v) : RE G m H (setS ρ i d) (σ.set i (some v)) := by
  refine ⟨by simp [setS, h.len], fun j e hj => ?_⟩
  unfold setS at hj
  by_cases hij : j = i
  · subst hij
    have hl : j < ρ.length := by
      have := (List.getElem?_eq_some_iff.mp hj).1
      simpa using this
    rw [List.getElem?_set_self hl] at hj
    cases hj
    exact ⟨v, by rw [List.getElem?_set_self (by rw [← h.len]; exact hl)], r⟩
  · rw [List.getElem?_set_ne (Ne.symm hij)] at hj
    obtain ⟨u, e1, r1⟩ := h.at_ j e hj
    exact ⟨u, by rw [List.getElem?_set_ne (Ne.symm hij)]; exact e1, r1⟩
theorem RE.gone {i : Nat} (h : RE G m H ρ σ) (o : Option V) : RE G m H (ρ.set i none) (σ.set i o) := by
  refine ⟨by simp [h.len], fun j e hj => ?_⟩
  by_cases hij : j = i
  · subst hij
    have hl : j < ρ.length := by
      have := (List.getElem?_eq_some_iff.mp hj).1
      simpa using this
    rw [List.getElem?_set_self hl] at hj
    cases hj
  · rw [List.getElem?_set_ne (Ne.symm hij)] at hj
    obtain ⟨u, e1, r1⟩ := h.at_ j e hj
    exact ⟨u, by rw [List.getElem?_set_ne (Ne.symm hij)]; exact e1, r1⟩
theorem RE.wipe : ∀ (is : List Nat), RE G m H ρ σ → RE G m H (Ev.wipe ρ is) (L2.wipe σ is)
  | [], h => h
  | i :: is, h => (RE.wipe is h).gone none
end
end Ev
end
section
set_option maxRecDepth 100000
set_option maxHeartbeats 4000000
/-! Ev, part 4: operations on values. -/
namespace Ev
open PySem PySem.Spec PyProof.Rows L2
/-- what is wanted of a result that raises nothing -/
def FinV (G : Pg) {α β : Type} (R : List Addr → Hp → α → β → Prop) (m : List Addr) (H : Hp) (r : Rs α) (Q : β → Hp → Prop) : Prop := match r with
  | .ok a S' => ∀ m' H' v, Ext m H m' H' → RS G m' H' S' → R m' H' a v → Q v H'
  | _ => False
/-- an exception's dict -/
def XRep (G : Pg) (m : List Addr) (H : Hp) (c : Nat) (l : List D) (dx : Addr) : Prop :=
  ∃ vs, H dx = some (.xd (((excF G.T c).map G.att).zip vs)) ∧ RepL G m H l vs ∧ l.length = (excF G.T c).length ∧ c < G.T.exc.length
/-- .. of any result -/
def Fin (G : Pg) (W : WX) (σ : L2.St) {α β : Type} (R : List Addr → Hp → α → β → Prop) (m : List Addr) (H : Hp) (r : Rs α) (K : α → Store → List Addr → Hp → β → Prop) : Prop := match r with
  | .ok a S' => ∀ m' H' v, Ext m H m' H' → RS G m' H' S' → R m' H' a v → K a S' m' H' v
  | .ex c l S' => ∀ m' H' dx, Ext m H m' H' → RS G m' H' S' → XRep G m' H' c l dx → W (.ref (G.xa c)) (some dx) σ H'
  | .bad => False
section
variable {G : Pg} {W : WX} {σ : L2.St} {m m' : List Addr} {H H' : Hp} {S : Store}
theorem Fin.ext {α β : Type} {R : List Addr → Hp → α → β → Prop} {r : Rs α} {K : α → Store → List Addr → Hp → β → Prop} (x : Ext m H m' H') (h : Fin G W σ R m H r K) : Fin G W σ R m' H' r K := by
  cases r with
  | ok a S' => exact fun m2 H2 v x2 => h m2 H2 v (x.trans x2)
  | ex c l S' => exact fun m2 H2 dx x2 => h m2 H2 dx (x.trans x2)
  | bad => exact h
theorem Fin.th {α β γ δ : Type} {R : List Addr → Hp → α → β → Prop} {R' : List Addr → Hp → γ → δ → Prop} {r : Rs α} {k : α → Store → Rs γ} {t : Tag k} {K : γ → Store → List Addr → Hp → δ → Prop}
    (h : Fin G W σ R' m H (r.th k t) K) : Fin G W σ R m H r fun a S' m' H' _ => Fin G W σ R' m' H' (k a S') K := by
  cases r with
  | ok a S' => exact fun m' H' v x _ _ => Fin.ext x h
  | ex c l S' => exact h
  | bad => exact h
theorem Fin.imp {α β : Type} {R : List Addr → Hp → α → β → Prop} {r : Rs α} {K K' : α → Store → List Addr → Hp → β → Prop} (h : Fin G W σ R m H r K) (k : ∀ a S' m' H' v, Ext m H m' H' → RS G m' H' S' → R m' H' a v → K a S' m' H' v → K' a S' m' H' v) : Fin G W σ R m H r K' := by
  cases r with
  | ok a S' => exact fun m' H' v x rs q => k a S' m' H' v x rs q (h m' H' v x rs q)
  | ex c l S' => exact h
  | bad => exact h
/-- a result that is no exception -/
def NoEx {α : Type} (r : Rs α) : Prop := ∀ c l S, r ≠ .ex c l S
theorem Fin.toV {α β : Type} {R : List Addr → Hp → α → β → Prop} {r : Rs α} {Q : β → Hp → Prop} (n : NoEx r) (h : Fin G W σ R m H r fun _ _ _ H' v => Q v H') : FinV G R m H r Q := by
  cases r with
  | ok a S' => exact h
  | ex c l S' => exact absurd rfl (n c l S')
  | bad => exact h
theorem noEx_mkL (b : Bool) (l : List D) (S : Store) : NoEx (mkL b l S) := by
  intro c k S'; unfold mkL; cases b <;> simp
theorem noEx_ofO {α : Type} (o : Option α) (S : Store) : NoEx (ofO o S) := by
  intro c k S'; unfold ofO; cases o <;> simp
theorem noEx_bin (op : Op) (b : Bool) (d e : D) (S : Store) : NoEx (binD op b d e S) := by
  intro c k S' h
  unfold binD at h
  repeat' split at h
  all_goals first
    | (cases h; done)
    | exact noEx_mkL _ _ _ _ _ _ h
theorem fin_mk {b : Bool} {l : List D} {vs : List V} {p : Addr} {Q : VK} (rs : RS G m H S) (r : RepL G m H l vs) (n : H p = none) (h : FinV G (Rep G) m H (mkL b l S) Q) : Q (.ref p) (upd H p (.lst vs)) := by
  cases b with
  | false => exact h m _ _ (Ext.new n) (rs.new n) (rep_lst ⟨rs.fresh n, .inl upd_same⟩ (RepL.mono (Ext.new n) _ _ r))
  | true => exact h (m ++ [p]) _ _ (Ext.cell n) (rs.cell n ⟨vs, upd_same, RepL.mono (Ext.cell n) _ _ r⟩) (rep_ref (by rw [← rs.len]; simp))
theorem fin_tup {l : List D} {vs : List V} {p : Addr} {Q : VK} (rs : RS G m H S) (r : RepL G m H l vs) (n : H p = none) (h : FinV G (Rep G) m H (.ok (.tup l) S) Q) : Q (.ref p) (upd H p (.tup vs)) :=
  h m _ _ (Ext.new n) (rs.new n) (rep_tup (.inl ⟨rs.fresh n, .inl upd_same⟩) (RepL.mono (Ext.new n) _ _ r))
theorem fin_same {α β : Type} {R : List Addr → Hp → α → β → Prop} {a : α} {v : β} {Q : β → Hp → Prop} (rs : RS G m H S) (r : R m H a v) (h : FinV G R m H (.ok a S) Q) : Q v H := h m H v Ext.refl rs r
end
theorem lim : LIM = sizeLine := by rw [sizeLine_eq]; rfl
/-- an operation on two values -/
def rBin (G : Pg) (op : Op) (b : Bool) : R2 := fun x y H Q => ∃ m S d e, RS G m H S ∧ Rep G m H d x ∧ Rep G m H e y ∧ FinV G (Rep G) m H (binD op b d e S) Q
section
variable {G : Pg} {X : Cx}
theorem rd_lst {pins : List (Addr × Obj)} {σ : L2.St} {H : Hp} {s : Shared} {l : Addr} {xs : List V} (I : Inv X pins σ H s) (hH : Rd H l (.lst xs)) :
    xs.length ≤ sizeLine ∧ ∃ (its : List Value) (n : Nat), Vals xs its ∧ xs.length = its.length ∧ s.heap.get? l = some { cls := .type "list", data := .seq its.toArray n } := by
  have q : ObjOk X.prog X.w H s.heap l (.lst xs) := hH.ok I.hok
  obtain ⟨z, its, n, r, e⟩ := q
  exact ⟨z, its, n, r, r.length, e⟩
/-- list + list -/
theorem op_catR : OpR X (binaryOp .Add) (fun x y H Q => ∃ l b xs zs, x = .ref l ∧ y = .ref b ∧ Rd H l (.lst xs) ∧ Rd H b (.lst zs) ∧ xs.length + zs.length ≤ sizeLine ∧ ∀ p, H p = none → Q (.ref p) (upd H p (.lst (xs ++ zs)))) := by
  intro pins s σ H x y v u Q I rx ry h
  obtain ⟨l, b, xs, zs, rfl, rfl, hl, hb, hz, q⟩ := h
  cases rx
  cases ry
  obtain ⟨_, its, n, r, e1, e⟩ := rd_lst I hl
  obtain ⟨_, its2, n2, r2, e3, e4⟩ := rd_lst I hb
  have hs : its.toArray.size + its2.toArray.size ≤ sizeLine := by simp only [List.size_toArray]; omega
  refine PySem.P.add_list e e4 ?_ hs
  rw [show its.toArray ++ its2.toArray = (its ++ its2).toArray by simp]
  have hn : H s.heap.objs.size = none := I.hok.fresh (Nat.le_refl _)
  exact ⟨.ref _, _, Inv.lnew (t' := s.toks) I (r.append r2) (by simp only [List.length_append]; omega), rfl, q _ hn⟩
theorem wd_log {k : Nat} (h : k < Wd) : k.log2 < 4001 := by
  unfold Wd at h
  by_cases z : k = 0
  · subst z; decide
  · have := (Nat.log2_lt z).mpr h
    omega
theorem op_ar (op : Op) : OpR X (binaryOp op.of) (fun x y H Q => ∃ i j k, x = .int i ∧ y = .int j ∧ arI op i j = some k ∧ Q (.int k) H) := by
  intro pins s σ H x y v u Q I rx ry ⟨i, j, k, ex, ey, ek, q⟩
  cases op with
  | add => cases ek; exact op_add pins s σ H x y v u Q I rx ry ⟨i, j, ex, ey, q⟩
  | sub => cases ek; exact op_sub pins s σ H x y v u Q I rx ry ⟨i, j, ex, ey, q⟩
  | mul =>
    simp only [arI] at ek
    split at ek
    · rename_i hb
      cases ek
      refine op_mulW pins s σ H x y v u Q I rx ry ⟨i, j, ex, ey, ?_, q⟩
      have h1 := wd_log hb.1
      have h2 := wd_log hb.2
      show i.natAbs.log2 + j.natAbs.log2 < 1000000
      omega
    · cases ek
  | div =>
    simp only [arI] at ek
    split at ek
    · rename_i hb
      cases ek
      refine op_fdivW pins s σ H x y v u Q I rx ry ⟨i, j, ex, ey, ⟨hb.1, ?_⟩, q⟩
      have h2 := wd_log hb.2
      omega
    · cases ek
  | mod =>
    simp only [arI] at ek
    split at ek
    · rename_i hb
      cases ek
      exact op_mod pins s σ H x y v u Q I rx ry ⟨i, j, ex, ey, hb, q⟩
    · cases ek
  | pow =>
    simp only [arI] at ek
    split at ek
    · rename_i hb
      cases ek
      exact op_pow pins s σ H x y v u Q I rx ry ⟨i, j, ex, ey, hb, q⟩
    · cases ek
  | shl =>
    simp only [arI] at ek
    split at ek
    · rename_i hb
      cases ek
      exact op_shl pins s σ H x y v u Q I rx ry ⟨i, j, ex, ey, hb, q⟩
    · cases ek
  | shr =>
    simp only [arI] at ek
    split at ek
    · rename_i hb
      cases ek
      exact op_shr pins s σ H x y v u Q I rx ry ⟨i, j, ex, ey, hb, q⟩
    · cases ek
  | band => cases ek; exact op_and pins s σ H x y v u Q I rx ry ⟨i, j, ex, ey, q⟩
  | bor => cases ek; exact op_or pins s σ H x y v u Q I rx ry ⟨i, j, ex, ey, q⟩
  | bxor => cases ek; exact op_xor pins s σ H x y v u Q I rx ry ⟨i, j, ex, ey, q⟩
/-- t * 1 is t itself -/
theorem mul_one (l : Addr) (items : Array Value) (n : Nat) (dd : Option Addr) (sl : Array (Option Value)) (u : Tok) :
    Meets (Builtin.«tuple.__mul__» ⟨[.ref l, .int 1 u], []⟩) (fun _ R s => s.heap.get? l = some ⟨.type "tuple", dd, .seq items n, sl⟩ ∧ R (.ok (.ret (Value.ref l))) s) :=
  .of_wp fun prog w A R s ⟨g, r⟩ => by
    obtain ⟨a1, a2, a3, a4, a5⟩ := s
    have f1 := AutoSeq1.idx_int
    wp_walk using wpAny_loadPart' g
    exact ⟨_, rfl, r⟩
theorem op_mul1 : OpR X (binaryOp .Mult) (fun x y H Q => ∃ l xs, x = .ref l ∧ y = .int 1 ∧ SqT X.K H l xs ∧ Q (.ref l) H) := by
  intro pins s σ H x y v u Q I rx ry ⟨l, xs, ex, ey, ht, q⟩
  subst ex ey
  cases rx
  obtain ⟨t, rfl⟩ := ry
  obtain ⟨its, r, ⟨⟨cl, dd, dt, sl⟩, ho, hc, n, hd⟩, _⟩ := I.tuple ht
  have hc' : cl = .type "tuple" := hc
  have hd' : dt = .seq its.toArray n := hd
  subst hc' hd'
  have ty : s.TypeIs (.ref l) "tuple" := ⟨_, ho, rfl⟩
  have inner : wpAny (model X.prog X.w) X.A (call (.builtin "tuple.__mul__") [.ref l, .int 1 t]) (EP X pins σ Q) X.xe s :=
    call_meets F.slot_tuple_mul ty F.entry_tuple_mul (F.args_tuple_mul_2 _ _) (mul_one l its.toArray n dd sl t) ⟨ho, ⟨.ref l, H, I, rfl, q⟩⟩
  exact wpAny_binaryOp_repeat_ref (T := "tuple") (U := "int") (by decide) ⟨_, ho, rfl⟩ (fun s' => typeIs_int s' 1 t) noFill_tuple_mul F.fills_int_mul F.slot_int_rmul repeat_tuple F.slot_int_index.lookup
    (call_meets F.slot_int_rmul (typeIs_int s 1 t) F.entry_int_rmul (F.args_int_rmul_2 _ _) (int_rmul_tuple 1 t l its.toArray n dd sl) ⟨ho, rfl, ⟨_, ho, rfl⟩, inner⟩)
theorem RepL.reps {G : Pg} {m : List Addr} {H : Hp} {l : List D} {vs : List V} (r : RepL G m H l vs) : ∀ k : Nat, RepL G m H (List.replicate k l).flatten (List.replicate k vs).flatten
  | 0 => RepL.nil
  | k + 1 => by
    rw [List.replicate_succ, List.replicate_succ, List.flatten_cons, List.flatten_cons]
    exact r.append (RepL.reps r k)
theorem str_app (s t : List Nat) : (⟨s.toArray⟩ : Str) ++ (⟨t.toArray⟩ : Str) = ⟨(s ++ t).toArray⟩ := by
  show (⟨s.toArray ++ t.toArray⟩ : Str) = _
  simp
theorem str_len (s : List Nat) : (⟨s.toArray⟩ : Str).length = s.length := by
  show s.toArray.size = _
  simp
theorem cat_lists (hK : X.K = G.K) {b : Bool} {pins : List (Addr × Obj)} {s : Shared} {σ : L2.St} {H : Hp} {x y : V} {v u : Value} {Q : VK} {m : List Addr} {S : Store} {d e : D} {l k : List D} (I : Inv X pins σ H s) (rx : RelV x v) (ry : RelV y u) (rs : RS G m H S) (rd : Rep G m H d x) (re : Rep G m H e y)
    (e1 : lstOf d S = some l) (e2 : lstOf e S = some k) (hz : l.length + k.length ≤ LIM) (h : FinV G (Rep G) m H (mkL b (l ++ k) S) Q) : wpAny (model X.prog X.w) X.A (binaryOp .Add v u) (EP X pins σ Q) X.xe s := by
  obtain ⟨p, vs, rfl, hp, r⟩ := lstOf_sq rs rd e1
  obtain ⟨q, us, rfl, hq, r2⟩ := lstOf_sq rs re e2
  refine op_catR pins s σ H _ _ v u Q I rx ry ⟨p, q, vs, us, rfl, rfl, hp, hq, ?_, fun a n => fin_mk rs (r.append r2) n h⟩
  rw [← r.length, ← r2.length, ← lim]
  exact hz
theorem cat_any (hK : X.K = G.K) {op : Op} {b : Bool} {pins : List (Addr × Obj)} {s : Shared} {σ : L2.St} {H : Hp} {x y : V} {v u : Value} {Q : VK} {m : List Addr} {S : Store} {d e : D} (I : Inv X pins σ H s) (rx : RelV x v) (ry : RelV y u) (rs : RS G m H S) (rd : Rep G m H d x) (re : Rep G m H e y)
    (h : FinV G (Rep G) m H (match op, lstOf d S, lstOf e S with
    | .add, some s, some t => if s.length + t.length ≤ LIM then mkL b (s ++ t) S else .bad
    | _, _, _ => .bad) Q) : wpAny (model X.prog X.w) X.A (binaryOp op.of v u) (EP X pins σ Q) X.xe s := by
  split at h
  · rename_i l k e1 e2
    split at h
    · rename_i hz
      exact cat_lists hK I rx ry rs rd re e1 e2 hz h
    · exact h.elim
  · exact h.elim
theorem op_bin (hK : X.K = G.K) (op : Op) (b : Bool) : OpR X (binaryOp op.of) (rBin G op b) := by
  intro pins s σ H x y v u Q I rx ry ⟨m, S, d, e, rs, rd, re, h⟩
  unfold binD at h
  split at h
  · rename_i i j
    cases ek : arI op i j with
    | none => rw [ek] at h; exact h.elim
    | some k =>
      rw [ek] at h
      exact op_ar op pins s σ H x y v u Q I rx ry ⟨i, j, k, rd.int_inv, re.int_inv, ek, fin_same rs rep_int h⟩
  · rename_i a c
    split at h
    · split at h
      · rename_i hz
        refine op_add_str pins s σ H x y v u Q I rx ry ⟨_, _, rd.str_inv, re.str_inv, ?_, ?_⟩
        · rw [str_len, str_len, ← lim]; exact hz
        · rw [str_app]
          exact fin_same rs rep_str h
      · exact h.elim
    · exact h.elim
  · rename_i a c
    split at h
    · split at h
      · rename_i hz
        obtain ⟨p, vs, rfl, fp, r⟩ := rd.tup_inv
        obtain ⟨q, us, rfl, fq, r2⟩ := re.tup_inv
        refine op_catA pins s σ H _ _ v u Q I rx ry ⟨p, q, vs, us, rfl, rfl, by rw [hK]; exact fp.sq, by rw [hK]; exact fq.sq, ?_, fun e0 => ?_, fun _ e1 => ?_, fun _ _ z n => fin_tup rs (r.append r2) n h⟩
        · rw [← r.length, ← r2.length, ← lim]; exact hz
        · subst e0
          have e3 : a = [] := List.eq_nil_of_length_eq_zero (by rw [r.length]; rfl)
          subst e3
          exact fin_same rs (rep_tup fq r2) h
        · subst e1
          have e3 : c = [] := List.eq_nil_of_length_eq_zero (by rw [r2.length]; rfl)
          subst e3
          exact fin_same rs (rep_tup fp (by rw [List.append_nil]; exact r)) h
      · exact h.elim
    · exact h.elim
  · rename_i a k
    split at h
    · split at h
      · rename_i hz
        obtain ⟨h1, h2, h3, h4⟩ := hz
        obtain ⟨p, vs, rfl, fp, r⟩ := rd.tup_inv
        have ek := re.int_inv
        subst ek
        have hT : SqT X.K H p vs := by rw [hK]; exact fp.sq
        by_cases h5 : k = 1
        · subst h5
          have el : (List.replicate (1 : Int).toNat a).flatten = a := by
            show (List.replicate 1 a).flatten = a
            simp
          rw [el] at h
          exact op_mul1 pins s σ H _ _ v u Q I rx ry ⟨p, vs, rfl, rfl, hT, fin_same rs (rep_tup fp r) h⟩
        · refine op_repT pins s σ H _ _ v u Q I rx ry ⟨p, k, vs, rfl, rfl, hT, fun z => ?_, by omega, h2, by rw [← r.length]; exact h4, fun z n => fin_tup rs (r.reps k.toNat) n h⟩
          rw [r.length, z] at h3
          exact absurd h3 (by decide)
      · exact h.elim
    · exact h.elim
  · exact cat_any hK I rx ry rs rd re h
end
end Ev
end
section
set_option maxRecDepth 100000
set_option maxHeartbeats 4000000
/-! Ev: sorted of tuples of whole numbers, by a list or a tuple. -/
namespace Ev
open PySem PySem.Spec PyProof.Rows L2
theorem lexL_asym : ∀ l r : List Int, lexL l r = true → lexL r l = false
  | [], [], h => by simp [lexL] at h
  | [], _ :: _, _ => rfl
  | _ :: _, [], h => by simp [lexL] at h
  | x :: l, y :: r, h => by
    simp only [lexL] at h ⊢
    by_cases e : x = y
    · rw [if_pos e] at h
      rw [if_pos e.symm]
      exact lexL_asym l r h
    · rw [if_neg e, decide_eq_true_eq] at h
      rw [if_neg (Ne.symm e), decide_eq_false_iff_not]
      omega
theorem lexL_tr : ∀ l r q : List Int, lexL r l = false → lexL q r = false → lexL q l = false
  | [], _, [], _, _ => rfl
  | [], [], _ :: _, _, _ => rfl
  | [], _ :: _, _ :: _, _, _ => rfl
  | _ :: _, [], _, h, _ => by simp [lexL] at h
  | _ :: _, _ :: _, [], _, h => by simp [lexL] at h
  | x :: l, y :: r, z :: q, h1, h2 => by
    simp only [lexL] at h1 h2 ⊢
    by_cases e1 : y = x
    · rw [if_pos e1] at h1
      subst e1
      by_cases e2 : z = y
      · rw [if_pos e2] at h2 ⊢
        exact lexL_tr l r q h1 h2
      · rw [if_neg e2] at h2 ⊢
        exact h2
    · rw [if_neg e1, decide_eq_false_iff_not] at h1
      by_cases e2 : z = y
      · subst e2
        rw [if_neg e1, decide_eq_false_iff_not]
        exact h1
      · rw [if_neg e2, decide_eq_false_iff_not] at h2
        rw [if_neg (by omega), decide_eq_false_iff_not]
        omega
theorem lexL_eq : ∀ l r : List Int, lexL l r = false → lexL r l = false → l = r
  | [], [], _, _ => rfl
  | [], _ :: _, h, _ => by simp [lexL] at h
  | _ :: _, [], _, h => by simp [lexL] at h
  | x :: l, y :: r, h1, h2 => by
    simp only [lexL] at h1 h2
    by_cases e : x = y
    · rw [if_pos e] at h1
      rw [if_pos e.symm] at h2
      rw [e, lexL_eq l r h1 h2]
    · rw [if_neg e, decide_eq_false_iff_not] at h1
      rw [if_neg (Ne.symm e), decide_eq_false_iff_not] at h2
      omega
theorem insT_perm (x : List Int) : ∀ l, (insT x l).Perm (x :: l)
  | [] => List.Perm.refl _
  | y :: r => by
    unfold insT
    split
    · exact List.Perm.refl _
    · exact ((insT_perm x r).cons y).trans (List.Perm.swap x y r)
theorem sortT_perm : ∀ l, (sortT l).Perm l
  | [] => List.Perm.refl _
  | x :: r => (insT_perm x (sortT r)).trans ((sortT_perm r).cons x)
theorem insT_sorted (x : List Int) : ∀ l : List (List Int), l.Pairwise (fun a b => lexL b a = false) → (insT x l).Pairwise (fun a b => lexL b a = false)
  | [], _ => List.pairwise_singleton _ _
  | y :: r, h => by
    obtain ⟨h1, h2⟩ := List.pairwise_cons.mp h
    unfold insT
    split
    · rename_i e
      refine List.pairwise_cons.mpr ⟨fun z hz => ?_, h⟩
      rcases List.mem_cons.mp hz with rfl | hz
      · exact e
      · exact lexL_tr _ _ _ e (h1 z hz)
    · rename_i e
      refine List.pairwise_cons.mpr ⟨fun z hz => ?_, insT_sorted x r h2⟩
      rcases List.mem_cons.mp ((insT_perm x r).mem_iff.mp hz) with rfl | hz
      · exact lexL_asym _ _ (by simpa using e)
      · exact h1 z hz
theorem sortT_sorted : ∀ l, (sortT l).Pairwise (fun a b => lexL b a = false)
  | [] => List.Pairwise.nil
  | x :: r => insT_sorted x _ (sortT_sorted r)
theorem sortT_uniq {l r : List (List Int)} (p : r.Perm l) (s : r.Pairwise (fun a b => lexL b a = false)) : r = sortT l :=
  List.Perm.eq_of_pairwise (fun a b _ _ h1 h2 => lexL_eq a b h2 h1) s (sortT_sorted l) (p.trans (sortT_perm l).symm)
theorem swo_lexL (k : Value → List Int) : SrtO.Swo fun v u => lexL (k v) (k u) := ⟨fun _ _ h => lexL_asym _ _ h, fun _ _ _ h1 h2 => lexL_tr _ _ _ h1 h2⟩
/-- a tuple of ints -/
def IsIT (h : Heap) (v : Value) (l : List Int) : Prop := ∃ a o its n, v = .ref a ∧ h.get? a = some o ∧ o.cls = .type "tuple" ∧ o.data = .seq its n ∧ IntsAre its.toList l
theorem IsIT.keeps {h h' : Heap} {v : Value} {l : List Int} (p : IsIT h v l) (k : ∀ b o, h.get? b = some o → o.cls = .type "tuple" → h'.get? b = some o) : IsIT h' v l := by
  obtain ⟨a, o, its, n, e, ho, hc, hd, hi⟩ := p
  exact ⟨a, o, its, n, e, k a o ho hc, hc, hd, hi⟩
section
variable {prog : Program} {w : World} {A : Around} {E : Value → Shared → Prop} {s : Shared}
theorem lex_kat {fin : Bool} {Q : Bool → Shared → Prop} : ∀ (xs ys : List Value) (l r : List Int) (i : Nat), IntsAre xs l → IntsAre ys r → fin = decide (xs.length < ys.length) → Q (lexL l r) s → PySem.W.KatLex prog w A true fin Q (xs.zip ys) i s
  | [], [], _, _, _, .nil, .nil, hf, h => PySem.W.kat_nil (by subst hf; exact h)
  | [], _ :: _, _, _, _, .nil, .cons _ _ _, hf, h => PySem.W.kat_nil (by subst hf; simpa [lexL] using h)
  | _ :: _, [], _, _, _, .cons _ _ _, .nil, hf, h => PySem.W.kat_nil (by subst hf; simpa [lexL] using h)
  | _ :: xs, _ :: ys, _, _, i, .cons (ns := l) x t hx, .cons (ns := r) y u hy, hf, h => by
    rw [List.zip_cons_cons]
    refine PySem.W.kat_cons (SeqAt.EqAt.int_int x t y u prog w _ _ ?_)
    simp only [lexL] at h
    refine PySem.W.kat_go (fun e => ?_) (fun e => ?_)
    · have ex : x = y := by simpa using e
      rw [if_pos ex] at h
      exact PySem.W.kat_yes (lex_kat xs ys l r (i + 1) hx hy (by rw [hf]; simp) h)
    · have ex : ¬ x = y := by simpa using e
      rw [if_neg ex] at h
      refine PySem.W.kat_no ?_
      cases i with
      | zero => exact oneLt_int h
      | succ i => exact PySem.W.kat_one _ _ (PyProof.Rows.lt_int h)
theorem tup_cmp {vs : List Value} {k : Value → List Int} (hp : ∀ v ∈ vs, IsIT s.heap v (k v)) : SrtO.Cmp prog w A s (tuples' true) (fun p => p.1 ∈ vs) (SrtO.lt2 fun v u => lexL (k v) (k u)) := by
  intro p q hm hm'
  obtain ⟨a, o, its, n, e, ho, hc, hd, hi⟩ := hp _ hm
  obtain ⟨a', o', its', n', e', ho', hc', hd', hi'⟩ := hp _ hm'
  show wpAny (model prog w) A (keyLt' (tuples' true) p.1 q.1) (fun r s' => s' = s ∧ r = lexL (k p.1) (k q.1)) (fun _ _ => False) s
  generalize k p.1 = x at hi ⊢
  generalize k q.1 = y at hi' ⊢
  rw [e, e']
  refine PySem.W.kat_lt ho hd ho' hd' ?_
  exact lex_kat _ _ _ _ 0 hi hi' (by simp) ⟨rfl, rfl⟩
theorem tup_firsts {h : Heap} {k : Value → List Int} : ∀ {vs : List Value}, (∀ v ∈ vs, IsIT h v (k v) ∧ k v ≠ []) → ∃ fs : List Value, PySem.W.KatTups h vs fs ∧ fs.length = vs.length ∧ ∀ f ∈ fs, ∃ x t, f = Value.int x t
  | [], _ => ⟨[], .nil, rfl, fun _ z => absurd z (by simp)⟩
  | v :: vs, hp => by
    obtain ⟨fs, h1, h2, h3⟩ := tup_firsts (vs := vs) fun v' hm => hp v' (List.mem_cons_of_mem _ hm)
    obtain ⟨⟨a, o, its, n, e, ho, hc, hd, hi⟩, hne⟩ := hp v List.mem_cons_self
    obtain ⟨x, t, us, ea⟩ : ∃ x t us, its = ⟨Value.int x t :: us⟩ := by
      cases its with
      | mk us =>
        generalize k v = l at hi hne
        cases hi with
        | nil => exact absurd rfl hne
        | cons x t r => exact ⟨x, t, _, rfl⟩
    subst ea
    refine ⟨.int x t :: fs, ?_, by simp [h2], ?_⟩
    · rw [e]
      exact .cons ho hc hd (by simp) h1
    · intro f hf
      rcases List.mem_cons.mp hf with rfl | hf
      · exact ⟨x, t, rfl⟩
      · exact h3 f hf
theorem tups_sortable {a : Addr} {vs : List Value} {k : Value → List Int} (h0 : 0 < vs.length) (hp : ∀ v ∈ vs, IsIT s.heap v (k v) ∧ k v ≠ []) (ha : ∀ o, s.heap.get? a = some o → o.cls ≠ .type "tuple") : SrtO.SortableO prog w A s a vs fun v u => lexL (k v) (k u) := by
  intro h' keep
  have hp' : ∀ v ∈ vs, IsIT h' v (k v) ∧ k v ≠ [] := fun v hm => ⟨(hp v hm).1.keeps fun b o e c => keep b o (fun z => by subst z; exact ha o e c) e, (hp v hm).2⟩
  obtain ⟨fs, h1, h2, h3⟩ := tup_firsts hp'
  refine ⟨tuples' true, fun Q E hq => ?_, tup_cmp fun v hm => (hp' v hm).1⟩
  refine PySem.W.kat_kind (T := .type "int") h1 (by omega) (fun f hm => ?_) (by rfl) ?_
  · obtain ⟨x, t, rfl⟩ := h3 f hm
    exact PySem.W.Looks.now
  · have e : (Value.type "int" != Value.type "tuple") = true := by first | decide +kernel | rfl | decide
    rw [e]
    exact hq
/-- a list or a tuple is collected -/
theorem collect_lt {l : Addr} {vs : List Value} {T : String} {n : Nat} {o : Obj} {Q : List Value → Shared → Prop} (hT : T = "list" ∨ T = "tuple") (ho : s.heap.get? l = some o) (hc : o.cls = .type T) (hd : o.data = .seq vs.toArray n)
    (h : Q vs { s with heap := (s.heap.push (seqObj "list" #[] 0)).update s.heap.objs.size (Obj.mapSeq (· ++ vs.toArray)) }) (hsz : vs.length ≤ sizeLine) :
    wpAny (model prog w) A (collect (.ref l)) Q E s := by
  unfold collect
  refine wpAny_bind (wpAny_runValue (codeAny_builtin entry_proto_collect' ?_))
  show wpAny _ _ (do again (.builtin "list.__iadd__" ⟨[← newList [], .ref l], []⟩)) _ _ s
  refine wpAny_bind (wpAny_newList (wpAny_pure ⟨Code.quiet_builtin _ (by decide +kernel), codeAny_builtin entry_list_iadd' ?_⟩))
  show wpAny _ _ (Builtin.List.listExtendWith (.ref s.heap.objs.size) (.ref l) (.ref s.heap.objs.size)) _ _ { s with heap := s.heap.push (seqObj "list" #[] 0) }
  unfold Builtin.List.listExtendWith
  have ho' : (s.heap.push (seqObj "list" #[] 0)).get? l = some o := Heap.get?_push_of_some _ ho
  refine wpAny_bind (wpAny_typeOf (T := T) ⟨o, ho', hc⟩ ?_)
  have ht : (Builtin.List.listSameRef (.ref s.heap.objs.size) (.ref l) || Value.type T == Value.type "list" || Value.type T == Value.type "tuple") = true := by
    rcases hT with rfl | rfl
    · rw [show (Value.type "list" == Value.type "list") = true by rfl]; simp
    · rw [show (Value.type "tuple" == Value.type "tuple") = true by rfl]; simp
  rw [if_pos ht]
  refine wpAny_bind (listItems_at ho' hd ?_); refine wpAny_bind (listItems_at (xs := #[]) (n := 0) (Heap.get?_push_size _ rfl) rfl ?_)
  rw [if_neg (by simp)]
  refine wpAny_bind (listUpdate_at (xs := #[]) (n := 0) (Heap.get?_push_size _ rfl) rfl ?_ (Nat.zero_le _) (by show (#[] ++ vs.toArray).size ≤ sizeLine + 1; simp only [Array.size_append, List.size_toArray, List.length_nil]; omega)); refine wpAny_pure ?_
  show wpAny (model prog w) A (do
      let o ← load s.heap.objs.size
      match o.data with
      | .seq xs _ => pure xs.toList
      | _ => unsupported "internal:collect") Q E { s with heap := (s.heap.push (seqObj "list" #[] 0)).update s.heap.objs.size (Obj.mapSeq (· ++ vs.toArray)) }
  refine wpAny_bind (wpAny_load (get?_update_seq (Heap.get?_push_size _ rfl) _) ?_)
  show wpAny _ _ (pure ((#[] : Array Value) ++ vs.toArray).toList) Q E _
  rw [show ((#[] : Array Value) ++ vs.toArray).toList = vs by simp]
  exact wpAny_pure h
/-- sorted(x), x a list or a tuple: a new list -/
theorem sorted_seqO {l : Addr} {vs : List Value} {T : String} {n : Nat} {o : Obj} {ltv : Value → Value → Bool} {Q : Value → Shared → Prop} (O : SrtO.Swo ltv) (hT : T = "list" ∨ T = "tuple") (ho : s.heap.get? l = some o) (hc : o.cls = .type T) (hd : o.data = .seq vs.toArray n) (hz : vs.length ≤ sizeLine)
    (hS : 2 ≤ vs.length → ∀ (h₁ : Heap) (a : Addr), h₁.get? a = some (seqObj "list" vs.toArray 0) → (∀ b o, s.heap.get? b = some o → b ≠ a ∧ h₁.get? b = some o) → SrtO.SortableO prog w A.in1.in1 { s with heap := h₁ } a vs ltv)
    (h : ∀ (h' : Heap) (d : Addr) (out : List Value), SrtO.Srtd ltv out → SrtO.Stb ltv out vs → (∀ b o, s.heap.get? b = some o → h'.get? b = some o) → s.heap.objs.size ≤ d → (∃ n, h'.get? d = some (seqObj "list" out.toArray n)) → Q (.ref d) { s with heap := h' }) :
    wpAny (model prog w) A (call (.builtin "sorted") [.ref l]) Q E s := by
  refine Calls.call_function_entry kind_sorted plain_sorted entry_sorted (args_sorted1 _) ?_
  unfold Builtin.«sorted»
  refine wpAny_bind (m := checkCount "sorted" 1 1 _) (wpAny_pure ?_); refine wpAny_bind (collect_lt hT ho hc hd ?_ hz)
  have sz1 : ((s.heap.push (seqObj "list" #[] 0)).update s.heap.objs.size (Obj.mapSeq (· ++ vs.toArray))).objs.size = s.heap.objs.size + 1 := by
    rw [Heap.size_update, size_push']
  have k1 : ∀ b o, s.heap.get? b = some o → ((s.heap.push (seqObj "list" #[] 0)).update s.heap.objs.size (Obj.mapSeq (· ++ vs.toArray))).get? b = some o := fun b o q => by
    rw [Heap.get?_update_ne _ _ _ _ (Nat.ne_of_lt (Heap.lt_size q))]
    exact Heap.get?_push_of_some _ q
  revert sz1 k1
  generalize (s.heap.push (seqObj "list" #[] 0)).update s.heap.objs.size (Obj.mapSeq (· ++ vs.toArray)) = h1
  intro sz1 k1
  refine wpAny_bind (wpAny_newList ?_ hz)
  have hoL : (h1.push (seqObj "list" vs.toArray 0)).get? h1.objs.size = some (seqObj "list" vs.toArray 0) := Heap.get?_push_size _ rfl
  have keep : ∀ b o, s.heap.get? b = some o → b ≠ h1.objs.size ∧ (h1.push (seqObj "list" vs.toArray 0)).get? b = some o := fun b o q => by
    have hlt : b < h1.objs.size := Heap.lt_size (k1 _ _ q)
    exact ⟨Nat.ne_of_lt hlt, Heap.get?_push_of_some _ (k1 _ _ q)⟩
  show wpAny _ _ _ _ _ { s with heap := h1.push (seqObj "list" vs.toArray 0) }
  refine wpAny_bind (wpAny_holding (wpAny_call_entry slot_list_sort ⟨_, hoL, rfl⟩ entry_list_sort (SrtO.list_sort_ord O hoL hz (fun h2 => hS h2 _ _ hoL keep) fun out hs hb => ⟨_, rfl, ?_⟩) (args_list_sort _))); refine wpAny_pure ⟨_, rfl, h _ _ out hs hb (fun b o q => ?_) (by show s.heap.objs.size ≤ h1.objs.size; omega) (sortedHeap_at hoL)⟩
  rw [sortedHeap_old (keep b o q).1 (by rw [Heap.size_push]; exact Nat.lt_succ_of_lt (Heap.lt_size (k1 _ _ q)))]
  exact (keep b o q).2
theorem seq_at {X : Cx} {pins : List (Addr × Obj)} {σ : L2.St} {H : Hp} {s : Shared} {a : Addr} {xs : List V} (I : Inv X pins σ H s) (h : SqL X.K H a xs ∨ SqT X.K H a xs) : ∃ (its : List Value) (T : String) (n : Nat) (o : Obj), Vals xs its ∧ (T = "list" ∨ T = "tuple") ∧ s.heap.get? a = some o ∧ o.cls = .type T ∧ o.data = .seq its.toArray n ∧ xs.length ≤ sizeLine := by
  rcases h with h | h
  · obtain ⟨its, rv, ⟨o, n, e, hc, hn, hd⟩, hz⟩ := I.list h
    exact ⟨its, "list", n, o, rv, .inl rfl, e, hc, hd, hz⟩
  · obtain ⟨its, rv, ⟨o, e, hc, n, hd⟩, hz⟩ := I.tuple h
    exact ⟨its, "tuple", n, o, rv, .inr rfl, e, hc, hd, hz⟩
end
/-- sorted(x), ints -/
def rSortI2 (K : PySem.W.Frag) : List V → Hp → VK → Prop := fun vs H Q => ∃ (a : Addr) (ns : List Int), vs = [V.ref a] ∧ (SqL K H a (ns.map V.int) ∨ SqT K H a (ns.map V.int)) ∧
  ∀ (ns' : List Int) (p : Addr), ns'.Perm ns → ns'.Pairwise (· ≤ ·) → H p = none → Q (.ref p) (upd H p (.lst (ns'.map V.int)))
/-- sorted(x), tuples of ints that are not empty -/
def rSortT2 (K : PySem.W.Frag) : List V → Hp → VK → Prop := fun vs H Q => ∃ (a : Addr) (xs : List V) (k : V → List Int), vs = [V.ref a] ∧ (SqL K H a xs ∨ SqT K H a xs) ∧ (∀ x ∈ xs, ∃ t, x = V.ref t ∧ SqT K H t ((k x).map V.int) ∧ k x ≠ []) ∧
  ∀ ys p, ys.Perm xs → (ys.map k).Pairwise (fun a b => lexL b a = false) → H p = none → Q (.ref p) (upd H p (.lst ys))
section
variable {X : Cx}
theorem cr_sortI2 : CallR X (.builtin "sorted") (rSortI2 X.K) := by
  intro pins s σ H vs us Q I r h
  obtain ⟨a, ns, rfl, hs, q⟩ := h
  obtain ⟨its, T, n, o, rv, hT, ho, hc, hd, hz⟩ := seq_at I hs
  rw [Vals.ref1 r]
  have hi := rv.ints
  refine sorted_seqO SrtO.swo_int hT ho hc hd (by rw [← rv.length]; exact hz) (fun h2 h₁ a' _ _ => SrtO.ints_sortable hi h2) fun h' d out h1 h2 kp hd hn => ?_
  obtain ⟨k1, k2, k3⟩ := SrtO.ints_out hi h1 h2
  obtain ⟨n, hn⟩ := hn
  have hlen : ((out.map SrtO.iv).map V.int).length ≤ sizeLine := by
    rw [List.length_map, k2.length_eq]
    rw [List.length_map] at hz
    exact hz
  exact ⟨.ref d, upd H d (.lst ((out.map SrtO.iv).map V.int)), I.laid (t' := s.toks) kp hd ⟨hlen, out, n, vals_of_ints k1, hn⟩, rfl, q _ _ k2 k3 (I.hok.fresh hd)⟩
theorem cr_sortT2 : CallR X (.builtin "sorted") (rSortT2 X.K) := by
  intro pins s σ H vs us Q I r h
  obtain ⟨a, xs, k, rfl, hs, hx, q⟩ := h
  obtain ⟨its, T, n, o, rv, hT, ho, hc, hd, hz⟩ := seq_at I hs
  rw [Vals.ref1 r]
  obtain ⟨e1, e2⟩ := refs_back rv fun x m => by
    obtain ⟨t, e, _⟩ := hx x m
    exact ⟨t, e⟩
  have hp : ∀ v ∈ its, IsIT s.heap v (k (backV v)) ∧ k (backV v) ≠ [] := by
    intro v hv
    obtain ⟨t, rfl⟩ := e2 v hv
    have hm : V.ref t ∈ xs := by rw [e1]; exact List.mem_map.mpr ⟨_, hv, rfl⟩
    obtain ⟨t', e, ht, hne⟩ := hx _ hm
    cases e
    obtain ⟨its2, r2, ⟨o2, g1, g2, n2, g3⟩, _⟩ := I.tuple ht
    exact ⟨⟨t, o2, its2.toArray, n2, rfl, g1, g2, g3, by show IntsAre its2 (k (V.ref t)); exact r2.ints⟩, hne⟩
  refine sorted_seqO (swo_lexL fun u => k (backV u)) hT ho hc hd (by rw [← rv.length]; exact hz) (fun h2 h₁ a' ha kk => ?_) fun h' d out h1 h2 kp hd hn => ?_
  · refine tups_sortable (s := { s with heap := h₁ }) (by omega) (fun v hm => ⟨(hp v hm).1.keeps fun b o e _ => (kk b o e).2, (hp v hm).2⟩) fun o e => ?_
    have e' : some o = some (seqObj "list" its.toArray 0) := e.symm.trans ha
    cases e'
    intro c
    exact absurd (Value.type.inj c) (by decide)
  · have h3 : ∀ u ∈ out, ∃ a, u = Value.ref a := fun u hu => e2 u (h2.perm.mem_iff.mp hu)
    obtain ⟨n, hn⟩ := hn
    have hb : (out.map backV).Perm xs := by
      rw [e1]
      exact h2.perm.map backV
    refine ⟨.ref d, upd H d (.lst (out.map backV)), I.laid (t' := s.toks) kp hd ⟨?_, out, n, vals_back h3, hn⟩, rfl, q _ d hb ?_ (I.hok.fresh hd)⟩
    · rw [hb.length_eq]
      exact hz
    · rw [List.map_map]
      exact List.pairwise_map.mpr (h1.imp fun {x y} h => h)
end
end Ev
end
section
set_option maxRecDepth 100000
set_option maxHeartbeats 4000000
/-! Ev: enumerate and sum of a tuple. -/
namespace Ev
open PySem PySem.Spec PyProof.Rows L2
/-- enumerate(v) -/
theorem meets_enum1 {v : Value} {ob : Obj} {P : Heap → Prop} (B : Begins v ob P) :
    Meets (Builtin.«enumerate.__new__» ⟨[.type "enumerate", v], []⟩) (fun _ R s => P s.heap ∧
      R (.ok (.ret (.ref (s.heap.push ob).objs.size))) { s with heap := (s.heap.push ob).push { cls := .type "enumerate", data := .fields #[.none, .bool false, .ref s.heap.objs.size, rawInt 0, .none, .none] } }) :=
  .of_wp fun prog w A R s h => by
    obtain ⟨hp, g, d, tk, os⟩ := s
    obtain ⟨hP, hR⟩ := h
    have hsub := sub_enumerate
    have nx : ∀ {A2 : Around} {E2 : Value → Shared → Prop} {Q2 : Value → Shared → Prop}, Q2 (.ref hp.objs.size) ⟨hp.push ob, g, d, tk, os⟩ → wpAny (model prog w) A2 (pyIter v) Q2 E2 ⟨hp, g, d, tk, os⟩ := fun q => B.iter prog w _ _ ⟨hp, g, d, tk, os⟩ _ hP q
    wp_walk using nx
    refine wpAny_stack_any fun st => wpAny_pure ?_
    split
    · rename_i c _ _ _ _ _
      cases (c == Value.type "enumerate") <;> (wp_walk using nx; exact ⟨_, rfl, hR⟩)
    · wp_walk using nx
      exact ⟨_, rfl, hR⟩
section
variable {prog : Program} {w : World} {A : Around} {E : Value → Shared → Prop} {s : Shared}
theorem call_enum1 {v : Value} {ob : Obj} {P : Heap → Prop} {Q : Value → Shared → Prop} (B : Begins v ob P) (hP : P s.heap)
    (hq : ∀ h', IsEnum h' (s.heap.objs.size + 1) s.heap.objs.size 0 .none → h'.get? s.heap.objs.size = some ob → h'.objs.size = s.heap.objs.size + 2 → (∀ b o, s.heap.get? b = some o → h'.get? b = some o) → Q (.ref (s.heap.objs.size + 1)) { s with heap := h' }) :
    wpAny (model prog w) A (call (.type "enumerate") [v]) Q E s := by
  refine callType_new F.called_enumerate (by decide) (F.typeCall_enumerate_1 _) (F.newCall_enumerate_1 _) (fun obj => F.args_object_init_2 obj _) F.entry_enumerate_new (meets_enum1 B) ⟨hP, ?_⟩
  have sz : (s.heap.push ob).objs.size = s.heap.objs.size + 1 := Heap.size_push ..
  show _ ∧ _
  rw [sz]
  have at1 := Heap.get?_push_size (s.heap.push ob) (o := { cls := .type "enumerate", data := .fields #[.none, .bool false, .ref s.heap.objs.size, rawInt 0, .none, .none] }) rfl
  rw [sz] at at1
  exact ⟨⟨_, at1, rfl⟩, hq _ at1 (Heap.get?_push_of_some _ (Heap.get?_push_size _ B.free)) (by rw [Heap.size_push, sz]) fun b o x => Heap.get?_push_of_some _ (Heap.get?_push_of_some _ x)⟩
end
/-- the tuple at a, each item in a new pair -/
def Itet (K : PySem.W.Frag) (a : Addr) : It :=
  ⟨fun i H => ∃ (xs : List V) (x : V), SqT K H a xs ∧ xs[i]? = some x, fun i H v H' => ∃ T x, v = .ref T ∧ H T = none ∧ H' = upd H T (.tup [.int (i : Nat), x]) ∧ ∀ xs, SqT K H a xs → xs[i]? = some x, fun i H => ∃ xs : List V, SqT K H a xs ∧ xs.length ≤ i⟩
theorem turn_enumT {P : Program} {w : World} {K : PySem.W.Frag} {elts : List Expr} {kk : Nat} {tpos : Pos} (a e it : Addr) :
    Turn P w K (.Tuple elts kk tpos) (Itet K a) [e, it] e (fun i h => (∃ old, IsEnum h e it ((i : Nat) : Int) old) ∧ h.IsTupleIter it a i ∧ e ≠ it ∧ a ≠ it ∧ e ≠ a) where
  mem := by simp
  obj := fun i h ⟨⟨old, he⟩, ⟨o, ho, hc, hd⟩, _⟩ b hb => by
    rcases (by simpa using hb : b = e ∨ b = it) with rfl | rfl
    · exact ⟨_, he, fun v q => nomatch q⟩
    · exact ⟨o, ho, fun v q => by rw [hd] at q; cases q⟩
  keep := fun i h h' ⟨⟨old, he⟩, hi, hne⟩ k => ⟨⟨old, k e (by simp) _ he⟩, hi.at fun o q => k it (by simp) o q, hne⟩
  item := by
    intro X hP hw hK hc i pins s σ H E I hf ⟨⟨old, he⟩, hit, n1, n2, n3⟩ ⟨xs, x, hq, hx⟩
    subst hP hw hK
    obtain ⟨its, rv, p, hz⟩ := I.tuple hq
    obtain ⟨u, hu, ru⟩ := rv.get hx
    have hl := rv.length
    have hlt : i < its.toArray.size := by
      have := (List.getElem?_eq_some_iff.mp hu).1
      simpa using this
    have hel : e < s.heap.objs.size := Heap.lt_size he
    have hil : it < s.heap.objs.size := by obtain ⟨_, q, _⟩ := hit; exact Heap.lt_size q
    have D := Draws.tuple (prog := X.prog) (w := X.w) (A := X.A.in1) (I.ok.hd hc) it a n2 its.toArray
    refine wpAny_pyNext_enum_itemD D he ⟨hit, p⟩ hlt n1 (by simp [n1, n3]) fun v h' tk hv ho hst hT hsz hk => ?_
    have ev : v = u := by
      have : its.toArray[i]? = some v := hv
      rw [List.getElem?_toArray, hu] at this
      exact (Option.some.inj this).symm
    subst ev
    refine ⟨_, rfl, wpAny_letOwnedTupleGo_enum (s := { s with heap := h', toks := tk + 1 }) ho fun h'' he' sb => ?_⟩
    have hT2 := (sb.2 _ (Nat.ne_of_gt hel)).trans hT
    have new : ObjOk X.prog X.w (upd H s.heap.objs.size (.tup [.int (i : Nat), x])) h'' s.heap.objs.size (.tup [.int (i : Nat), x]) :=
      ⟨by show 2 ≤ sizeLine; decide, [.int i tk, v], .cons ⟨_, rfl⟩ (.cons ru .nil), ⟨_, hT2, rfl, _, rfl⟩⟩
    have I1 : Inv X pins σ (upd H s.heap.objs.size (.tup [.int (i : Nat), x])) { s with heap := h'', toks := tk + 1 } :=
      I.turnedNew (ch := [e, it]) (fun b ob hb q => (sb.2 b (fun z => hb (by simp [z]))).trans (hk b ob (fun z => hb (by simp [z])) (fun z => hb (by simp [z])) q)) hf (Nat.le_refl _) new
    refine ⟨.ref s.heap.objs.size, _, I1, rfl, ⟨_, x, rfl, I.hok.fresh (Nat.le_refl _), rfl, fun ys hy => by rw [I.tuple_inj hy hq]; exact hx⟩, ⟨⟨v, ?_⟩, hst.1.at fun o q => (sb.2 it (Ne.symm n1)).trans q, n1, n2, n3⟩, fun b hb => ?_⟩
    · rw [show ((i + 1 : Nat) : Int) = (i : Int) + 1 by omega]
      exact he'
    · rw [upd_ne (Nat.ne_of_lt (by
        rcases (by simpa using hb : b = e ∨ b = it) with rfl | rfl
        · exact hel
        · exact hil))]
      exact (hf b hb).1
  done := by
    intro X hP hw hK hc i pins s σ H E I hf ⟨⟨old, he⟩, hit, n1, n2, n3⟩ ⟨xs, hq, hx⟩
    subst hP hw hK
    obtain ⟨its, rv, p, hz⟩ := I.tuple hq
    obtain ⟨f0, f1, f2, f3, f4, f5⟩ := hf it (by simp)
    have hl := rv.length
    have no : its.toArray[i]? = none := by
      rw [List.getElem?_toArray]
      exact List.getElem?_eq_none (by omega)
    have ty : s.TypeIs (.ref e) "enumerate" := ⟨_, he, rfl⟩
    unfold pyNext
    refine wpAny_bind (wpAny_attempt (wpAny_callSpecial?_slot (name := Str.ofString "__next__") ty F.slot_enumerate_next (wpAny_call_entry F.slot_enumerate_next ty F.entry_enumerate_next ?_ (F.args_enumerate_next_1 _))))
    show wpAny _ _ (field (.ref e) 2 >>= _) _ _ _
    refine wpAny_bind (wpAny_field he rfl (x := .ref it) rfl (wpAny_bind (wpAny_nextOf_tuple_end (show X.A.in1.in1.handled = none from I.ok.hd hc) hit p no fun h' x eb ⟨o, ho, hcl⟩ => ?_)))
    refine wpAny_bind (wpAny_isInstance (T := "StopIteration") (b := true) ⟨o, ho, hcl⟩ isSubtype_stop (wpAny_pure ?_))
    exact ⟨rfl, I.turned (t' := s.toks) (fun b o hb q => eb b o hb q) f0 f1 f3 f4 f5⟩
  self := fun A i s Q E ⟨⟨_, he⟩, _⟩ h => wpAny_pyIter_enum he h
def iEnumA (K : PySem.W.Frag) (ta : TA) : TI := fun σ H R => ta σ H fun vs H1 => ∃ a, vs = [.ref a] ∧ ((∃ xs, SqL K H1 a xs ∧ R (Ite K a) H1) ∨ ∃ xs, SqT K H1 a xs ∧ R (Itet K a) H1)
theorem pi_enumA {X : Cx} {e : Expr} {ta : TA} {p pos tpos : Pos} {elts : List Expr} {kk : Nat} (hg : Gl X "enumerate") (hm : X.mg "enumerate" = none) (ha : PA X [e] ta) (hs : starEach [e] X.env = [(false, eval e X.env)]) :
    PI X (.Tuple elts kk tpos) (.Call (.Name "enumerate" p) [e] [] pos) (iEnumA X.K ta) := by
  refine ⟨fun pins s σ H R I h => Call_ (ld_blt I hg hm boot_enumerate (PyProof.Rows.callWith_type1 (thn (ha.run pos pins s σ H _ I h) fun us s1 ⟨vs, H1, I1, r1, q1⟩ => ?_) hs rfl))⟩
  obtain ⟨a, ex, q1⟩ := q1
  subst ex
  rw [Vals.ref1 r1]
  have fp : ∀ b ∈ [s1.heap.objs.size + 1, s1.heap.objs.size], FpOk X pins H1 b := fun b hb => by
    have hle : s1.heap.objs.size ≤ b := by
      rcases (by simpa using hb : b = s1.heap.objs.size + 1 ∨ b = s1.heap.objs.size) with z | z <;> omega
    exact I1.fpOk hle (I1.hok.fresh hle)
  rcases q1 with ⟨xs, hq, q⟩ | ⟨xs, hq, q⟩
  · obtain ⟨its, rv, p', hz⟩ := I1.list hq
    refine call_enumerate_list p'.isList fun h' he hit hsz hk => wpAny_pyIter_enum he ?_
    exact ⟨s1.heap.objs.size + 1, _, _, _, H1, rfl, I1.kept (t' := s1.toks) hk, turn_enum a (s1.heap.objs.size + 1) s1.heap.objs.size, ⟨⟨.none, he⟩, hit, Nat.succ_ne_self _⟩, fp, q⟩
  · obtain ⟨its, rv, p', hz⟩ := I1.tuple hq
    have la : a < s1.heap.objs.size := by
      obtain ⟨o, ho, _⟩ := p'
      exact Heap.lt_size ho
    refine call_enum1 (begins_tuple a its.toArray) p' fun h' he hit hsz hk => wpAny_pyIter_enum he ?_
    exact ⟨s1.heap.objs.size + 1, _, _, _, H1, rfl, I1.kept (t' := s1.toks) hk, turn_enumT a (s1.heap.objs.size + 1) s1.heap.objs.size, ⟨⟨.none, he⟩, ⟨_, hit, rfl, rfl⟩, Nat.succ_ne_self _, Nat.ne_of_lt la, Nat.ne_of_gt (Nat.lt_succ_of_lt la)⟩, fp, q⟩
/-- sum(x), ints, a list or a tuple -/
def rSum2 (K : PySem.W.Frag) : List V → Hp → VK → Prop := fun vs H Q => ∃ (a : Addr) (ns : List Int), vs = [V.ref a] ∧ (SqL K H a (ns.map V.int) ∨ SqT K H a (ns.map V.int)) ∧ Q (.int ns.sum) H
theorem cr_sum2 {X : Cx} (hc : X.calm = true) : CallR X (.builtin "sum") (rSum2 X.K) := by
  intro pins s σ H vs us Q I r h
  obtain ⟨a, ns, rfl, hs | hs, q⟩ := h
  · exact cr_sum hc pins s σ H _ us Q I r ⟨a, ns, rfl, hs, q⟩
  · obtain ⟨its, rv, hl, _⟩ := I.tuple hs
    rw [Vals.ref1 r]
    obtain ⟨xs, e⟩ := rv.ints.allInts.items
    have hn : numsOf (intItems xs).toList = ns := by rw [← e]; exact rv.ints.numsOf
    rw [nums_intItems] at hn
    rw [e] at hl
    refine PySem.W.ktm_sumG (I.ok.hd hc) hl fun h' tk t' hk => ⟨.int ns.sum, H, I.kept hk, ⟨t', ?_⟩, q⟩
    rw [preSum_eq, List.take_of_length_le (by simp), hn]
end Ev
end
section
set_option maxRecDepth 100000
set_option maxHeartbeats 4000000
/-! dicts with tuple keys: items walked. -/
namespace Ev
open PySem PySem.Spec PyProof.Rows L2
section
variable {X : Cx} {pins : List (Addr × Obj)} {σ : L2.St} {H : Hp} {s : Shared} {d : Addr} {o : Obj}
theorem frzT2 {kvs : List (List Key × V)} (I : Inv X pins σ H s) (h : H d = some (.frz o (.dT kvs))) :
    (d == sysModules) = false ∧ s.heap.get? d = some o ∧ o.ExactDict ∧ ∃ (es : Array DictEntry) (ep : Nat), o.data = .dict es ep ∧ es.size = kvs.length ∧
      ∀ (i : Nat) (k : List Key) (v : V), kvs[i]? = some (k, v) → ∃ (en : DictEntry) (q : Addr), es[i]? = some en ∧ en.key = .ref q ∧ H q = some (.tup (k.map kV)) ∧ RelV v en.val := by
  obtain ⟨hd, z, hs, xs, pr, o', es, ep, ho, hx, hdt, he, _⟩ := I.hok d _ h
  rw [hd] at ho
  cases ho
  refine ⟨hs, hd, hx, es, ep, hdt, ?_, fun i k v e => ?_⟩
  · have l1 : es.size = xs.length := size_of_entries he
    have l2 : kvs.length = xs.length := Paired.length pr
    omega
  · obtain ⟨b, hb, e1, e2, e3⟩ := paired_get pr e
    have q := entry_at he i
    rw [hb] at q
    exact ⟨_, b.2.1, q, rfl, e2, e3⟩
end
/-- the pairs, each a new tuple, of tuple keys -/
def Itit (d : Addr) (o : Obj) (kvs : List (List Key × V)) : It :=
  ⟨fun i H => H d = some (.frz o (.dT kvs)) ∧ i < kvs.length, fun i H x H' => ∃ T k v q, kvs[i]? = some (k, v) ∧ x = .ref T ∧ H q = some (.tup (k.map kV)) ∧ H T = none ∧ H' = upd H T (.tup [.ref q, v]), fun i H => H d = some (.frz o (.dT kvs)) ∧ kvs.length ≤ i⟩
theorem turn_itemsT {P : Program} {w : World} {K : PySem.W.Frag} {d : Addr} {o : Obj} {es : Array DictEntry} {ep : Nat} {kvs : List (List Key × V)} {elts : List Expr} {kk : Nat} {tpos : Pos} (it : Addr) (hod : o.data = .dict es ep) :
    Turn P w K (.Tuple elts kk tpos) (Itit d o kvs) [it] it (fun i h => ∃ ok ov, IsItemIter h it d i kvs.length ep ok ov) where
  mem := by simp
  obj := fun i h st b hb => by
    have e : b = it := by simpa using hb
    subst e
    obtain ⟨ok, ov, e⟩ := st
    exact ⟨_, e, fun v z => nomatch z⟩
  keep := fun i h h' st k => let ⟨ok, ov, e⟩ := st; ⟨ok, ov, k it (by simp) _ e⟩
  item := by
    intro X hP hw hK hc i pins s σ H E I hf st hg
    subst hP hw hK
    obtain ⟨hd, hi⟩ := hg
    obtain ⟨hs, hgd, hx, es', ep', hdt, hsz, ent⟩ := frzT2 I hd
    obtain ⟨rfl, rfl⟩ := dict_ep hod hdt
    obtain ⟨⟨k, v⟩, hkv⟩ : ∃ p, kvs[i]? = some p := ⟨kvs[i], List.getElem?_eq_getElem hi⟩
    obtain ⟨en, q, he1, he2, hq, rv⟩ := ent i k v hkv
    obtain ⟨ok, ov, he⟩ := st
    rw [← hsz] at he
    have hie : i < es'.size := by omega
    have een : es'[i] = en := by
      rw [Array.getElem?_eq_getElem hie] at he1
      exact Option.some.inj he1
    have hlt : it < s.heap.objs.size := Heap.lt_size he
    refine DT.nextI he ⟨o, hgd, hx, hdt⟩ hie fun h' ho hT hz hk => ?_
    rw [een] at ho hT
    refine ⟨_, rfl, wpAny_letOwnedTupleGo_items (s := { s with heap := h' }) ho fun h'' he' sb => ?_⟩
    have hT2 : h''.get? s.heap.objs.size = some { cls := .type "tuple", data := .seq #[en.key, en.val] } := (sb.2 _ (Nat.ne_of_gt hlt)).trans hT
    have new : ObjOk X.prog X.w (upd H s.heap.objs.size (.tup [.ref q, v])) h'' s.heap.objs.size (.tup [.ref q, v]) :=
      ⟨by show 2 ≤ sizeLine; decide, [en.key, en.val], .cons he2 (.cons rv .nil), ⟨_, hT2, rfl, _, rfl⟩⟩
    have I1 : Inv X pins σ (upd H s.heap.objs.size (.tup [.ref q, v])) { s with heap := h'' } :=
      I.turnedNew (t' := s.toks) (ch := [it]) (fun b ob hb e => (sb.2 b (by simpa using hb)).trans (hk b ob (by simpa using hb) e)) hf (Nat.le_refl _) new
    refine ⟨.ref s.heap.objs.size, _, I1, rfl, ⟨_, k, v, q, hkv, rfl, hq, I.hok.fresh (Nat.le_refl _), rfl⟩, ⟨en.key, en.val, ?_⟩, fun b hb => ?_⟩
    · rw [← hsz]; exact he'
    · have e : b = it := by simpa using hb
      rw [e, upd_ne (Nat.ne_of_lt hlt)]
      exact (hf it (by simp)).1
  done := by
    intro X hP hw hK hc i pins s σ H E I hf st hg
    subst hP hw hK
    obtain ⟨hd, hi⟩ := hg
    obtain ⟨f0, f1, f2, f3, f4, f5⟩ := hf it (by simp)
    obtain ⟨hs, hgd, hx, es', ep', hdt, hsz, ent⟩ := frzT2 I hd
    obtain ⟨rfl, rfl⟩ := dict_ep hod hdt
    obtain ⟨ok, ov, he⟩ := st
    rw [← hsz] at he
    exact DT.endI (I.ok.hd hc) he ⟨o, hgd, hx, hdt⟩ (by omega) fun h' eb => ⟨rfl, I.turned (t' := s.toks) (fun b ob hb e => eb b ob hb e) f0 f1 f3 f4 f5⟩
  self := fun A i s Q E st h => let ⟨_, _, e⟩ := st; PySem.W.kcp_self e h
def iItemsT (td : TE) : TI := fun σ H R => td σ H fun x H1 => ∃ d o kvs, x = .ref d ∧ H1 d = some (.frz o (.dT kvs)) ∧ R (Itit d o kvs) H1
theorem pi_itemsT {X : Cx} {e : Expr} {td : TE} {apos cpos : Pos} {elts : List Expr} {kk : Nat} {tpos : Pos} (he : PE X e td) (hbase : attributeBase e "items" X.env (eval e X.env) = eval e X.env := by rfl) (hline : (apos.endLine == cpos.line) = true := by rfl) :
    PI X (.Tuple elts kk tpos) (.Call (.Attribute e "items" apos) [] [] cpos) (iItemsT td) := by
  refine ⟨fun pins s σ H R I h => ?_⟩
  refine wpAny_Call_method (T := "dict") (id := "dict.items") hbase rfl hline F.plainAttrs_dict F.slot_dict_items F.type_dict_items (thn (he.run pins s σ H _ I h) fun u s1 ⟨x, H1, I1, rx, d, o, kvs, ex, hd, q⟩ => ?_)
  subst ex
  obtain rfl : u = Value.ref d := rx
  obtain ⟨hs, hgd, hx, es, ep, hdt, hsz, ent⟩ := frzT2 I1 hd
  have hm : DT.Raw s1.heap d es ep := ⟨o, hgd, hx, hdt⟩
  refine ⟨hm.typeIs, fun a ea => by cases ea; exact ⟨o, hgd, hx.2.1⟩, ?_⟩
  have I2 : Inv X pins σ H1 { s1 with heap := s1.heap.push { cls := .type "dict_items", data := .fields #[.ref d] } } := I1.kept (t' := s1.toks) fun b ob q => Heap.get?_push_of_some _ q
  have fin : wpAny (model X.prog X.w) X.A (pyIter (.ref s1.heap.objs.size)) (PIE X pins σ (.Tuple elts kk tpos) R) X.xe { s1 with heap := s1.heap.push { cls := .type "dict_items", data := .fields #[.ref d] } } := by
    refine DT.iterI (d := d) ⟨_, Heap.get?_push_size _ rfl, rfl, rfl⟩ (hm.push _) (pi_one (tk := s1.toks) I2 _ (turn_itemsT _ hdt) ⟨.none, .none, ?_⟩ q)
    rw [← hsz]
    exact Heap.get?_push_size _ rfl
  show wpAny _ _ (callWith cpos (.builtin "dict.items") [.ref d] [] []) _ X.xe s1
  exact method_meetsIn F.slot_dict_items F.entry_dict_items rfl (PySem.evalArgs_none ⟨rfl, hm.typeIs, F.args_dict_items_1 _, _, DT.meetsItems (es := es) (ep := ep) hs, ⟨hm, fin⟩⟩)
end Ev
end
section
set_option maxRecDepth 100000
set_option maxHeartbeats 4000000
/-! Ev, part 5: comparisons, truth, places, built-in functions. -/
namespace Ev
open PySem PySem.Spec PyProof.Rows L2
/-! #### == -/
mutual
def toPy : D → PyData
  | .non => .none
  | .bl b => .bool b
  | .int i => .int i
  | .str s => .str ⟨s.toArray⟩
  | .tup l => .tuple (toPyL l)
  | .lst l => .list (toPyL l)
  | .ref _ => .none
  | .obj _ _ => .none
def toPyL : List D → List PyData
  | [] => []
  | d :: l => toPy d :: toPyL l
end
mutual
theorem pln_shape : ∀ (n : Nat) (d : D), pln n d = true → (toPy d).canLay0 = true ∧ (toPy d).depth ≤ n
  | _, .non, _ => by simp [toPy, PyData.canLay0, PyData.depth]
  | _, .bl _, _ => by simp [toPy, PyData.canLay0, PyData.depth]
  | _, .int _, _ => by simp [toPy, PyData.canLay0, PyData.depth]
  | _, .str s, h => by
    simp only [pln] at h
    simp [toPy, PyData.canLay0, PyData.depth, PyData.strOk]
    simpa using h
  | 0, .tup _, h => by simp [pln] at h
  | 0, .lst _, h => by simp [pln] at h
  | n + 1, .tup l, h => by
    simp only [pln] at h
    obtain ⟨h1, h2⟩ := plnL_shape n l h
    simp only [toPy, PyData.canLay0, PyData.depth]
    exact ⟨h1, by omega⟩
  | n + 1, .lst l, h => by
    simp only [pln] at h
    obtain ⟨h1, h2⟩ := plnL_shape n l h
    simp only [toPy, PyData.canLay0, PyData.depth]
    exact ⟨h1, by omega⟩
  | _, .ref _, h => by simp [pln] at h
  | _, .obj _ _, h => by simp [pln] at h
theorem plnL_shape : ∀ (n : Nat) (l : List D), plnL n l = true → PyData.canLayAll0 (toPyL l) = true ∧ PyData.depthAll (toPyL l) ≤ n
  | _, [], _ => by simp [toPyL, PyData.canLayAll0, PyData.depthAll]
  | n, d :: l, h => by
    simp only [plnL, Bool.and_eq_true] at h
    obtain ⟨h1, h2⟩ := pln_shape n d h.1
    obtain ⟨h3, h4⟩ := plnL_shape n l h.2
    simp only [toPyL, PyData.canLayAll0, PyData.depthAll, h1, h3]
    exact ⟨rfl, by omega⟩
end
theorem shaped_of {n : Nat} {d : D} (h : pln n d = true) (hn : n ≤ 60) : SeqAt.shaped (toPy d) = true := by
  obtain ⟨h1, h2⟩ := pln_shape n d h
  unfold SeqAt.shaped
  rw [h1, decide_eq_true (show (toPy d).depth ≤ 64 by omega)]
  rfl
theorem str_beq (a b : List Nat) : ((⟨a.toArray⟩ : Str) == ⟨b.toArray⟩) = (a == b) := by
  rw [Bool.eq_iff_iff, beq_iff_eq, beq_iff_eq]
  constructor
  · intro h
    injection h with h
    simpa using h
  · rintro rfl; rfl
mutual
theorem eqv_of : ∀ (n k : Nat) (d e : D), pln n d = true → pln k e = true → PyData.eqv (toPy d) (toPy e) = eqD d e
  | n, k, d, e, h1, h2 => by
    cases d with
    | ref i => cases n <;> simp [pln] at h1
    | obj c l => cases n <;> simp [pln] at h1
    | tup l =>
      cases n with
      | zero => simp [pln] at h1
      | succ n =>
        cases e with
        | ref i => cases k <;> simp [pln] at h2
        | obj c l => cases k <;> simp [pln] at h2
        | tup l2 =>
          cases k with
          | zero => simp [pln] at h2
          | succ k =>
            simp only [pln] at h1 h2
            simp only [toPy, PyData.eqv, eqD]
            exact eqvL_of n k l l2 h1 h2
        | _ => simp [toPy, PyData.eqv, eqD]
    | lst l =>
      cases n with
      | zero => simp [pln] at h1
      | succ n =>
        cases e with
        | ref i => cases k <;> simp [pln] at h2
        | obj c l => cases k <;> simp [pln] at h2
        | lst l2 =>
          cases k with
          | zero => simp [pln] at h2
          | succ k =>
            simp only [pln] at h1 h2
            simp only [toPy, PyData.eqv, eqD]
            exact eqvL_of n k l l2 h1 h2
        | _ => simp [toPy, PyData.eqv, eqD]
    | str s =>
      cases e with
      | ref i => cases k <;> simp [pln] at h2
      | obj c l => cases k <;> simp [pln] at h2
      | str t => simp only [toPy, PyData.eqv, eqD, str_beq]
      | _ => simp [toPy, PyData.eqv, eqD]
    | non =>
      cases e with
      | ref i => cases k <;> simp [pln] at h2
      | obj c l => cases k <;> simp [pln] at h2
      | _ => simp [toPy, PyData.eqv, eqD]
    | bl b =>
      cases e with
      | ref i => cases k <;> simp [pln] at h2
      | obj c l => cases k <;> simp [pln] at h2
      | _ => simp [toPy, PyData.eqv, eqD]
    | int i =>
      cases e with
      | ref i => cases k <;> simp [pln] at h2
      | obj c l => cases k <;> simp [pln] at h2
      | _ => simp [toPy, PyData.eqv, eqD]
theorem eqvL_of : ∀ (n k : Nat) (l r : List D), plnL n l = true → plnL k r = true → PyData.eqvAll (toPyL l) (toPyL r) = eqL l r
  | n, k, [], [], _, _ => by simp [toPyL, PyData.eqvAll, eqL]
  | n, k, [], _ :: _, _, _ => by simp [toPyL, PyData.eqvAll, eqL]
  | n, k, _ :: _, [], _, _ => by simp [toPyL, PyData.eqvAll, eqL]
  | n, k, d :: l, e :: r, h1, h2 => by
    simp only [plnL, Bool.and_eq_true] at h1 h2
    simp only [toPyL, PyData.eqvAll, eqL, eqv_of n k d e h1.1 h2.1, eqvL_of n k l r h1.2 h2.2]
end
section
variable {G : Pg} {X : Cx} {m : List Addr} {H : Hp} {S : Store}
mutual
theorem dp_of : ∀ (n : Nat) (d : D) (v : V), pln n d = true → Rep G m H d v → Dp G.K H v (toPy d)
  | n, d, v, h, r => by
    cases d with
    | non => rw [r.non_inv]; simp only [toPy]; exact .non
    | bl b => rw [r.bl_inv]; simp only [toPy]; exact .bl b
    | int i => rw [r.int_inv]; simp only [toPy]; exact .int i
    | str s => rw [r.str_inv]; simp only [toPy]; exact .str _
    | tup l =>
      obtain ⟨p, vs, rfl, f, rl⟩ := r.tup_inv
      simp only [toPy]
      cases n with
      | zero => simp [pln] at h
      | succ n => simp only [pln] at h; exact .tup f.sq (dpL_of n l vs h rl)
    | lst l =>
      obtain ⟨p, vs, rfl, f, rl⟩ := r.lst_inv
      simp only [toPy]
      cases n with
      | zero => simp [pln] at h
      | succ n => simp only [pln] at h; exact .lst (sq_of f.2) (dpL_of n l vs h rl)
    | ref i => cases n <;> simp [pln] at h
    | obj c l => cases n <;> simp [pln] at h
theorem dpL_of : ∀ (n : Nat) (l : List D) (vs : List V), plnL n l = true → RepL G m H l vs → DpAll G.K H vs (toPyL l)
  | n, [], vs, _, r => by
    simp only [RepL] at r; subst r
    simp only [toPyL]; exact .nil
  | n, d :: l, vs, h, r => by
    simp only [RepL] at r
    obtain ⟨v, us, rfl, r1, r2⟩ := r
    simp only [plnL, Bool.and_eq_true] at h
    simp only [toPyL]
    exact .cons (dp_of n d v h.1 r1) (dpL_of n l us h.2 r2)
end
theorem dp_vw {d : D} {v : V} {n : Nat} (rs : RS G m H S) (r : Rep G m H d v) (h : pln n (vw d S) = true) : Dp G.K H v (toPy (vw d S)) := by
  unfold vw at h ⊢
  split at h
  · rename_i k
    split at h
    · rename_i l e
      obtain ⟨p, rfl, hp⟩ := r.ref_inv
      obtain ⟨p', hp', vs, hv, rl⟩ := rs.cel _ _ e
      rw [hp] at hp'; cases hp'
      simp only [toPy]
      cases n with
      | zero => simp [pln] at h
      | succ n => simp only [pln] at h; exact .lst (.inl (.inl hv)) (dpL_of n l vs h rl)
    · cases n <;> simp [pln] at h
  · exact dp_of n d v h r
end
/-! #### comparisons -/
def rCmp (G : Pg) (op : Cp) : R2 := fun x y H Q => ∃ m S d e k, RS G m H S ∧ Rep G m H d x ∧ Rep G m H e y ∧ cmpD op d e S = some k ∧ Q (.bl k) H
section
variable {G : Pg} {X : Cx} {m : List Addr} {H : Hp} {S : Store}
theorem flat_of {d : D} {v : V} (r : Rep G m H d v) (h : flD d = true) : flatV v = true := by
  cases d with
  | non => rw [r.non_inv]; rfl
  | bl b => rw [r.bl_inv]; rfl
  | int i => rw [r.int_inv]; rfl
  | str s => rw [r.str_inv]; rfl
  | _ => simp [flD] at h
theorem eqV_of {d e : D} {v u : V} (r : Rep G m H d v) (q : Rep G m H e u) (h : flD d = true) (k : flD e = true) : eqV v u = eqD d e := by
  cases d with
  | non =>
    rw [r.non_inv]
    cases e with
    | non => rw [q.non_inv]; simp [eqV, eqD]
    | bl b => rw [q.bl_inv]; simp [eqV, eqD]
    | int i => rw [q.int_inv]; simp [eqV, eqD]
    | str s => rw [q.str_inv]; simp [eqV, eqD]
    | _ => simp [flD] at k
  | bl b =>
    rw [r.bl_inv]
    cases e with
    | non => rw [q.non_inv]; simp [eqV, eqD]
    | bl b => rw [q.bl_inv]; simp [eqV, eqD]
    | int i => rw [q.int_inv]; simp [eqV, eqD]
    | str s => rw [q.str_inv]; simp [eqV, eqD]
    | _ => simp [flD] at k
  | int i =>
    rw [r.int_inv]
    cases e with
    | non => rw [q.non_inv]; simp [eqV, eqD]
    | bl b => rw [q.bl_inv]; simp [eqV, eqD]
    | int i => rw [q.int_inv]; simp [eqV, eqD]
    | str s => rw [q.str_inv]; simp [eqV, eqD]
    | _ => simp [flD] at k
  | str s =>
    rw [r.str_inv]
    cases e with
    | non => rw [q.non_inv]; simp [eqV, eqD]
    | bl b => rw [q.bl_inv]; simp [eqV, eqD]
    | int i => rw [q.int_inv]; simp [eqV, eqD]
    | str s => rw [q.str_inv]; simp only [eqV, eqD, str_beq]
    | _ => simp [flD] at k
  | _ => simp [flD] at h
theorem flats_of : ∀ {l : List D} {vs : List V}, RepL G m H l vs → l.all flD = true → vs.all flatV = true
  | [], _, r, _ => by simp only [RepL] at r; subst r; rfl
  | d :: l, _, r, h => by
    simp only [RepL] at r
    obtain ⟨v, us, rfl, r1, r2⟩ := r
    simp only [List.all_cons, Bool.and_eq_true] at h ⊢
    exact ⟨flat_of r1 h.1, flats_of r2 h.2⟩
theorem anyV_of {d : D} {x : V} (q : Rep G m H d x) (hd : flD d = true) : ∀ {l : List D} {vs : List V}, RepL G m H l vs → l.all flD = true → (vs.any fun y => eqV y x) = l.any fun y => eqD y d
  | [], _, r, _ => by simp only [RepL] at r; subst r; rfl
  | e :: l, _, r, h => by
    simp only [RepL] at r
    obtain ⟨v, us, rfl, r1, r2⟩ := r
    simp only [List.all_cons, Bool.and_eq_true] at h
    simp only [List.any_cons, eqV_of r1 q h.1 hd, anyV_of q hd r2 h.2]
theorem anyP_of {d : D} (hd : pln 60 d = true) : ∀ {l : List D}, plnL 60 l = true → ((toPyL l).any fun z => PyData.eqv z (toPy d)) = l.any fun y => eqD y d
  | [], _ => rfl
  | e :: l, h => by
    simp only [plnL, Bool.and_eq_true] at h
    simp only [toPyL, List.any_cons, eqv_of 60 60 e d h.1 hd, anyP_of hd h.2]
theorem in_cases {d e : D} {x y : V} {k : Bool} (rs : RS G m H S) (rd : Rep G m H d x) (re : Rep G m H e y) (h : inD d e S = some k) :
    (∃ p xs, y = .ref p ∧ SqT G.K H p xs ∧ flatV x = true ∧ xs.all flatV = true ∧ inV x xs = k) ∨
      ∃ d' ds, Dp G.K H x d' ∧ Dp G.K H y (.list ds) ∧ SeqAt.shaped d' = true ∧ SeqAt.shaped (.list ds) = true ∧ (ds.any fun z => PyData.eqv z d') = k := by
  unfold inD at h
  split at h
  · rename_i l
    split at h
    · rename_i hf
      cases h
      simp only [Bool.and_eq_true] at hf
      obtain ⟨p, vs, rfl, f, r⟩ := re.tup_inv
      refine .inl ⟨p, vs, rfl, f.sq, flat_of rd hf.1, flats_of r hf.2, ?_⟩
      exact anyV_of rd hf.1 r hf.2
    · cases h
  · split at h
    · rename_i l e1
      split at h
      · rename_i hf
        cases h
        simp only [Bool.and_eq_true] at hf
        obtain ⟨p, vs, rfl, hp, r⟩ := lstOf_sq rs re e1
        have hl := plnL_shape 60 l hf.2
        refine .inr ⟨toPy (vw d S), toPyL l, dp_vw rs rd hf.1, .lst (sq_of hp) (dpL_of 60 l vs hf.2 r), shaped_of hf.1 (Nat.le_refl _), ?_, anyP_of hf.1 hf.2⟩
        unfold SeqAt.shaped
        simp only [PyData.canLay0, PyData.depth, hl.1, Bool.true_and]
        exact decide_eq_true (by have := hl.2; omega)
      · cases h
    · cases h
theorem cmpI_int {op : Cp} {d e : D} {x y : V} {k : Bool} (rd : Rep G m H d x) (re : Rep G m H e y) (h : intCmp op d e = some k) : ∃ i j, x = .int i ∧ y = .int j ∧ k = cmpI op i j := by
  unfold intCmp at h
  split at h
  · rename_i i j
    cases h
    exact ⟨i, j, rd.int_inv, re.int_inv, rfl⟩
  · cases h
theorem op_cmp (hK : X.K = G.K) (hu : X.A.units + 65 < cLine) (op : Cp) : OpR X (compareOp op.of) (rCmp G op) := by
  intro pins s σ H x y v u Q I rx ry ⟨m, S, d, e, k, rs, rd, re, h, q⟩
  cases op with
  | eq =>
    simp only [cmpD] at h
    split at h
    · rename_i hf
      cases h
      simp only [Bool.and_eq_true] at hf
      refine op_eqD (by omega) pins s σ H x y v u Q I rx ry ⟨toPy (vw d S), toPy (vw e S), ?_, ?_, shaped_of hf.1 (Nat.le_refl _), shaped_of hf.2 (Nat.le_refl _), ?_⟩
      · rw [hK]; exact dp_vw rs rd hf.1
      · rw [hK]; exact dp_vw rs re hf.2
      · rw [eqv_of 60 60 _ _ hf.1 hf.2]; exact q
    · cases h
  | ne =>
    simp only [cmpD] at h
    split at h
    · rename_i hf
      cases h
      simp only [Bool.and_eq_true] at hf
      refine op_neD (by omega) pins s σ H x y v u Q I rx ry ⟨toPy (vw d S), toPy (vw e S), ?_, ?_, shaped_of hf.1 (Nat.le_refl _), shaped_of hf.2 (Nat.le_refl _), ?_⟩
      · rw [hK]; exact dp_vw rs rd hf.1
      · rw [hK]; exact dp_vw rs re hf.2
      · rw [eqv_of 60 60 _ _ hf.1 hf.2]; exact q
    · cases h
  | isIn =>
    simp only [cmpD] at h
    rcases in_cases rs rd re h with ⟨p, xs, ey, hs, f1, f2, e1⟩ | ⟨d', ds, h1, h2, h3, h4, e1⟩
    · exact op_in_seq pins s σ H x y v u Q I rx ry ⟨p, xs, ey, .inr (by rw [hK]; exact hs), f1, f2, by rw [if_neg Bool.false_ne_true, e1]; exact q⟩
    · exact op_inD hu pins s σ H x y v u Q I rx ry ⟨d', ds, by rw [hK]; exact h1, by rw [hK]; exact h2, h3, h4, by rw [e1]; exact q⟩
  | notIn =>
    simp only [cmpD] at h
    split at h
    · rename_i b hb
      cases h
      rcases in_cases rs rd re hb with ⟨p, xs, ey, hs, f1, f2, e1⟩ | ⟨d', ds, h1, h2, h3, h4, e1⟩
      · exact op_notIn_seq pins s σ H x y v u Q I rx ry ⟨p, xs, ey, .inr (by rw [hK]; exact hs), f1, f2, by rw [if_pos rfl, e1]; exact q⟩
      · exact op_notInD hu pins s σ H x y v u Q I rx ry ⟨d', ds, by rw [hK]; exact h1, by rw [hK]; exact h2, h3, h4, by rw [e1]; exact q⟩
    · cases h
  | lt =>
    simp only [cmpD] at h
    obtain ⟨i, j, ex, ey, ek⟩ := cmpI_int rd re h
    subst ek
    exact op_lt pins s σ H x y v u Q I rx ry ⟨i, j, ex, ey, q⟩
  | le =>
    simp only [cmpD] at h
    obtain ⟨i, j, ex, ey, ek⟩ := cmpI_int rd re h
    subst ek
    exact op_le pins s σ H x y v u Q I rx ry ⟨i, j, ex, ey, q⟩
  | gt =>
    simp only [cmpD] at h
    obtain ⟨i, j, ex, ey, ek⟩ := cmpI_int rd re h
    subst ek
    exact op_gt pins s σ H x y v u Q I rx ry ⟨i, j, ex, ey, q⟩
  | ge =>
    simp only [cmpD] at h
    obtain ⟨i, j, ex, ey, ek⟩ := cmpI_int rd re h
    subst ek
    exact op_ge pins s σ H x y v u Q I rx ry ⟨i, j, ex, ey, q⟩
/-! #### truth -/
theorem tru_of {d : D} {v : V} {k : Bool} (rs : RS G m H S) (r : Rep G m H d v) (h : truD d S = some k) : TruV G.K v H k := by
  have nb : ∀ {l : List D} {vs : List V}, RepL G m H l vs → (!l.isEmpty) = !vs.isEmpty := fun {l vs} q => by
    have e := q.length
    cases l <;> cases vs <;> simp_all
  cases d with
  | non => cases h; rw [r.non_inv]; rfl
  | bl b => cases h; rw [r.bl_inv]; rfl
  | int i => cases h; rw [r.int_inv]; rfl
  | str s =>
    simp only [truD] at h
    split at h
    · rename_i hz
      cases h
      rw [r.str_inv]
      refine ⟨by rw [str_len, ← lim]; exact hz, ?_⟩
      rw [str_len]
      cases s with
      | nil => rfl
      | cons a b =>
        show true = (((a :: b).length : Int) != 0)
        have : ((a :: b).length : Int) ≠ 0 := by simp only [List.length_cons]; omega
        exact (bne_iff_ne.mpr this).symm
    · cases h
  | tup l =>
    cases h
    obtain ⟨p, vs, rfl, f, q⟩ := r.tup_inv
    exact .inr (.inl ⟨vs, f.sq, nb q⟩)
  | lst l =>
    cases h
    obtain ⟨p, vs, rfl, f, q⟩ := r.lst_inv
    exact .inl ⟨vs, sq_of f.2, nb q⟩
  | ref n =>
    simp only [truD] at h
    split at h
    · rename_i l e
      cases h
      obtain ⟨p, rfl, hp⟩ := r.ref_inv
      obtain ⟨p', hp', vs, hv, q⟩ := rs.cel _ _ e
      rw [hp] at hp'; cases hp'
      exact .inl ⟨vs, .inl (.inl hv), nb q⟩
    · cases h
  | obj c l => cases h
theorem op_tru (hK : X.K = G.K) : TruR X (fun x H Q => ∃ m S d k, RS G m H S ∧ Rep G m H d x ∧ truD d S = some k ∧ Q k H) := by
  intro pins s σ H x v Q I rx ⟨m, S, d, k, rs, r, e, q⟩
  exact tru_ok pins s σ H x v Q I rx ⟨k, by rw [hK]; exact tru_of rs r e, q⟩
/-! #### a place, a slice -/
theorem ixN_eq (n : Nat) (i : Int) : ixN n i = L2.ixN n i := rfl
theorem op_idx (hK : X.K = G.K) : IxR X (fun x y H Q => ∃ m S d e, RS G m H S ∧ Rep G m H d x ∧ Rep G m H e y ∧ FinV G (Rep G) m H (ofO (idxD d e S) S) Q) := by
  intro value slice pins s σ H x y v u Q I rx ry ⟨m, S, d, e, rs, rd, re, h⟩ hs
  cases ei : idxD d e S with
  | none => rw [ei] at h; exact h.elim
  | some z =>
    rw [ei] at h
    unfold idxD at ei
    split at ei
    · rename_i i
      have ey := re.int_inv
      split at ei
      · rename_i t
        split at ei
        · rename_i hz
          split at ei
          · rename_i k hk
            split at ei
            · rename_i c hc
              cases ei
              refine (ix_str value slice pins s σ H x y v u Q I rx ry ⟨_, i, c, rd.str_inv, ey, ?_, ?_, ?_⟩ hs)
              · rw [str_len, ← lim]; exact hz
              · unfold atI
                rw [show ((⟨t.toArray⟩ : Str).cps.toList) = t from by simp, ← ixN_eq, hk]
                exact hc
              · exact fin_same rs rep_str h
            · cases ei
          · cases ei
        · cases ei
      · split at ei
        · rename_i l e1
          split at ei
          · rename_i k hk
            obtain ⟨p, vs, ex, hp, r⟩ := seqOf_sq rs rd e1
            obtain ⟨w, hw, rw'⟩ := r.get ei
            have ha : atI vs i = some w := by
              unfold atI
              rw [← ixN_eq, ← r.length, hk]
              exact hw
            have hq : Q w H := fin_same rs rw' h
            rcases hp with hp | hp
            · exact ix_list value slice pins s σ H x y v u Q I rx ry ⟨p, vs, i, w, ex, ey, sq_of hp, ha, hq⟩ hs
            · exact ix_tup value slice pins s σ H x y v u Q I rx ry ⟨p, vs, i, w, ex, ey, by rw [hK]; exact hp, ha, hq⟩ hs
          · cases ei
        · cases ei
    · cases ei
end
end Ev
end
section
set_option maxRecDepth 100000
set_option maxHeartbeats 4000000
/-! Ev, part 6: slices, isinstance, built-in functions and methods, stores. -/
namespace Ev
open PySem PySem.Spec PyProof.Rows L2
section
variable {G : Pg} {X : Cx} {m : List Addr} {H : Hp} {S : Store}
theorem noEx_slc (b : Bool) (d : D) (lo hi : Option Int) (S : Store) : NoEx (slcD b d lo hi S) := by
  intro c k S' h
  unfold slcD at h
  repeat' split at h
  all_goals first
    | (cases h; done)
    | exact noEx_mkL _ _ _ _ _ _ h
theorem sIx_eq (n d : Nat) (o : Option Int) : sIx n d o = HT.sIx n d o := by cases o <;> rfl
theorem cutS_eq (l : List Nat) (lo hi : Option Int) : cutS ⟨l.toArray⟩ lo hi = ⟨(cut l lo hi).toArray⟩ := by
  unfold cutS cut
  simp only [str_len, sIx_eq, List.toList_toArray]
/-- s[lo:hi] -/
theorem op_slc (hK : X.K = G.K) (b : Bool) : SlR X (fun x lo hi H Q => (∃ m S d, RS G m H S ∧ Rep G m H d x ∧ (∀ s, d = .str s → s.length ≤ LIM) ∧ FinV G (Rep G) m H (slcD b d lo hi S) Q)) := by
  intro pins s σ H x v vl vu lo hi sl Q I rx hs pl pu ⟨m, S, d, rs, rd, hz, h⟩
  unfold slcD at h
  split at h
  · rename_i l
    obtain ⟨p, vs, rfl, f, r⟩ := rd.tup_inv
    refine sl_tupA pins s σ H _ v vl vu lo hi sl Q I rx hs pl pu ⟨p, vs, rfl, by rw [hK]; exact f.sq, fun hw => ?_, fun _ q n => fin_tup rs (r.cut lo hi) n h⟩
    have e : cutV vs lo hi = vs := by
      unfold cutV
      rw [hw.1, hw.2]
      simp
    have r2 := r.cut lo hi
    rw [e] at r2
    exact fin_same rs (rep_tup f r2) h
  · rename_i l
    rw [if_pos (hz _ rfl)] at h
    refine sl_str pins s σ H x v vl vu lo hi sl Q I rx hs pl pu ⟨_, rd.str_inv, ?_, ?_⟩
    · rw [str_len, ← lim]; exact hz _ rfl
    · rw [cutS_eq]
      exact fin_same rs rep_str h
  · split at h
    · rename_i l e
      obtain ⟨p, vs, rfl, hp, r⟩ := lstOf_sq rs rd e
      exact sl_list pins s σ H _ v vl vu lo hi sl Q I rx hs pl pu ⟨p, vs, rfl, sq_of hp, fun q n => fin_mk rs (r.cut lo hi) n h⟩
    · exact h.elim
/-! #### isinstance -/
def Bt.nm : Bt → String
  | .int => "int" | .bool => "bool" | .str => "str" | .tuple => "tuple" | .list => "list" | .dict => "dict"
/-- the class at C, as isinstance and the walks ask it -/
structure ClsOk (G : Pg) (c : Nat) : Prop where
  cls : Cls G.K (G.ca c)
  ga : PySem.W.findIn G.K (.ref (G.ca c)) "__class__" = some (some (.builtin "object.__class__"))
  gs : PySem.W.specialIn G.K (.builtin "object.__class__") "__get__" = some (some (.builtin "getset_descriptor.__get__"))
  tk : PySem.W.takesIn G.K (.builtin "object.__class__") = some true
  mo : PySem.W.mroIn G.K (G.ca c) (.type "object") = some true
  neq : PySem.W.findIn G.K (.ref (G.ca c)) "__ne__" = some (some (.builtin "object.__ne__"))
  bt : ∀ t : Bt, PySem.W.kitOne G.K (.ref (G.ca c)) (.type t.nm) = some false
  oc : ∀ k, k < G.T.cls.length → PySem.W.kitOne G.K (.ref (G.ca c)) (.ref (G.ca k)) = some (c == k)
  ty : ∀ n : String, n ∈ ["NoneType", "bool", "int", "str", "tuple", "list", "dict"] → PySem.W.kitOne G.K (.type n) (.ref (G.ca c)) = some false
/-- what of the classes is known -/
def AllCls (G : Pg) : Prop := ∀ c, c < G.T.cls.length → ClsOk G c
def Ty.val (G : Pg) : Ty → V
  | .b t => .ty t.nm
  | .c k => .ref (G.ca k)
def Ty.vlu (G : Pg) : Ty → Value
  | .b t => .type t.nm
  | .c k => .ref (G.ca k)
theorem ty_clsV (t : Ty) : ClsV (t.val G) (t.vlu G) := by
  cases t with
  | b t => exact .ty _
  | c k => exact .own _
/-- the built-in type of a value that is no instance -/
def tyN (d : D) (S : Store) : Option String := match d with
  | .non => some "NoneType"
  | .bl _ => some "bool"
  | .int _ => some "int"
  | .str _ => some "str"
  | .tup _ => some "tuple"
  | .lst _ => some "list"
  | .ref n => match S[n]? with
    | some (.lst _) => some "list"
    | _ => none
  | .obj _ _ => none
theorem tyN_tyx {d : D} {v : V} {n : String} (rs : RS G m H S) (r : Rep G m H d v) (h : tyN d S = some n) : TyX G.K H v (.type n) := by
  unfold tyN at h
  split at h
  · cases h; rw [r.non_inv]; exact .base .non
  · cases h; rw [r.bl_inv]; exact .base (.bl _)
  · cases h; rw [r.int_inv]; exact .base (.int _)
  · cases h; rw [r.str_inv]; exact .base (.str _)
  · cases h
    obtain ⟨p, vs, rfl, f, _⟩ := r.tup_inv
    rcases f with ⟨_, f | ⟨o, f⟩⟩ | ⟨o, its, k, e, c, _⟩
    · exact .base (.tup f)
    · exact .fTuple f
    · exact .kTuple e c
  · cases h
    obtain ⟨p, vs, rfl, f, _⟩ := r.lst_inv
    rcases f with ⟨_, f | ⟨o, f⟩⟩
    · exact .base (.lst f)
    · exact .base (.frz f)
  · split at h
    · rename_i l e
      cases h
      obtain ⟨p, rfl, hp⟩ := r.ref_inv
      obtain ⟨p', hp', vs, hv, _⟩ := rs.cel _ _ e
      rw [hp] at hp'; cases hp'
      exact .base (.lst hv)
    · cases h
  · cases h
theorem tyN_mem {d : D} {n : String} (h : tyN d S = some n) : n ∈ ["NoneType", "bool", "int", "str", "tuple", "list", "dict"] := by
  unfold tyN at h
  repeat' split at h
  all_goals first
    | (cases h; decide)
    | (cases h; done)
/-- an instance: its class -/
def insC (d : D) (S : Store) : Option Nat := match d with
  | .obj c _ => some c
  | .ref n => match S[n]? with
    | some (.ins c _) => some c
    | _ => none
  | _ => none
theorem insC_at {d : D} {v : V} {c : Nat} (rs : RS G m H S) (r : Rep G m H d v) (h : insC d S = some c) : ∃ p dx fs, v = .ref p ∧ H p = some (.ins (G.ca c) dx fs) := by
  unfold insC at h
  split at h
  · cases h
    obtain ⟨p, vs, rfl, ⟨_, dx, f⟩, _⟩ := r.obj_inv
    exact ⟨p, dx, _, rfl, f⟩
  · split at h
    · rename_i c' fs e
      cases h
      obtain ⟨p, rfl, hp⟩ := r.ref_inv
      obtain ⟨p', hp', dx, vs, hv, _⟩ := rs.cel _ _ e
      rw [hp] at hp'; cases hp'
      exact ⟨p, dx, _, rfl, hv⟩
    · cases h
  · cases h
theorem ins_tyx {v : V} {c : Nat} (k : ClsOk G c) {p dx : Addr} {fs : List (Str × V)} (e : v = .ref p) (h : H p = some (.ins (G.ca c) dx fs)) : TyX G.K H v (.ref (G.ca c)) := by
  subst e
  exact .base (.ins h k.cls k.ga k.gs k.tk k.mo)
/-- no instance, no built-in value: then isD tells nothing -/
theorem isD_some {d : D} {t : Ty} {b : Bool} (h : isD G.T d S t = some b) : (∃ n, tyN d S = some n ∧ insC d S = none) ∨ ∃ c, insC d S = some c ∧ c < G.T.cls.length ∧ tyN d S = none := by
  unfold isD at h
  cases d with
  | ref z =>
    cases t with
    | b t =>
      dsimp only at h
      split at h
      · rename_i l e; exact .inl ⟨"list", by simp only [tyN, e], by simp only [insC, e]⟩
      · rename_i c fs e
        split at h
        · rename_i hc; exact .inr ⟨c, by simp only [insC, e], hc, by simp only [tyN, e]⟩
        · cases h
      · cases h
      · cases h
    | c k =>
      dsimp only at h
      split at h
      · split at h
        · rename_i l e; exact .inl ⟨"list", by simp only [tyN, e], by simp only [insC, e]⟩
        · rename_i c fs e
          split at h
          · rename_i hc; exact .inr ⟨c, by simp only [insC, e], hc, by simp only [tyN, e]⟩
          · cases h
        · cases h
        · cases h
      · cases h
  | obj c l =>
    cases t with
    | b t =>
      dsimp only at h
      split at h
      · rename_i hc; exact .inr ⟨c, rfl, hc, rfl⟩
      · cases h
    | c k =>
      dsimp only at h
      split at h
      · split at h
        · rename_i hc; exact .inr ⟨c, rfl, hc, rfl⟩
        · cases h
      · cases h
  | non => exact .inl ⟨_, rfl, rfl⟩
  | bl _ => exact .inl ⟨_, rfl, rfl⟩
  | int _ => exact .inl ⟨_, rfl, rfl⟩
  | str _ => exact .inl ⟨_, rfl, rfl⟩
  | tup _ => exact .inl ⟨_, rfl, rfl⟩
  | lst _ => exact .inl ⟨_, rfl, rfl⟩
/-- the class that isinstance looks at -/
def clV (G : Pg) (d : D) (S : Store) : Value := match tyN d S with
  | some n => .type n
  | none => match insC d S with
    | some c => .ref (G.ca c)
    | none => .none
theorem clV_tyx (ac : AllCls G) {d : D} {v : V} {t : Ty} {b : Bool} (rs : RS G m H S) (r : Rep G m H d v) (h : isD G.T d S t = some b) : TyX G.K H v (clV G d S) := by
  rcases isD_some h with ⟨n, hn, _⟩ | ⟨c, hi, hc, hn⟩
  · unfold clV
    rw [hn]
    exact tyN_tyx rs r hn
  · unfold clV
    rw [hn, hi]
    obtain ⟨p, dx, fs, ev, hp⟩ := insC_at rs r hi
    exact ins_tyx (ac c hc) ev hp
theorem isD_kit (ac : AllCls G) {d : D} {t : Ty} {b : Bool} (h : isD G.T d S t = some b) : PySem.W.kitOne G.K (clV G d S) (t.vlu G) = some b := by
  rcases isD_some h with ⟨n, hn, _⟩ | ⟨c, hi, hc, hn⟩
  · unfold clV
    rw [hn]
    cases t with
    | b t =>
      show PySem.W.kitOne G.K (.type n) (.type t.nm) = some b
      unfold isD at h
      unfold tyN at hn
      cases d with
      | non => cases hn; cases h; cases t <;> exact kit_ty (by decide +kernel)
      | bl z => cases hn; cases h; cases t <;> exact kit_ty (by decide +kernel)
      | int z => cases hn; cases h; cases t <;> exact kit_ty (by decide +kernel)
      | str z => cases hn; cases h; cases t <;> exact kit_ty (by decide +kernel)
      | tup z => cases hn; cases h; cases t <;> exact kit_ty (by decide +kernel)
      | lst z => cases hn; cases h; cases t <;> exact kit_ty (by decide +kernel)
      | ref z =>
        dsimp only at h hn
        split at hn
        · rename_i l e
          rw [e] at h
          cases hn; cases h; cases t <;> exact kit_ty (by decide +kernel)
        · cases hn
      | obj c l => cases hn
    | c k =>
      show PySem.W.kitOne G.K (.type n) (.ref (G.ca k)) = some b
      have hb : b = false ∧ k < G.T.cls.length := by
        unfold isD at h
        unfold tyN at hn
        dsimp only at h
        split at h
        · rename_i hk
          refine ⟨?_, hk⟩
          cases d with
          | ref z =>
            dsimp only at h hn
            split at hn
            · rename_i l e
              rw [e] at h
              cases h; rfl
            · cases hn
          | obj c l => cases hn
          | _ => cases h; rfl
        · cases h
      rw [hb.1]
      exact (ac k hb.2).ty n (tyN_mem hn)
  · unfold clV
    rw [hn, hi]
    cases t with
    | b t =>
      have hb : b = false := by
        unfold insC at hi
        unfold isD at h
        cases d with
        | ref z =>
          dsimp only at h hi
          split at hi
          · rename_i c' fs' e
            cases hi
            rw [e] at h
            dsimp only at h
            rw [if_pos hc] at h
            cases h; rfl
          · cases hi
        | obj c' l =>
          cases hi
          dsimp only at h
          rw [if_pos hc] at h
          cases h; rfl
        | _ => cases hi
      rw [hb]
      exact (ac c hc).bt t
    | c k =>
      have hb : b = (c == k) ∧ k < G.T.cls.length := by
        unfold insC at hi
        unfold isD at h
        dsimp only at h
        split at h
        · rename_i hk
          refine ⟨?_, hk⟩
          cases d with
          | ref z =>
            dsimp only at h hi
            split at hi
            · rename_i c' fs' e
              cases hi
              rw [e] at h
              dsimp only at h
              rw [if_pos hc] at h
              cases h; rfl
            · cases hi
          | obj c' l =>
            cases hi
            dsimp only at h
            rw [if_pos hc] at h
            cases h; rfl
          | _ => cases hi
        · cases h
      rw [hb.1]
      exact (ac c hc).oc k hb.2
theorem isAny_kit (ac : AllCls G) {d : D} : ∀ {ts : List Ty} {b : Bool}, isAny G.T d S ts = some b → PySem.W.kitAny G.K (clV G d S) (ts.map fun t => t.vlu G) = some b
  | [], _, h => by cases h; rfl
  | t :: ts, b, h => by
    unfold isAny at h
    cases e : isD G.T d S t with
    | none => rw [e] at h; cases h
    | some b1 =>
      have q2 := isD_kit ac e
      rw [e] at h
      cases b1 with
      | true => cases h; exact kitAny_cons q2 (fun z => by cases z) fun _ => rfl
      | false => exact kitAny_cons q2 (fun _ => isAny_kit ac h) fun z => by cases z
theorem isAny_tyx (ac : AllCls G) {d : D} {v : V} {t : Ty} {ts : List Ty} {b : Bool} (rs : RS G m H S) (r : Rep G m H d v) (h : isAny G.T d S (t :: ts) = some b) : TyX G.K H v (clV G d S) := by
  unfold isAny at h
  cases e : isD G.T d S t with
  | none => rw [e] at h; cases h
  | some b1 => exact clV_tyx ac rs r e
theorem isAny_one {d : D} {t : Ty} {b : Bool} (h : isAny G.T d S [t] = some b) : isD G.T d S t = some b := by
  unfold isAny at h
  cases e : isD G.T d S t with
  | none => rw [e] at h; cases h
  | some b1 => rw [e] at h; cases b1 <;> (cases h; rfl)
end
end Ev
end
section
set_option maxRecDepth 100000
set_option maxHeartbeats 4000000
/-! Ev, part 7: built-in functions and methods. -/
namespace Ev
open PySem PySem.Spec PyProof.Rows L2
def Bi.val : Bi → Value
  | .len => .builtin "len" | .abs => .builtin "abs" | .min => .builtin "min" | .max => .builtin "max" | .sum => .builtin "sum"
  | .sorted => .builtin "sorted" | .all => .builtin "all" | .any => .builtin "any"
  | .int => .type "int" | .str => .type "str" | .list => .type "list" | .tuple => .type "tuple" | .bool => .type "bool"
def rBi (G : Pg) (b : Bi) (k : Bool) : List V → Hp → VK → Prop := fun vs H Q => ∃ m S ds, RS G m H S ∧ RepL G m H ds vs ∧ FinV G (Rep G) m H (biD b k ds S) Q
section
variable {G : Pg} {X : Cx} {m : List Addr} {H : Hp} {S : Store}
theorem noEx_bi (b : Bi) (k : Bool) (ds : List D) (S : Store) : NoEx (biD b k ds S) := by
  intro c l S' h
  unfold biD at h
  repeat' split at h
  all_goals first
    | (cases h; done)
    | exact noEx_mkL _ _ _ _ _ _ h
theorem ints_of : ∀ {l : List D} {ns : List Int} {vs : List V}, allInt l = some ns → RepL G m H l vs → vs = ns.map V.int ∧ l = ns.map D.int
  | [], ns, vs, h, r => by
    simp only [allInt] at h; cases h
    simp only [RepL] at r; subst r
    exact ⟨rfl, rfl⟩
  | d :: l, ns, vs, h, r => by
    simp only [RepL] at r
    obtain ⟨v, us, rfl, r1, r2⟩ := r
    cases d with
    | int i =>
      simp only [allInt] at h
      cases e : allInt l with
      | none => rw [e] at h; cases h
      | some ms =>
        rw [e] at h; cases h
        obtain ⟨e1, e2⟩ := ints_of e r2
        rw [r1.int_inv, e1]
        exact ⟨rfl, by rw [e2]; rfl⟩
    | _ => simp [allInt] at h
theorem bls_of : ∀ {l : List D} {bs : List Bool} {vs : List V}, allBl l = some bs → RepL G m H l vs → vs = bs.map V.bl
  | [], ns, vs, h, r => by
    simp only [allBl] at h; cases h
    simp only [RepL] at r; subst r
    rfl
  | d :: l, ns, vs, h, r => by
    simp only [RepL] at r
    obtain ⟨v, us, rfl, r1, r2⟩ := r
    cases d with
    | bl i =>
      simp only [allBl] at h
      cases e : allBl l with
      | none => rw [e] at h; cases h
      | some ms =>
        rw [e] at h; cases h
        rw [r1.bl_inv, bls_of e r2]
        rfl
    | _ => simp [allBl] at h
theorem v_ints_inj : ∀ {l r : List Int}, l.map V.int = r.map V.int → l = r
  | [], [], _ => rfl
  | [], _ :: _, h => by simp at h
  | _ :: _, [], h => by simp at h
  | x :: l, y :: r, h => by
    simp only [List.map_cons, List.cons.injEq, V.int.injEq] at h
    rw [h.1, v_ints_inj h.2]
theorem rep_tupI {l : List Int} {v : V} (r : Rep G m H (.tup (l.map .int)) v) : ∃ t, v = V.ref t ∧ SqT G.K H t (l.map V.int) := by
  obtain ⟨p, vs, rfl, f, rl⟩ := r.tup_inv
  have e : allInt (l.map D.int) = some l := by
    clear r rl f
    induction l with
    | nil => rfl
    | cons x l ih => simp [allInt, ih]
  obtain ⟨e1, _⟩ := ints_of e rl
  exact ⟨p, rfl, by rw [← e1]; exact f.sq⟩
inductive F2 {α β : Type} (P : α → β → Prop) : List α → List β → Prop
  | nil : F2 P [] []
  | cons {a : α} {b : β} {l : List α} {r : List β} : P a b → F2 P l r → F2 P (a :: l) (b :: r)
theorem tupsAt : ∀ {l : List D} {ls : List (List Int)} {vs : List V}, allTup l = some ls → RepL G m H l vs → F2 (fun v q => q ≠ [] ∧ Rep G m H (tupI q) v) vs ls
  | [], _, vs, h, r => by
    simp only [allTup] at h; cases h
    simp only [RepL] at r; subst r
    exact .nil
  | d :: l, _, vs, h, r => by
    simp only [RepL] at r
    obtain ⟨v, us, rfl, r1, r2⟩ := r
    cases d with
    | tup k =>
      simp only [allTup] at h
      split at h
      · rename_i x xs q e1 e2
        cases h
        refine .cons ⟨by simp, ?_⟩ (tupsAt e2 r2)
        obtain ⟨p, ws, rfl, f, rl⟩ := r1.tup_inv
        obtain ⟨_, e3⟩ := ints_of e1 rl
        unfold tupI
        rw [← e3]
        exact r1
      · cases h
    | _ => simp [allTup] at h
theorem tups_of {K : PySem.W.Frag} {l : List D} {ls : List (List Int)} {vs : List V} (inj : ∀ t xs ys, SqT G.K H t xs → SqT G.K H t ys → xs = ys) (h : allTup l = some ls) (r : RepL G m H l vs) :
    ∃ k : V → List Int, vs.map k = ls ∧ ∀ x ∈ vs, ∃ t, x = V.ref t ∧ SqT G.K H t ((k x).map V.int) ∧ k x ≠ [] ∧ Rep G m H (tupI (k x)) x := by
  have q := tupsAt h r
  classical
  let k : V → List Int := fun x => if e : ∃ l, Rep G m H (tupI l) x then e.choose else []
  have hk : ∀ x l, Rep G m H (tupI l) x → k x = l := by
    intro x l hl
    have e : ∃ l, Rep G m H (tupI l) x := ⟨l, hl⟩
    have e1 : k x = e.choose := dif_pos e
    rw [e1]
    obtain ⟨t, rfl, a1⟩ := rep_tupI e.choose_spec
    obtain ⟨t', e2, a2⟩ := rep_tupI hl
    cases e2
    exact v_ints_inj (inj _ _ _ a1 a2)
  refine ⟨k, ?_, fun x hx => ?_⟩
  · clear h r
    induction q with
    | nil => rfl
    | cons a _ ih => rw [List.map_cons, hk _ _ a.2, ih]
  · have : ∃ l, l ≠ [] ∧ Rep G m H (tupI l) x := by
      clear h r
      induction q with
      | nil => simp at hx
      | cons a _ ih =>
        rcases List.mem_cons.mp hx with rfl | hx
        · exact ⟨_, a⟩
        · exact ih hx
    obtain ⟨l, h1, h2⟩ := this
    obtain ⟨t, rfl, h3⟩ := rep_tupI h2
    have e := hk _ _ h2
    exact ⟨t, rfl, by rw [e]; exact h3, by rw [e]; exact h1, by rw [e]; exact h2⟩
theorem repTups {k : V → List Int} : ∀ (ys : List V), (∀ y ∈ ys, Rep G m H (tupI (k y)) y) → RepL G m H ((ys.map k).map tupI) ys
  | [], _ => RepL.nil
  | y :: ys, h => RepL.cons (h y List.mem_cons_self) (repTups ys fun z hz => h z (List.mem_cons_of_mem _ hz))
theorem repInts : ∀ (ns : List Int), RepL G m H (ns.map D.int) (ns.map V.int)
  | [] => RepL.nil
  | n :: ns => RepL.cons rep_int (repInts ns)
theorem insI_perm (x : Int) : ∀ l : List Int, (insI x l).Perm (x :: l)
  | [] => List.Perm.refl _
  | y :: r => by
    unfold insI
    split
    · exact List.Perm.refl _
    · exact ((insI_perm x r).cons y).trans (List.Perm.swap x y r)
theorem sortI_perm : ∀ l : List Int, (sortI l).Perm l
  | [] => List.Perm.refl _
  | x :: r => (insI_perm x (sortI r)).trans ((sortI_perm r).cons x)
theorem insI_sorted (x : Int) : ∀ l : List Int, l.Pairwise (· ≤ ·) → (insI x l).Pairwise (· ≤ ·)
  | [], _ => by simp [insI]
  | y :: r, h => by
    unfold insI
    have h1 := List.pairwise_cons.mp h
    split
    · rename_i hxy
      refine List.pairwise_cons.mpr ⟨fun z hz => ?_, h⟩
      rcases List.mem_cons.mp hz with e | hz
      · rw [e]; exact hxy
      · have := h1.1 z hz; omega
    · rename_i hxy
      refine List.pairwise_cons.mpr ⟨fun z hz => ?_, insI_sorted x r h1.2⟩
      have := (insI_perm x r).mem_iff.mp hz
      rcases List.mem_cons.mp this with e | hz
      · omega
      · exact h1.1 z hz
theorem sortI_sorted : ∀ l : List Int, (sortI l).Pairwise (· ≤ ·)
  | [] => List.Pairwise.nil
  | x :: r => insI_sorted x _ (sortI_sorted r)
theorem sortI_uniq {l r : List Int} (p : r.Perm l) (s : r.Pairwise (· ≤ ·)) : r = sortI l :=
  List.Perm.eq_of_pairwise (fun a b _ _ h1 h2 => by omega) s (sortI_sorted l) (p.trans (sortI_perm l).symm)
theorem maxI_spec : ∀ (l : List Int) (a : Int), maxI a l ∈ a :: l ∧ ∀ y ∈ a :: l, y ≤ maxI a l
  | [], a => by simp [maxI]
  | x :: r, a => by
    unfold maxI
    obtain ⟨h1, h2⟩ := maxI_spec r (if x > a then x else a)
    generalize hb : (if x > a then x else a) = b at h1 h2
    have hb2 : (b = x ∨ b = a) ∧ x ≤ b ∧ a ≤ b := by split at hb <;> omega
    have q := h2 b (List.mem_cons_self ..)
    refine ⟨?_, fun y hy => ?_⟩
    · rcases List.mem_cons.mp h1 with e | e
      · rw [e]
        rcases hb2.1 with z | z
        · rw [z]; simp
        · rw [z]; simp
      · simp [e]
    · rcases List.mem_cons.mp hy with e | hy
      · omega
      · rcases List.mem_cons.mp hy with e | hy
        · omega
        · exact h2 y (List.mem_cons_of_mem _ hy)
theorem minI_spec : ∀ (l : List Int) (a : Int), minI a l ∈ a :: l ∧ ∀ y ∈ a :: l, minI a l ≤ y
  | [], a => by simp [minI]
  | x :: r, a => by
    unfold minI
    obtain ⟨h1, h2⟩ := minI_spec r (if x < a then x else a)
    generalize hb : (if x < a then x else a) = b at h1 h2
    have hb2 : (b = x ∨ b = a) ∧ b ≤ x ∧ b ≤ a := by split at hb <;> omega
    have q := h2 b (List.mem_cons_self ..)
    refine ⟨?_, fun y hy => ?_⟩
    · rcases List.mem_cons.mp h1 with e | e
      · rw [e]
        rcases hb2.1 with z | z
        · rw [z]; simp
        · rw [z]; simp
      · simp [e]
    · rcases List.mem_cons.mp hy with e | hy
      · omega
      · rcases List.mem_cons.mp hy with e | hy
        · omega
        · exact h2 y (List.mem_cons_of_mem _ hy)
theorem sumI_eq : ∀ l : List Int, l.sum = sumI l
  | [] => rfl
  | x :: r => by rw [List.sum_cons, sumI_eq r]; rfl
theorem one_inv {d : D} {vs : List V} (r : RepL G m H [d] vs) : ∃ v, vs = [v] ∧ Rep G m H d v := by
  simp only [RepL] at r
  obtain ⟨v, us, rfl, r1, rfl⟩ := r
  exact ⟨v, rfl, r1⟩
theorem two_inv {d e : D} {vs : List V} (r : RepL G m H [d, e] vs) : ∃ v u, vs = [v, u] ∧ Rep G m H d v ∧ Rep G m H e u := by
  simp only [RepL] at r
  obtain ⟨v, us, rfl, r1, u, ws, rfl, r2, rfl⟩ := r
  exact ⟨v, u, rfl, r1, r2⟩
theorem ofInt_str (i : Int) : ((toString i : String) : Str) = ⟨((toString i).toList.map Char.toNat).toArray⟩ := PySem.Str.ofString_eq_toList _
theorem call_bi (hK : X.K = G.K) (b : Bi) (hb : biHot b = false → X.calm = true) (k : Bool) : CallR X b.val (rBi G b k) := by
  intro pins s σ H vs us Q I rv ⟨m, S, ds, rs, r, h⟩
  unfold biD at h
  split at h
  · -- len
    rename_i d
    obtain ⟨v, rfl, rd⟩ := one_inv r
    split at h
    · rename_i t
      split at h
      · rename_i hz
        refine call_len_str pins s σ H _ us Q I rv ⟨_, by rw [rd.str_inv], ?_, ?_⟩
        · rw [str_len, ← lim]; exact hz
        · rw [str_len]
          exact fin_same rs rep_int h
      · exact h.elim
    · split at h
      · rename_i l e
        obtain ⟨p, xs, rfl, hp, rl⟩ := seqOf_sq rs rd e
        refine call_len_seq pins s σ H _ us Q I rv ⟨p, xs, rfl, ?_, ?_⟩
        · rcases hp with hp | hp
          · exact .inl (sq_of hp)
          · exact .inr (by rw [hK]; exact hp)
        · rw [← rl.length]
          exact fin_same rs rep_int h
      · exact h.elim
  · -- abs
    obtain ⟨v, rfl, rd⟩ := one_inv r
    exact call_abs pins s σ H _ us Q I rv ⟨_, by rw [rd.int_inv], fin_same rs rep_int h⟩
  · -- min of two
    obtain ⟨v, u, rfl, rd, re⟩ := two_inv r
    exact call_min2 (hb rfl) pins s σ H _ us Q I rv ⟨_, _, by rw [rd.int_inv, re.int_inv], fin_same rs rep_int h⟩
  · -- max of two
    obtain ⟨v, u, rfl, rd, re⟩ := two_inv r
    exact call_max2 (hb rfl) pins s σ H _ us Q I rv ⟨_, _, by rw [rd.int_inv, re.int_inv], fin_same rs rep_int h⟩
  · -- min of a list
    obtain ⟨v, rfl, rd⟩ := one_inv r
    split at h
    · rename_i l e
      split at h
      · rename_i x t e2
        obtain ⟨p, xs, rfl, hp, rl⟩ := lstOf_sq rs rd e
        obtain ⟨e3, _⟩ := ints_of e2 rl
        refine cr_min (hb rfl) pins s σ H _ us Q I rv ⟨p, x :: t, rfl, by rw [← e3]; exact sq_of hp, by simp, fun z h1 h2 => ?_⟩
        obtain ⟨s1, s2⟩ := minI_spec t x
        have : z = minI x t := by
          have a1 := h2 _ s1
          have a2 := s2 z h1
          omega
        rw [this]
        exact fin_same rs rep_int h
      · exact h.elim
    · exact h.elim
  · -- max of a list
    obtain ⟨v, rfl, rd⟩ := one_inv r
    split at h
    · rename_i l e
      split at h
      · rename_i x t e2
        obtain ⟨p, xs, rfl, hp, rl⟩ := lstOf_sq rs rd e
        obtain ⟨e3, _⟩ := ints_of e2 rl
        refine cr_max (hb rfl) pins s σ H _ us Q I rv ⟨p, x :: t, rfl, by rw [← e3]; exact sq_of hp, by simp, fun z h1 h2 => ?_⟩
        obtain ⟨s1, s2⟩ := maxI_spec t x
        have : z = maxI x t := by
          have a1 := h2 _ s1
          have a2 := s2 z h1
          omega
        rw [this]
        exact fin_same rs rep_int h
      · exact h.elim
    · exact h.elim
  · -- sum
    obtain ⟨v, rfl, rd⟩ := one_inv r
    split at h
    · rename_i l e
      split at h
      · rename_i ns e2
        obtain ⟨p, xs, rfl, hp, rl⟩ := seqOf_sq rs rd e
        obtain ⟨e3, _⟩ := ints_of e2 rl
        have hp' : SqL X.K H p xs ∨ SqT X.K H p xs := by
          rcases hp with hp | hp
          · exact .inl (sq_of hp)
          · exact .inr (by rw [hK]; exact hp)
        refine cr_sum2 (hb rfl) pins s σ H _ us Q I rv ⟨p, ns, rfl, by rw [← e3]; exact hp', ?_⟩
        rw [sumI_eq]
        exact fin_same rs rep_int h
      · exact h.elim
    · exact h.elim
  · -- sorted
    obtain ⟨v, rfl, rd⟩ := one_inv r
    split at h
    · rename_i l e
      obtain ⟨p, xs, rfl, hp, rl⟩ := seqOf_sq rs rd e
      have hp' : SqL X.K H p xs ∨ SqT X.K H p xs := by
        rcases hp with hp | hp
        · exact .inl (sq_of hp)
        · exact .inr (by rw [hK]; exact hp)
      split at h
      · rename_i ns e2
        obtain ⟨e3, _⟩ := ints_of e2 rl
        refine cr_sortI2 pins s σ H _ us Q I rv ⟨p, ns, rfl, by rw [← e3]; exact hp', fun ns' q h1 h2 hq => ?_⟩
        rw [sortI_uniq h1 h2]
        exact fin_mk rs (repInts _) hq h
      · split at h
        · rename_i ls e2
          obtain ⟨k, hk1, hk2⟩ := tups_of (K := G.K) (fun t l l' h1 h2 => I.tuple_inj (by rw [hK]; exact h1) (by rw [hK]; exact h2)) e2 rl
          refine cr_sortT2 pins s σ H _ us Q I rv ⟨p, xs, k, rfl, hp', fun x hx => ?_, fun ys q h1 h2 hq => ?_⟩
          · obtain ⟨t, e3, e4, e5, _⟩ := hk2 x hx
            exact ⟨t, e3, by rw [hK]; exact e4, e5⟩
          · have e6 : ys.map k = sortT ls := sortT_uniq (by rw [← hk1]; exact h1.map k) h2
            refine fin_mk rs ?_ hq h
            rw [← e6]
            exact repTups ys fun y hy => (hk2 y (h1.mem_iff.mp hy)).choose_spec.2.2.2
        · exact h.elim
    · exact h.elim
  · -- all
    obtain ⟨v, rfl, rd⟩ := one_inv r
    split at h
    · rename_i l e
      split at h
      · rename_i bs e2
        obtain ⟨p, xs, rfl, hp, rl⟩ := lstOf_sq rs rd e
        have e3 := bls_of e2 rl
        exact cr_all (hb rfl) pins s σ H _ us Q I rv ⟨p, bs, rfl, by rw [← e3]; exact sq_of hp, fin_same rs rep_bl h⟩
      · exact h.elim
    · exact h.elim
  · -- any
    obtain ⟨v, rfl, rd⟩ := one_inv r
    split at h
    · rename_i l e
      split at h
      · rename_i bs e2
        obtain ⟨p, xs, rfl, hp, rl⟩ := lstOf_sq rs rd e
        have e3 := bls_of e2 rl
        exact cr_any (hb rfl) pins s σ H _ us Q I rv ⟨p, bs, rfl, by rw [← e3]; exact sq_of hp, fin_same rs rep_bl h⟩
      · exact h.elim
    · exact h.elim
  · -- int of an int
    obtain ⟨v, rfl, rd⟩ := one_inv r
    exact call_int1 pins s σ H _ us Q I rv (.inl ⟨_, by rw [rd.int_inv], fin_same rs rep_int h⟩)
  · obtain ⟨v, rfl, rd⟩ := one_inv r
    exact call_int1 pins s σ H _ us Q I rv (.inr ⟨_, by rw [rd.bl_inv], fin_same rs rep_int h⟩)
  · -- str of an int
    obtain ⟨v, rfl, rd⟩ := one_inv r
    split at h
    · rename_i hz
      refine call_str_int pins s σ H _ us Q I rv ⟨_, by rw [rd.int_inv], hz, ?_⟩
      rw [ofInt_str]
      exact fin_same rs rep_str h
    · exact h.elim
  · -- list
    obtain ⟨v, rfl, rd⟩ := one_inv r
    split at h
    · rename_i l e
      obtain ⟨p, xs, rfl, hp, rl⟩ := seqOf_sq rs rd e
      refine call_list_of pins s σ H _ us Q I rv ⟨p, xs, rfl, ?_, fun q hq => fin_mk rs rl hq h⟩
      rcases hp with hp | hp
      · exact .inl (sq_of hp)
      · exact .inr (by rw [hK]; exact hp)
    · exact h.elim
  · -- tuple
    rename_i d
    obtain ⟨v, rfl, rd⟩ := one_inv r
    split at h
    · rename_i l e
      refine call_tuple_of pins s σ H _ us Q I rv ?_
      unfold seqOf at e
      split at e
      · cases e
        obtain ⟨p, xs, rfl, f, rl⟩ := rd.tup_inv
        exact ⟨p, xs, rfl, .inr ⟨by rw [hK]; exact f.sq, fin_same rs (rep_tup f rl) h⟩⟩
      · cases e
        obtain ⟨p, xs, rfl, f, rl⟩ := rd.lst_inv
        exact ⟨p, xs, rfl, .inl ⟨sq_of f.2, fun q hq => fin_tup rs rl hq h⟩⟩
      · split at e
        · rename_i l' e2
          cases e
          obtain ⟨p, rfl, hp⟩ := rd.ref_inv
          obtain ⟨p', hp', xs, hv, rl⟩ := rs.cel _ _ e2
          rw [hp] at hp'; cases hp'
          exact ⟨p, xs, rfl, .inl ⟨.inl (.inl hv), fun q hq => fin_tup rs rl hq h⟩⟩
        · cases e
      · cases e
    · exact h.elim
  · obtain ⟨v, rfl, rd⟩ := one_inv r
    exact call_bool1 pins s σ H _ us Q I rv (.inl ⟨_, by rw [rd.int_inv], fin_same rs rep_bl h⟩)
  · obtain ⟨v, rfl, rd⟩ := one_inv r
    exact call_bool1 pins s σ H _ us Q I rv (.inr ⟨_, by rw [rd.bl_inv], fin_same rs rep_bl h⟩)
  · exact h.elim
/-! #### methods of built-in types -/
def Bm.ty : Bm → String
  | .append => "list" | .pop => "list" | .extend => "list" | .index => "list" | .bitLength => "int"
def Bm.id : Bm → String
  | .append => "list.append" | .pop => "list.pop" | .extend => "list.extend" | .index => "list.index" | .bitLength => "int.bit_length"
def rBm (G : Pg) (b : Bm) : V → List V → Hp → VK → Prop := fun x vs H Q => ∃ m S d ds, RS G m H S ∧ Rep G m H d x ∧ RepL G m H ds vs ∧ FinV G (Rep G) m H (bmD b d ds S) Q
theorem noEx_bm (b : Bm) (d : D) (ds : List D) (S : Store) : NoEx (bmD b d ds S) := by
  intro c l S' h
  unfold bmD at h
  repeat' split at h
  all_goals first
    | (cases h; done)
    | exact noEx_mkL _ _ _ _ _ _ h
theorem cell_lst {n : Nat} {l : List D} {v : V} (rs : RS G m H S) (r : Rep G m H (.ref n) v) (e : S[n]? = some (.lst l)) : ∃ p vs, v = .ref p ∧ m[n]? = some p ∧ H p = some (.lst vs) ∧ RepL G m H l vs := by
  obtain ⟨p, rfl, hp⟩ := r.ref_inv
  obtain ⟨p', hp', vs, hv, rl⟩ := rs.cel _ _ e
  rw [hp] at hp'; cases hp'
  exact ⟨p, vs, rfl, hp, hv, rl⟩
/-- a cell's list is written anew -/
theorem fin_put {α β : Type} {R : List Addr → Hp → α → β → Prop} {a : α} {b : β} {n : Nat} {p : Addr} {l : List D} {vs : List V} {Q : β → Hp → Prop} (rs : RS G m H S) (hp : m[n]? = some p) (r : RepL G m H l vs) (nf : NF H p) (q : R m (upd H p (.lst vs)) a b) (h : FinV G R m H (.ok a (S.set n (.lst l))) Q) : Q b (upd H p (.lst vs)) := by
  have x : Ext m H m (upd H p (.lst vs)) := Ext.write (List.mem_of_getElem? hp) nf
  exact h m _ b x (rs.write nf hp ⟨vs, upd_same, RepL.mono x _ _ r⟩) q
theorem mt_bm (b : Bm) : MtR X b.id (rBm G b) := by
  intro pins s σ H x vs v us Q I rx rv ⟨m, S, d, ds, rs, rd, r, h⟩
  unfold bmD at h
  split at h
  · -- append
    rename_i e
    obtain ⟨y, rfl, re⟩ := one_inv r
    split at h
    · rename_i n
      split at h
      · rename_i l el
        split at h
        · rename_i hz
          obtain ⟨p, xs, rfl, hp, hv, rl⟩ := cell_lst rs rd el
          refine mt_append pins s σ H _ _ v us Q I rx rv ⟨p, xs, y, rfl, rfl, hv, ?_, fin_put rs hp (rl.append (RepL.cons re RepL.nil)) (NF.of hv fun _ _ z => nomatch z) rep_non h⟩
          rw [← rl.length, ← lim]; exact hz
        · exact h.elim
      · exact h.elim
    · exact h.elim
  · -- pop
    have ev : vs = [] := by simpa only [RepL] using r
    subst ev
    split at h
    · rename_i n
      split at h
      · rename_i l el
        split at h
        · rename_i e he
          obtain ⟨p, xs, rfl, hp, hv, rl⟩ := cell_lst rs rd el
          obtain ⟨y, hy, ry⟩ := rl.get he
          refine mt_pop pins s σ H _ _ v us Q I rx rv ⟨p, xs, y, rfl, rfl, hv, by rw [← rl.length]; exact hy, fin_put rs hp rl.dropLast (NF.of hv fun _ _ z => nomatch z) (Rep.mono (Ext.write (List.mem_of_getElem? hp) (NF.of hv fun _ _ z => nomatch z)) _ _ ry) h⟩
        · exact h.elim
      · exact h.elim
    · exact h.elim
  · -- bit_length
    have ev : vs = [] := by simpa only [RepL] using r
    subst ev
    split at h
    · have ex := rd.int_inv
      subst ex
      obtain ⟨t, rfl⟩ := rx
      cases rv
      exact call_int_bit_length ⟨.int _, H, I.tok _, ⟨_, rfl⟩, fin_same rs rep_int h⟩
    · exact h.elim
  · exact h.elim
/-- the receiver is of the method's type -/
theorem bm_ty {b : Bm} {d : D} {v : V} {K : PySem.W.Frag} (rs : RS G m H S) (r : Rep G m H d v) (h : bmOk b d S = true) : tyV K b.ty v H := by
  have cl : ∀ {n : Nat} {T : String} {Z : Prop}, d = .ref n → T = "list" → (match S[n]? with
      | some (.lst _) => true
      | _ => false) = true → tyV K T v H := fun {n T Z} e eT hm => by
    subst e eT
    split at hm
    · rename_i l el
      obtain ⟨p, vs, rfl, hp, hv, rl⟩ := cell_lst rs r el
      exact .inl ⟨rfl, vs, .inl (.inl hv)⟩
    · cases hm
  unfold bmOk at h
  split at h
  · split at h
    · rw [r.int_inv]; rfl
    · cases h
  · split at h
    · obtain ⟨p, vs, rfl, f, rl⟩ := r.lst_inv
      exact .inl ⟨rfl, vs, .inl f.2⟩
    · exact cl (Z := True) rfl rfl h
    · cases h
  · split at h
    · rename_i n1 n2 _ n
      have hb : b.ty = "list" := by cases b <;> first | rfl | exact (n1 rfl).elim | exact (n2 rfl).elim
      exact cl (Z := True) rfl hb h
    · cases h
/-! #### o[i] = v -/
theorem set_cell : PSet X (fun o i v H Q => ∃ m S d k x S', RS G m H S ∧ Rep G m H d o ∧ Rep G m H k i ∧ Rep G m H x v ∧ setI d k x S = some S' ∧ ∀ H', Ext m H m H' → RS G m H' S' → Q H') := by
  intro pins s σ H o i v ov iv u Q I ro ri rv ⟨m, S, d, k, x, S', rs, rd, rk, rx, e, q⟩
  unfold setI at e
  split at e
  · rename_i n j
    split at e
    · rename_i l el
      split at e
      · rename_i a ha
        cases e
        obtain ⟨p, xs, rfl, hp, hv, rl⟩ := cell_lst rs rd el
        have ei := rk.int_inv
        subst ei
        refine set_list pins s σ H _ _ v ov iv u Q I ro ri rv ⟨p, xs, j, a, rfl, rfl, hv, by rw [← rl.length, ← ixN_eq]; exact ha, ?_⟩
        have nf : NF H p := NF.of hv fun _ _ z => nomatch z
        have x : Ext m H m (upd H p (.lst (xs.set a v))) := Ext.write (List.mem_of_getElem? hp) nf
        exact q _ x (rs.write nf hp ⟨_, upd_same, RepL.mono x _ _ (rl.set rx a)⟩)
      · cases e
    · cases e
  · cases e
end
end Ev
end
section
set_option maxRecDepth 100000
set_option maxHeartbeats 4000000
/-! Ev: a list comprehension within an except suite (or in a def called from there). -/
namespace Ev
open PySem PySem.Spec PyProof.Rows L2 L2H
/-- the block's context: the pins of the def's stay -/
abbrev hblk (X : Cx) (s : Shared) (H : Hp) (sc : Scope) (ce : Env) (fp : List Addr) : Cx := { X.blk s H sc ce fp with pn := X.pn }
theorem hblk_hot {X : Cx} (c : HotC X) (s : Shared) (H : Hp) (sc : Scope) (ce : Env) (fp : List Addr) : HotC (hblk X s H sc ce fp) := c
section
variable {X : Cx} {pins : List (Addr × Obj)} {σ : L2.St} {H : Hp} {s : Shared}
theorem hblk_inv {sc : Scope} {own : List (Str × Nat)} {fp : List Addr} (I : L2.Inv X pins σ H s) (ok : BlkOk X.N X.env.scope sc own) (hN : X.N.Nodup) (hfp : ∀ b ∈ fp, FpOk X pins H b ∧ b < s.heap.objs.size) :
    L2.Inv (hblk X s H sc (compEnvC sc (cellsFrom (s.heap.objs.size + 1) sc.names (cloFrom X.env.cells sc.names [])) s.heap.objs.size X.env) fp) [] (L2.wipe σ (own.map (·.2))) H { s with heap := pushCells (s.heap.push { cls := .type "dict", data := .dict #[] }) sc.names } := by
  have J := block_start I ok hN hfp
  have K := J.ok
  refine ⟨⟨K.mod, K.kind, K.glob, K.blt, K.above, K.inj, K.has, K.cab, K.hd, K.frames, K.stk, K.exf, K.bs, K.bsz, K.noex, K.exfs, K.funs, K.frf⟩, J.os, J.bare, J.base, J.loc, J.cell, J.free, J.freeC, fun p hp => ?_, J.hok, J.len⟩
  have hp2 : p ∈ X.pn := by
    have : p ∈ X.pn ++ ([] : List (Addr × Obj)) := hp
    rwa [List.append_nil] at this
  obtain ⟨g1, g2, g3, g4, g5⟩ := I.pin p (List.mem_append_left _ hp2)
  have nf : p.1 ∉ frs X.stack := fun z => (List.mem_cons.mp (I.stkSub p.1 z)).elim g3 g4
  have ne : p.1 ∉ fp := fun z => (hfp p.1 z).1.2.2.2.2.2 p (List.mem_append_left _ hp2) rfl
  exact ⟨J.base.keep p.1 p.2 g1 g2 nf ne, g2, Nat.ne_of_lt (Heap.lt_size g1), nf, g5⟩
/-- the comprehension itself -/
theorem pe_lcH {elt tg iter : Expr} {ifs : List Expr} {sc : Scope} {own : List (Str × Nat)} {pos : Pos} {wi : TI} {g : TG} {tt : TT} {te : TE} (hc : HotC X) (hN : X.N.Nodup) (hi : PIH X tg iter wi) (ok : BlkOk X.N X.env.scope sc own)
    (hg : ∀ (s : Shared) (H : Hp) (C : Addr) (cl : List (Str × Addr)) (fp : List Addr), PG (hblk X s H sc (compEnvC sc cl C X.env) fp) tg g ∧ PTs (hblk X s H sc (compEnvC sc cl C X.env) fp) ifs tt ∧ PE (hblk X s H sc (compEnvC sc cl C X.env) fp) elt te) (hs : ∀ x, foldedSetIterable iter X.env x = pure x) :
    PE X (.ListComp elt [⟨tg, iter, ifs, 0⟩] sc pos) (tLc wi g tt te (own.map (·.2))) := by
  refine ⟨fun pins s σ H Q I h => ?_⟩
  rw [eval_ListComp]
  have fr : ∀ y ∈ sc.names, y.2 = .free → ∃ c, X.env.cells.lookup y.1 = some c := fun y hy e => (ok.free y hy e).elim (fun k => I.ok.has _ (.inl k)) fun k => I.ok.has _ (.inr k)
  refine wpAny_comprehension_free (use := none) rfl hs (closure_ok fr) ok.kind (fun y hy e => (ok.uniq y hy).trans (congrArg some e)) (thn (hi.run pins s σ H _ I h) fun xv s1 a1 => thn a1 fun iv s2 a2 => ?_)
  obtain ⟨it, fp, tn, J, H2, rfl, I2, T, t2, f2, q⟩ := a2
  refine wpAny_newObj_type (newEnv_comp ?_) (Nat.zero_le _)
  obtain ⟨L, hL⟩ : ∃ L, L = s2.heap.objs.size := ⟨_, rfl⟩
  rw [← hL]
  have nL : H2 L = none := I2.hok.fresh (Nat.le_of_eq hL.symm)
  obtain ⟨W, ⟨m0, w0⟩, turn⟩ := q L nL
  -- the heap with the new list
  generalize e3 : ({ s2 with heap := s2.heap.push { cls := .type "list", data := .seq ([] : List Value).toArray } } : Shared) = s3
  have p3 : s3.heap = s2.heap.push { cls := .type "list", data := .seq ([] : List Value).toArray } := by rw [← e3]
  have I3 : L2.Inv X pins σ (upd H2 L (.lst [])) s3 := by
    subst e3
    refine I2.laid (t' := s2.toks) (fun b o z => Heap.get?_push_of_some _ z) (Nat.le_of_eq hL.symm) ⟨Nat.zero_le _, [], 0, .nil, ?_⟩
    rw [hL]
    exact Heap.get?_push_size _ rfl
  have small : ∀ b ∈ fp, b < s2.heap.objs.size := fun b hb => by
    obtain ⟨o, z, _⟩ := T.obj _ _ t2 b hb
    exact Heap.lt_size z
  have f3 : ∀ b ∈ fp, FpOk X pins (upd H2 L (.lst [])) b ∧ b < s3.heap.objs.size := fun b hb => by
    have lt := small b hb
    have ne : b ≠ L := by rw [hL]; exact Nat.ne_of_lt lt
    exact ⟨⟨(upd_ne ne).trans (f2 b hb).1, (f2 b hb).2⟩, by rw [p3, Heap.size_push]; exact Nat.lt_succ_of_lt lt⟩
  have t3 : tn 0 s3.heap := T.keep _ _ _ t2 fun b _ o z => by rw [p3]; exact Heap.get?_push_of_some _ z
  have I4 := hblk_inv I3 ok hN f3
  obtain ⟨pg, pt, pe⟩ := hg s3 (upd H2 L (.lst [])) s3.heap.objs.size (cellsFrom (s3.heap.objs.size + 1) sc.names (cloFrom X.env.cells sc.names [])) fp
  have n3 : ∀ b ∈ fp, (upd H2 L (.lst [])) b = none := fun b hb => (f3 b hb).1.1
  show codeAny _ _ (.compStart (.ListComp elt [⟨tg, iter, ifs, 0⟩] sc pos) 0 (.ref it) (.ref L) (compEnvC sc (cellsFrom (s3.heap.objs.size + 1) sc.names (cloFrom X.env.cells sc.names [])) s3.heap.objs.size X.env)) (compPost (model X.prog X.w) X.A X.xe none (EP X pins σ Q) (.ref L) s3.heap.objs.size) { s3 with heap := pushCells (s3.heap.push { cls := .type "dict", data := .dict #[] }) sc.names }
  generalize ece : compEnvC sc (cellsFrom (s3.heap.objs.size + 1) sc.names (cloFrom X.env.cells sc.names [])) s3.heap.objs.size X.env = ce at I4 pg pt pe ⊢
  have loc : ce.locals = s3.heap.objs.size := by rw [← ece]; rfl
  generalize upd H2 L (.lst []) = H3 at I3 I4 pg pt pe w0 n3 f3
  generalize e4 : ({ s3 with heap := pushCells (s3.heap.push { cls := .type "dict", data := .dict #[] }) sc.names } : Shared) = s4 at I4 ⊢
  have t4 : tn 0 s4.heap := T.keep _ _ _ t3 fun b _ o z => by
    rw [← e4]
    exact pushCells_keeps _ _ _ _ (Heap.get?_push_of_some _ z)
  have hcB : HotC (hblk X s3 H3 sc ce fp) := hc
  have its : ∀ {σ' : L2.St} {H' : Hp} {s' : Shared}, L2.Inv (hblk X s3 H3 sc ce fp) [] σ' H' s' → (∀ b ∈ fp, H' b = none) → ∀ b ∈ fp, FpOk (hblk X s3 H3 sc ce fp) [] H' b := fun {σ' H' s'} I' hn b hb => by
    refine ⟨hn b hb, (I'.ok.exf b hb).1, I'.ok.exfs b hb, .inl hb, fun x c z => (I'.ok.exf b hb).2 x c z, fun p hp => ?_⟩
    have hp2 : p ∈ X.pn := by
      have : p ∈ X.pn ++ ([] : List (Addr × Obj)) := hp
      rwa [List.append_nil] at this
    exact (f3 b hb).1.2.2.2.2.2 p (List.mem_append_left _ hp2)
  have loop : codeAny (model X.prog X.w) X.A (.compLoop (.ListComp elt [⟨tg, iter, ifs, 0⟩] sc pos) 0 (.ref it) (.ref L) ce) (compPost (model X.prog X.w) X.A X.xe none (EP X pins σ Q) (.ref L) s3.heap.objs.size) s4 := by
    refine compLoop_any (fun n s' => ∃ i H', L2.Inv (hblk X s3 H3 sc ce fp) [] (L2.wipe σ (own.map (·.2))) H' s' ∧ tn i s'.heap ∧ (∀ b ∈ fp, H' b = none) ∧ W i n H') (fun n s5 a5 => ?_) m0 ⟨0, H3, I4, t4, n3, w0⟩
    obtain ⟨i, H5, I5, t5, n5, w5⟩ := a5
    rcases turn i n H5 w5 with ⟨stop, fin⟩ | ⟨go, Nx, less, step⟩
    · refine thnF (T.done (hblk X s3 H3 sc ce fp) rfl rfl rfl hcB i [] s5 _ H5 (fun _ _ => False) I5 (its I5 n5) t5 stop) fun r s6 a6 => ?_
      obtain ⟨rfl, I6⟩ := a6
      have I7 : L2.Inv X pins σ H5 s6 := I3.call' (ch := fp) I6.os I6.base I6.hok I6.bare fun b hb => ⟨(f3 b hb).1.2.2.2.1, (f3 b hb).1.2.1, (f3 b hb).1.2.2.2.2.1, (f3 b hb).1.2.2.2.2.2⟩
      have nC : H5 s3.heap.objs.size = none := by rw [← loc]; exact I6.free
      obtain ⟨m, hm, _⟩ := I6.loc
      have hm : s6.heap.Ns s3.heap.objs.size m := by rw [← loc]; exact hm
      refine ⟨m, hm, fun h'' sb => ?_⟩
      obtain ⟨z0, z1, z2, z3, z4, z5⟩ := I3.fpOk (H' := H5) (Nat.le_refl _) nC
      exact ⟨.ref L, H5, I7.turned (t' := s6.toks) (fun b o hb z => (sb.2 b hb).trans z) z0 z1 z3 z4 z5, rfl, fin⟩
    · refine thnF (T.item (hblk X s3 H3 sc ce fp) rfl rfl rfl hcB i [] s5 _ H5 (fun _ _ => False) I5 (its I5 n5) t5 go) fun r s6 a6 => ?_
      obtain ⟨u, rfl, a6⟩ := a6
      refine thnF a6 fun _ s7 ⟨x, H7, I7, r7, y7, t7, n7⟩ => ?_
      have J7 := I7.pinned (its I7 n7) (T.obj _ _ t7)
      refine thnF (pg.run _ s7 _ H7 x u _ J7 r7 (step x H7 y7)) fun _ s8 ⟨σ8, H8, I8, w8, q8⟩ => ?_
      have again : ∀ {s' : Shared} {H' : Hp}, L2.Inv (hblk X s3 H3 sc ce fp) ([] ++ pinsAt fp s7.heap) σ8 H' s' → Nx H' → ∃ m, m < n ∧ ∃ i H', L2.Inv (hblk X s3 H3 sc ce fp) [] (L2.wipe σ (own.map (·.2))) H' s' ∧ tn i s'.heap ∧ (∀ b ∈ fp, H' b = none) ∧ W i m H' := fun {s' H'} I' nx => by
        obtain ⟨m', lt, w'⟩ := less H' nx
        have kept : ∀ b ∈ fp, ∀ o, s7.heap.get? b = some o → s'.heap.get? b = some o ∧ H' b = none := fun b hb o z =>
          ⟨(I'.pin (b, o) (List.mem_append_right _ (List.mem_append_right _ (mem_pinsAt hb z)))).1, (I'.pin (b, o) (List.mem_append_right _ (List.mem_append_right _ (mem_pinsAt hb z)))).2.1⟩
        have len : (L2.wipe σ (own.map (·.2))).length = σ8.length := by rw [← w8, L2.wipe_length]
        have IU : L2.Inv (hblk X s3 H3 sc ce fp) [] σ8 H' s' := L2.Inv.unpinned I'
        refine ⟨m', lt, i + 1, H', IU.weak len (fun j v z => ?_), T.keep _ _ _ t7 fun b hb o z => (kept b hb o z).1, fun b hb => ?_, w'⟩
        · rw [← w8] at z
          exact (wipe_some z).1
        · obtain ⟨o, z, _⟩ := T.obj _ _ t7 b hb
          exact (kept b hb o z).2
      refine thnF (pt.run _ s8 σ8 H8 _ I8 q8) fun b s9 ⟨H9, I9, q9⟩ => ?_
      cases b with
      | false => exact again I9 q9
      | true =>
        refine thnF (pe.run _ s9 σ8 H9 _ I9 q9) fun z s10 ⟨yv, H10, I10, r10, acc, g10, l10, nx⟩ => ?_
        exact app_ok (X := hblk X s3 H3 sc ce fp) I10 g10 l10 r10 fun s11 I11 => again I11 nx
  exact codeAny_compStart_list loop (T.self X.A 0 _ _ _ t4 loop)
end
end Ev
end
section
set_option maxRecDepth 100000
set_option maxHeartbeats 4000000
/-! Ev, part 8: what stands around an expression; readings. -/
namespace Ev
open PySem PySem.Spec PyProof.Rows L2
/-- how keywords find their parameters -/
def KwOk (K : PySem.W.Frag) (fd : FuncData) (ps : List Str) (n : Nat) (ks : List Str) (pm : List Nat) : Prop :=
  ∀ (s : Shared) (us ws : List Value), K.In s.heap → us.length = n → ws.length = ks.length → ∃ xs, pick (us ++ ws) pm = some xs ∧ BindsTo s fd ⟨us, ks.zip ws⟩ (ps.zip xs)
/-- .. of an __init__: self ahead -/
def KwOkC (K : PySem.W.Frag) (fd : FuncData) (ps : List Str) (n : Nat) (ks : List Str) (pm : List Nat) : Prop :=
  ∀ (s : Shared) (z : Value) (us ws : List Value), K.In s.heap → us.length = n → ws.length = ks.length → ∃ xs, pick (us ++ ws) pm = some xs ∧ BindsTo s fd ⟨z :: us, ks.zip ws⟩ (ps.zip (z :: xs))
/-- a constant of the module -/
def GlbOk (G : Pg) (x : Str) (d : D) : Prop := ∃ u v, G.mg x = some u ∧ RelV v u ∧ ∀ m H, Rep G m H d v
def bltL : List Str := ["len", "abs", "min", "max", "sum", "sorted", "all", "any", "int", "str", "list", "tuple", "bool", "dict", "isinstance", "range", "enumerate", "zip", "reversed"]
/-- what the head gives: the classes, the functions, the constants -/
structure Hd (G : Pg) : Prop where
  cls : AllCls G
  mgb : ∀ x ∈ bltL, G.mg x = none
  atl : ∀ x ∈ G.M.atts, x.length < 1000
  atn : G.M.atts.Nodup
  fn : ∀ (f : Nat) (x : Str), G.M.fns[f]? = some x → x ≠ "" → G.mg x = some (.ref (G.fa f)) ∧ PySem.W.keepIn G.K (.ref (G.fa f)) = true
  fnl : ∀ f, f < G.M.fns.length → f < G.T.fns.length
  pos : ∀ f, f < G.T.fns.length → Binds G.K (G.fd f) (G.ps f) []
  kw : ∀ f n ks pm, (f, n, ks, pm) ∈ G.M.kws → f < G.T.fns.length ∧ KwOk G.K (G.fd f) (G.ps f) n ks pm
  ckw : ∀ c n ks pm C f, (c, n, ks, pm) ∈ G.M.ckw → G.T.cls[c]? = some C → C.init = some f → KwOkC G.K (G.fd f) (G.ps f) n ks pm
  mkw : ∀ g n ks pm, (g, n, ks, pm) ∈ G.M.mkw → g < G.T.fns.length ∧ KwOkC G.K (G.fd g) (G.ps g) n ks pm
  na : ∀ c f, (fldsOf G.T c).contains f = true → NoAttr G.K (G.ca c) (G.att f)
  glb : ∀ (g : Nat) (x : Str), G.M.glb[g]? = some x → ∃ d, G.T.glb[g]? = some d ∧ GlbOk G x d
  cmg : ∀ (c : Nat) (x : Str), G.M.cls[c]? = some x → c < G.T.cls.length ∧ G.mg x = some (.ref (G.ca c))
  ini : ∀ (c : Nat) (C : Cl), G.T.cls[c]? = some C → ∃ f, C.init = some f
  mak : ∀ c C f, G.T.cls[c]? = some C → C.init = some f → f < G.T.fns.length ∧ Mk G.K (G.ca c) (G.fa f)
  mth : ∀ c C a f, G.T.cls[c]? = some C → lookN a C.mths = some f → f < G.T.fns.length ∧ Meth G.K (G.ca c) (G.att a) (G.fa f)
/-- a def's promise at level n -/
def spF (G : Pg) (n f : Nat) : Sp := fun vs H Q E => vs.length = (G.ps f).length ∧ ∃ m S ds, RS G m H S ∧ RepL G m H ds vs ∧
  Fin G (fun c d _ H => E c d H) [] (Rep G) m H (run G.T n f ds S) fun _ _ _ H' v => Q v H'
def LvOk (G : Pg) (n : Nat) : Prop := ∀ f, f < G.T.fns.length → FnOk G.P G.w G.K G.mg G.base (L2N.CX G.P G.w) n (G.fa f) (G.fd f) (G.ps f) (spF G n f)
/-- .. of the defs that except suites reach, there -/
def LvH (G : Pg) (n : Nat) : Prop := ∀ f, f ∈ G.M.hot → f < G.T.fns.length → L2H.FnH G.P G.w G.K G.mg G.base (L2N.CX G.P G.w) n (G.fa f) (G.fd f) (G.ps f) (spF G n f)
/-- what stands around an expression -/
structure Ctx (G : Pg) (n : Nat) (X : Cx) (s : Sx) (W : WX) : Prop where
  prog : X.prog = G.P
  w : X.w = G.w
  K : X.K = G.K
  mg : X.mg = G.mg
  base : X.base = G.base
  N : X.N = s.N
  nd : s.N.Nodup
  sc : X.env.scope = s.sc
  fn : ∀ x, s.sc.names.lookup x = some .cell → (∀ b, s.blk = some b → b.names.lookup x = some .cell) → X.fn x = true
  tk : L2N.Takes X W
  cm : s.hot = false → X.calm = true ∧ Room n X.A ∧ LvOk G n ∧ ∀ k, n = k + 1 → LvOk G k
  ht : s.hot = true → L2H.HotC X
  lvh : LvH G n
  rm : L2H.RoomH n X.A
theorem Ctx.calm {G : Pg} {n : Nat} {X : Cx} {s : Sx} {W : WX} (c : Ctx G n X s W) (h : s.hot = false) : X.calm = true := (c.cm h).1
theorem Ctx.units {G : Pg} {n : Nat} {X : Cx} {s : Sx} {W : WX} (c : Ctx G n X s W) : X.A.units + 65 < cLine := by
  have := c.rm.un; omega

/-! #### readings -/
def RB (_ : List Addr) (_ : Hp) (a b : Bool) : Prop := a = b
def RO (_ : List Addr) (_ : Hp) (a b : Option Int) : Prop := a = b
section
variable {G : Pg} {W : WX} {σ : L2.St} {m m' : List Addr} {H H' : Hp} {S : Store} {ρ : Fr}
def tX (G : Pg) (W : WX) {α β : Type} (R : List Addr → Hp → α → β → Prop) (ev : Fr → Store → Rs α) (σ : L2.St) (H : Hp) (Q : β → Hp → Prop) : Prop :=
  ∃ m ρ S, RE G m H ρ σ ∧ RS G m H S ∧ Fin G W σ R m H (ev ρ S) fun _ _ _ H' v => Q v H'
theorem tX.go {α β γ δ : Type} {R : List Addr → Hp → α → β → Prop} {R' : List Addr → Hp → γ → δ → Prop} {ev : Fr → Store → Rs α} {k : α → Store → Rs γ} {t : Tag k} {Q : δ → Hp → Prop} {Q' : β → Hp → Prop} (re : RE G m H ρ σ) (rs : RS G m H S)
    (h : Fin G W σ R' m H ((ev ρ S).th k t) fun _ _ _ H' v => Q v H')
    (q : ∀ a S' m' H' v, Ext m H m' H' → RE G m' H' ρ σ → RS G m' H' S' → R m' H' a v → (Fin G W σ R' m' H' (k a S') fun _ _ _ H' v => Q v H') → Q' v H') : tX G W R ev σ H Q' :=
  ⟨m, ρ, S, re, rs, (Fin.th (R := R) h).imp fun a S' m' H' v x rs' r f => q a S' m' H' v x (re.mono x) rs' r f⟩
theorem tX.goe {α β γ δ : Type} {R : List Addr → Hp → α → β → Prop} {R' : List Addr → Hp → γ → δ → Prop} {ev : Fr → Store → Rs α} {k : α → Store → Rs γ} {t : Tag k} {Q : δ → Hp → Prop} {Q' : β → Hp → Prop} (re : RE G m H ρ σ) (rs : RS G m H S)
    (h : Fin G W σ R' m H ((ev ρ S).th k t) fun _ _ _ H' v => Q v H')
    (q : ∀ a S' m' H' v, ev ρ S = .ok a S' → Ext m H m' H' → RE G m' H' ρ σ → RS G m' H' S' → R m' H' a v → (Fin G W σ R' m' H' (k a S') fun _ _ _ H' v => Q v H') → Q' v H') : tX G W R ev σ H Q' :=
  ⟨m, ρ, S, re, rs, by
    cases e : ev ρ S with
    | ok a S' =>
      rw [e] at h
      intro m' H' v x rs' r
      exact q a S' m' H' v e x (re.mono x) rs' r (Fin.ext x h)
    | ex c l S' => rw [e] at h; exact h
    | bad => rw [e] at h; exact h⟩
theorem tX.same {α β : Type} {R : List Addr → Hp → α → β → Prop} {ev : Fr → Store → Rs α} {Q : β → Hp → Prop} (re : RE G m H ρ σ) (rs : RS G m H S)
    (h : Fin G W σ R m H (ev ρ S) fun _ _ _ H' v => Q v H') : tX G W R ev σ H Q := ⟨m, ρ, S, re, rs, h⟩
theorem Fin.at_ok {α β : Type} {R : List Addr → Hp → α → β → Prop} {a : α} {v : β} {K : α → Store → List Addr → Hp → β → Prop} (rs : RS G m H S) (r : R m H a v) (h : Fin G W σ R m H (.ok a S) K) : K a S m H v := h m H v Ext.refl rs r
/-- .. of an option -/
theorem Fin.at_o {α γ δ : Type} {R' : List Addr → Hp → γ → δ → Prop} {o : Option α} {k : α → Store → Rs γ} {t : Tag k} {K : γ → Store → List Addr → Hp → δ → Prop} (h : Fin G W σ R' m H ((ofO o S).th k t) K) :
    ∃ a, o = some a ∧ Fin G W σ R' m H (k a S) K := by
  cases o with
  | none => exact h.elim
  | some a => exact ⟨a, rfl, h⟩
theorem Fin.at_oe {α β : Type} {R : List Addr → Hp → α → β → Prop} {o : Option α} {K : α → Store → List Addr → Hp → β → Prop} (h : Fin G W σ R m H (ofO o S) K) : ∃ a, o = some a ∧ Fin G W σ R m H (.ok a S) K := by
  cases o with
  | none => exact h.elim
  | some a => exact ⟨a, rfl, h⟩
end
abbrev tE (G : Pg) (W : WX) (ev : Fr → Store → Rs D) : TE := tX G W (Rep G) ev
abbrev tL (G : Pg) (W : WX) (ev : Fr → Store → Rs (List D)) : TA := tX G W (RepL G) ev
abbrev tT (G : Pg) (W : WX) (ev : Fr → Store → Rs Bool) : TT := tX G W RB ev
abbrev tI (G : Pg) (W : WX) (ev : Fr → Store → Rs (Option Int)) : TO := tX G W RO ev
section
variable {X : Cx}
theorem pe_imp {e : Expr} {t t' : TE} (h : PE X e t) (i : ∀ σ H Q, t' σ H Q → t σ H Q) : PE X e t' := ⟨fun pins s σ H Q I q => h.run pins s σ H Q I (i σ H Q q)⟩
theorem pt_imp {e : Expr} {t t' : TT} (h : PT X e t) (i : ∀ σ H Q, t' σ H Q → t σ H Q) : PT X e t' := ⟨fun pins s σ H Q I q => h.run pins s σ H Q I (i σ H Q q)⟩
theorem pw_imp {e : Expr} {t t' : TT} (h : PW X e t) (i : ∀ σ H Q, t' σ H Q → t σ H Q) : PW X e t' := ⟨fun wh pins s σ H Q I q => h.run wh pins s σ H Q I (i σ H Q q)⟩
theorem pa_imp {es : List Expr} {t t' : TA} (h : PA X es t) (i : ∀ σ H Q, t' σ H Q → t σ H Q) : PA X es t' := ⟨fun pos pins s σ H Q I q => h.run pos pins s σ H Q I (i σ H Q q)⟩
theorem pk_imp {es : List Keyword} {t t' : TA} (h : PK X es t) (i : ∀ σ H Q, t' σ H Q → t σ H Q) : PK X es t' := ⟨fun pos pins s σ H Q I q => h.run pos pins s σ H Q I (i σ H Q q)⟩
theorem po_imp {e : Option Expr} {t t' : TO} (h : PO X e t) (i : ∀ σ H Q, t' σ H Q → t σ H Q) : PO X e t' := ⟨fun pins s σ H Q I q => h.run pins s σ H Q I (i σ H Q q)⟩
theorem pe_bad {e : Expr} {t : TE} (i : ∀ σ H Q, ¬ t σ H Q) : PE X e t := ⟨fun pins s σ H Q I q => (i σ H Q q).elim⟩
theorem pt_bad {e : Expr} {t : TT} (i : ∀ σ H Q, ¬ t σ H Q) : PT X e t := ⟨fun pins s σ H Q I q => (i σ H Q q).elim⟩
end
/-! #### names -/
section
variable {G : Pg} {n : Nat} {X : Cx} {s : Sx} {W : WX}
theorem Ctx.glo (c : Ctx G n X s W) {x : Str} (h : gloB s x = true) : Gl X x ∧ (x == ("__debug__" : Str)) = false ∧ x ≠ "__name__" ∧ x ≠ "super" ∧ x ≠ "" := by
  unfold gloB at h
  simp only [Bool.and_eq_true, Bool.not_eq_true'] at h
  obtain ⟨⟨⟨⟨h1, h2⟩, h3⟩, h4⟩, h5⟩ := h
  refine ⟨?_, h2, fun e => ?_, fun e => ?_, fun e => ?_⟩
  · show X.env.scope.names.lookup x = _
    rw [c.sc]
    split at h1
    · assumption
    · cases h1
  · rw [e] at h3; revert h3; decide
  · rw [e] at h4; revert h4; decide
  · rw [e] at h5; revert h5; decide
theorem Ctx.see (c : Ctx G n X s W) {i : Nat} {x : Str} (h : seeB s i x = true) : X.N[i]? = some x ∧ Vis X.env.scope x ∧ (x == ("__debug__" : Str)) = false ∧ (x == ("__classdict__" : Str)) = false := by
  unfold seeB at h
  simp only [Bool.and_eq_true, Bool.not_eq_true', decide_eq_true_eq] at h
  obtain ⟨⟨⟨h1, h2⟩, h3⟩, h4⟩ := h
  refine ⟨by rw [c.N]; exact h1, ?_, h2, h3⟩
  unfold Vis
  rw [c.sc]
  split at h4
  · exact .inl (by assumption)
  · exact .inr (.inl (by assumption))
  · exact .inr (.inr (by assumption))
  · cases h4
theorem Ctx.put (c : Ctx G n X s W) {i : Nat} {x : Str} (h : putB s i x = true) : X.N[i]? = some x ∧ L2.Loc X.env.scope x ∧ (X.fn x = true ∨ X.env.scope.names.lookup x = some .local) := by
  unfold putB at h
  simp only [Bool.and_eq_true, decide_eq_true_eq] at h
  obtain ⟨h1, h2⟩ := h
  refine ⟨by rw [c.N]; exact h1, ?_⟩
  unfold L2.Loc
  rw [c.sc]
  split at h2
  · rename_i e
    exact ⟨.inl e, .inr e⟩
  · rename_i e
    refine ⟨.inr e, .inl (c.fn x e fun b hb => ?_)⟩
    rw [hb] at h2
    simpa using h2
  · cases h2
theorem Ctx.nN (c : Ctx G n X s W) : X.N.Nodup := by rw [c.N]; exact c.nd
end
/-! #### no star, no super() -/
def noStar : Expr → Bool
  | .Starred _ _ => false
  | _ => true
def noSup : Expr → Bool
  | .Call (.Name x _) [] [] _ => !(x == ("super" : Str))
  | _ => true
def noSet : Expr → Bool
  | .Set _ _ _ => false
  | _ => true
theorem star_of {e : Expr} {es : List Expr} {env : Env} (h : noStar e = true) : starEach (e :: es) env = (false, eval e env) :: starEach es env := by
  cases e <;> first | rfl | (simp [noStar] at h)
theorem any_star : ∀ {es : List Expr} {env : Env} {pos : Pos}, es.all noStar = true → (backTo pos (starEach es env)).any (·.1) = false
  | [], _, _, _ => rfl
  | e :: es, env, pos, h => by
    simp only [List.all_cons, Bool.and_eq_true] at h
    rw [star_of h.1]
    have := any_star (env := env) (pos := pos) h.2
    show (false || (backTo pos (starEach es env)).any (·.1)) = false
    rw [this]; rfl
theorem marks_of {op : CmpOp} {e : Expr} (h : noSet e = true) : behindInMarks op e = false := by
  cases e <;> first | rfl | (simp [noSet] at h)
theorem ix_of {b : Expr} (h : notSlice b = true) : PlainIx b := by
  cases b <;> first | (intro o i; rfl) | (simp [notSlice] at h)
theorem base_of {e : Expr} {f : Str} {env : Env} {wh : Sem Value} (h : noSup e = true) : attributeBase e f env wh = wh := by
  cases e with
  | Call g args kws p =>
    cases g with
    | Name x q =>
      cases args with
      | nil =>
        cases kws with
        | nil =>
          simp only [noSup, Bool.not_eq_true'] at h
          unfold attributeBase
          simp only [bne, h, Bool.not_false, Bool.true_or, if_true, bind_pure]
        | cons _ _ => rfl
      | cons _ _ => rfl
    | _ => rfl
  | _ => rfl
/-! #### what a check says about the form -/
theorem chk_form {M : Nm} (ex : Ex) (s : Sx) (e : Expr) (h : chkE M ex s e = true) : noStar e = true ∧ noSet e = true ∧ noSup e = true := by
  cases ex <;> (unfold chkE at h; split at h) <;> first
    | exact ⟨rfl, rfl, rfl⟩
    | (cases h; done)
    | (refine ⟨rfl, rfl, ?_⟩
       unfold noSup
       split
       · rename_i heq
         injection heq with h1 h2 h3 h4
         injection h1 with h5 h6
         rw [← h5]
         simp only [gloB, Bool.and_eq_true] at h
         exact h.1.1.2
       · rfl)
theorem chkW_set {M : Nm} (it : Iter) (s : Sx) (t e : Expr) (h : chkW M it s t e = true) : noSet e = true := by
  cases it <;> simp only [chkW] at h
  · simp only [Bool.and_eq_true] at h
    exact (chk_form _ _ _ h.2).2.1
  all_goals
    split at h
    · rfl
    · cases h
theorem chkL_star {M : Nm} : ∀ (es : Exs) (s : Sx) (l : List Expr), chkL M es s l = true → l.all noStar = true
  | .nil, s, l, h => by
    simp only [chkL, List.isEmpty_iff] at h
    rw [h]; rfl
  | .cons e es, s, l, h => by
    simp only [chkL] at h
    split at h
    · simp only [Bool.and_eq_true] at h
      simp only [List.all_cons, Bool.and_eq_true]
      exact ⟨(chk_form _ _ _ h.1).1, chkL_star es s _ h.2⟩
    · cases h
end Ev
end
section
set_option maxRecDepth 100000
set_option maxHeartbeats 4000000
/-! Ev, part 9: the rules of expressions, one by one. -/
namespace Ev
open PySem PySem.Spec PyProof.Rows L2
theorem app_nil {α : Type} (l : List α) : l ++ [] = l := List.append_nil l
/-! #### lists picked -/
theorem RepL.pick {G : Pg} {m : List Addr} {H : Hp} {ds : List D} {vs : List V} (h : RepL G m H ds vs) : ∀ (pm : List Nat) {ws : List D}, pick ds pm = some ws → ∃ xs, pick vs pm = some xs ∧ RepL G m H ws xs
  | [], _, e => by cases e; exact ⟨[], rfl, RepL.nil⟩
  | i :: r, ws, e => by
    simp only [Ev.pick] at e
    split at e
    · rename_i d l e1 e2
      cases e
      obtain ⟨v, hv, rv⟩ := h.get e1
      obtain ⟨xs, hx, rx⟩ := h.pick r e2
      exact ⟨v :: xs, by simp only [Ev.pick, hv, hx], RepL.cons rv rx⟩
    · cases e
theorem vals_pick {vs : List V} {us : List Value} (h : Vals vs us) : ∀ (pm : List Nat) {xs : List V}, pick vs pm = some xs → ∃ zs, pick us pm = some zs ∧ Vals xs zs
  | [], _, e => by cases e; exact ⟨[], rfl, .nil⟩
  | i :: r, ws, e => by
    simp only [Ev.pick] at e
    split at e
    · rename_i d l e1 e2
      cases e
      obtain ⟨u, hu, ru⟩ := h.get e1
      obtain ⟨zs, hz, rz⟩ := vals_pick h r e2
      exact ⟨u :: zs, by simp only [Ev.pick, hu, hz], .cons ru rz⟩
    · cases e
/-! #### keywords -/
theorem kw_all : ∀ {qs : List Keyword} {env : Env} {pos : Pos}, kwAll qs = true → (backToKw pos (keywordEach qs env)).all (·.1.isSome) = true
  | [], _, _, _ => rfl
  | ⟨a, e, p⟩ :: qs, env, pos, h => by
    simp only [kwAll, List.all_cons, Bool.and_eq_true] at h
    have := kw_all (env := env) (pos := pos) (qs := qs) h.2
    show (a.isSome && (backToKw pos (keywordEach qs env)).all (·.1.isSome)) = true
    rw [this, h.1]; rfl
theorem kw_any {qs : List Keyword} {env : Env} {pos : Pos} : ∀ {l : List (Option Str × Sem Value)}, l.all (·.1.isSome) = true → l.any (·.1.isNone) = false
  | [], _ => rfl
  | a :: l, h => by
    simp only [List.all_cons, Bool.and_eq_true] at h
    simp only [List.any_cons, kw_any (qs := qs) (env := env) (pos := pos) h.2, Bool.or_false]
    obtain ⟨h1, _⟩ := h
    cases ha : a.1 with
    | none => rw [ha] at h1; cases h1
    | some _ => rfl
theorem kw_names : ∀ {qs : List Keyword} {env : Env} {pos : Pos}, kwAll qs = true → (backToKw pos (keywordEach qs env)).filterMap (·.1) = kwN qs
  | [], _, _, _ => rfl
  | ⟨a, e, p⟩ :: qs, env, pos, h => by
    simp only [kwAll, List.all_cons, Bool.and_eq_true] at h
    have ih := kw_names (env := env) (pos := pos) (qs := qs) h.2
    cases a with
    | none => exact absurd h.1 (by simp)
    | some x =>
      show x :: (backToKw pos (keywordEach qs env)).filterMap (·.1) = _
      rw [ih]; rfl
theorem kwN_length : ∀ (qs : List Keyword), (kwN qs).length = (kwE qs).length
  | [] => rfl
  | _ :: qs => congrArg Nat.succ (kwN_length qs)
section
variable {G : Pg} {n : Nat} {X : Cx} {s : Sx} {W : WX} {C : Cs}
/-- a global that is called, with values and keywords -/
theorem pe_anyc {x : Str} {u : Value} {l : List Expr} {qs : List Keyword} {p pos : Pos} {t tk : TA} {r : List V → List V → L2.St → Hp → VK → Prop} (hg : Gl X x) (hm : X.mg x = some u) (hk : PySem.W.keepIn X.K u = true) (hdb : (x == ("__debug__" : Str)) = false) (hst : l.all noStar = true) (hq : kwAll qs = true)
    (ha : PA X l t) (h0 : l = [] → ∀ σ H Q, t σ H Q → Q [] H) (hkw : PK X qs tk)
    (run : ∀ (pins : List (Addr × Obj)) (st : Shared) (σ : L2.St) (H : Hp) (vs zs : List V) (us ws : List Value) (Q : VK), L2.Inv X pins σ H st → Vals vs us → Vals zs ws → r vs zs σ H Q → wpAny (model X.prog X.w) X.A (call u us ((kwN qs).zip ws)) (EP X pins σ Q) X.xe st) :
    PE X (.Call (.Name x p) l qs pos) (fun σ H Q => t σ H fun vs H1 => tk σ H1 fun zs H2 => r vs zs σ H2 Q) := by
  refine ⟨fun pins st σ H Q I h => ?_⟩
  refine wpAny_Call_Name_kw (ld_glob I hg hm ?_ hdb)
  have hall := kw_all (env := X.env) (pos := pos) hq
  have hnm := kw_names (env := X.env) (pos := pos) hq
  cases l with
  | nil =>
    have h1 := h0 rfl σ H _ h
    refine PySem.W.callWith_KW0 (h₀ := X.base) I.ok.mod.kin hk hall ?_ (by rw [kw_any (qs := qs) (env := X.env) (pos := pos) hall]; rfl)
    refine thn (hkw.run pos pins st σ H _ I h1) fun ws s2 ⟨zs, H2, I2, rz, q2⟩ => ⟨I2.kIn, ?_⟩
    rw [hnm]
    exact run pins s2 σ H2 [] zs [] ws Q I2 .nil rz q2
  | cons e es =>
    have hs2 := hst
    simp only [List.all_cons, Bool.and_eq_true] at hs2
    refine PySem.W.callWith_KW (h₀ := X.base) I.ok.mod.kin hk hall (thn (ha.run pos pins st σ H _ I h) fun us s1 ⟨vs, H1, I1, rv, q1⟩ => ?_) (by rw [any_star hst, kw_any (qs := qs) (env := X.env) (pos := pos) hall]; rfl) (star_of hs2.1)
    refine thn (hkw.run pos pins s1 σ H1 _ I1 q1) fun ws s2 ⟨zs, H2, I2, rz, q2⟩ => ⟨I2.kIn, ?_⟩
    rw [hnm]
    exact run pins s2 σ H2 vs zs us ws Q I2 rv rz q2
theorem fin_sp {σ : L2.St} {m : List Addr} {H : Hp} {r : Rs D} {Q : VK} (h : Fin G W σ (Rep G) m H r fun _ _ _ H' v => Q v H') : Fin G (fun c d _ H => WE W σ c d H) [] (Rep G) m H r fun _ _ _ H' v => Q v H' := by
  cases r <;> exact h
theorem run_len {T : Tb} {f : Nat} {ds : List D} {S : Store} (h : run T n f ds S ≠ .bad) : ∃ F, T.fns[f]? = some F ∧ ds.length = F.np := by
  cases n with
  | zero => exact absurd (run_zero T f ds S) h
  | succ k =>
    rw [run_succ] at h
    unfold runB at h
    rw [csOf_T] at h
    split at h
    · rename_i F e
      split at h
      · rename_i hl
        exact ⟨F, e, hl⟩
      · exact absurd rfl h
    · exact absurd rfl h
/-- the parameters are as many as the table says -/
def NpOk (G : Pg) : Prop := ∀ f F, G.T.fns[f]? = some F → (G.ps f).length = F.np
theorem spF_of (np : NpOk G) {f : Nat} {σ : L2.St} {m : List Addr} {H : Hp} {S : Store} {ds : List D} {vs : List V} {Q : VK} (rs : RS G m H S) (r : RepL G m H ds vs) (h : Fin G W σ (Rep G) m H (run G.T n f ds S) fun _ _ _ H' v => Q v H') : spF G n f vs H Q (WE W σ) := by
  have hb : run G.T n f ds S ≠ .bad := fun e => by rw [e] at h; exact h.elim
  obtain ⟨F, e, hl⟩ := run_len hb
  exact ⟨by rw [np f F e, ← hl, r.length], m, S, ds, rs, r, fin_sp h⟩
theorem Ctx.pass (c : Ctx G n X s W) (σ : L2.St) : PassesAt (L2N.CX G.P G.w) X σ (WE W σ) := by
  have := L2N.passAt (X := X) c.tk σ
  rw [c.prog, c.w] at this
  exact this
/-- a def is run -/
theorem run_ev (np : NpOk G) (c : Ctx G n X s W) {k f : Nat} {pins : List (Addr × Obj)} {σ : L2.St} {H : Hp} {st : Shared} {Q : VK} {us zs : List Value} {kw : List (Str × Value)} {vs : List V} {m : List Addr} {S : Store} {ds : List D} (hk : LvOk G k) (hr : Room k X.A) (hf : f < G.T.fns.length)
    (b : BindsTo st (G.fd f) ⟨us, kw⟩ ((G.ps f).zip zs)) (I : L2.Inv X pins σ H st) (rv : Vals vs zs) (rs : RS G m H S) (r : RepL G m H ds vs) (h : Fin G W σ (Rep G) m H (run G.T k f ds S) fun _ _ _ H' v => Q v H') :
    wpAny (model X.prog X.w) X.A (call (.ref (G.fa f)) us kw) (EP X pins σ Q) X.xe st := by
  have F := hk f hf
  rw [← c.prog, ← c.w, ← c.K, ← c.mg, ← c.base] at F
  have px := c.pass σ
  rw [← c.prog, ← c.w] at px
  refine wpAny_call (codeAny_mono (F.run X.A X.stack st H ⟨us, kw⟩ zs vs Q (WE W σ) hr I.env0 b rv (spF_of np rs r h)) fun q s' hq => ?_)
  cases q with
  | error e => exact px pins H st e s' I hq
  | ok fl =>
    cases fl with
    | ret u => exact I.after hq
    | next => exact False.elim hq
    | brk => exact False.elim hq
    | cont => exact False.elim hq
theorem run_hot (np : NpOk G) (c : Ctx G n X s W) {f : Nat} {pins : List (Addr × Obj)} {σ : L2.St} {H : Hp} {st : Shared} {Q : VK} {us zs : List Value} {kw : List (Str × Value)} {vs : List V} {m : List Addr} {S : Store} {ds : List D} (hh : s.hot = true) (hm : f ∈ G.M.hot) (hf : f < G.T.fns.length)
    (b : BindsTo st (G.fd f) ⟨us, kw⟩ ((G.ps f).zip zs)) (I : L2.Inv X pins σ H st) (rv : Vals vs zs) (rs : RS G m H S) (r : RepL G m H ds vs) (h : Fin G W σ (Rep G) m H (run G.T n f ds S) fun _ _ _ H' v => Q v H') :
    wpAny (model X.prog X.w) X.A (call (.ref (G.fa f)) us kw) (EP X pins σ Q) X.xe st := by
  obtain ⟨p, hot, hp⟩ := c.ht hh
  have F := c.lvh f hm hf
  rw [← c.prog, ← c.w, ← c.K, ← c.mg, ← c.base] at F
  have px := c.pass σ
  rw [← c.prog, ← c.w] at px
  obtain ⟨g1, g2, g3, g4, g5⟩ := I.pin p (List.mem_append_left _ hp)
  have po : L2H.PinOk X.stack H st p := ⟨g1, g2, fun z => (List.mem_cons.mp (I.stkSub p.1 z)).elim g3 g4, g5⟩
  refine wpAny_call (codeAny_mono (F.run X.A X.stack st H ⟨us, kw⟩ zs vs Q (WE W σ) p c.rm hot po I.env0 b rv (spF_of np rs r h)) fun q s' hq => ?_)
  cases q with
  | error e => exact px pins H st e s' I hq
  | ok fl => cases fl <;> first | exact I.after hq | exact False.elim hq
/-- a def is run, in either way -/
theorem run_any (np : NpOk G) (c : Ctx G n X s W) {f : Nat} {pins : List (Addr × Obj)} {σ : L2.St} {H : Hp} {st : Shared} {Q : VK} {us zs : List Value} {kw : List (Str × Value)} {vs : List V} {m : List Addr} {S : Store} {ds : List D} (hh : hF G.M s f = true) (hf : f < G.T.fns.length)
    (b : BindsTo st (G.fd f) ⟨us, kw⟩ ((G.ps f).zip zs)) (I : L2.Inv X pins σ H st) (rv : Vals vs zs) (rs : RS G m H S) (r : RepL G m H ds vs) (h : Fin G W σ (Rep G) m H (run G.T n f ds S) fun _ _ _ H' v => Q v H') :
    wpAny (model X.prog X.w) X.A (call (.ref (G.fa f)) us kw) (EP X pins σ Q) X.xe st := by
  cases e : s.hot with
  | false => exact run_ev np c (c.cm e).2.2.1 (c.cm e).2.1 hf b I rv rs r h
  | true =>
    refine run_hot np c e ?_ hf b I rv rs r h
    unfold hF at hh
    rw [e] at hh
    simpa using hh
/-! #### the forms -/
variable {e x y z : Expr} {p pos : Pos} {a b : Ex}
theorem r_var (c : Ctx G n X s W) {i : Nat} {nm : Str} (h : seeB s i nm = true) : PE X (.Name nm p) (tE G W (evE C (.var i))) := by
  obtain ⟨h1, h2, h3, h4⟩ := c.see h
  refine pe_imp (pe_var h1 h2 h3 h4) fun σ H Q ⟨m, ρ, S, re, rs, q⟩ => ?_
  simp only [evE] at q
  split at q
  · rename_i d e
    obtain ⟨v, hv, r⟩ := re.at_ i d e
    exact ⟨v, hv, q.at_ok rs r⟩
  · exact q.elim
theorem r_const {v : V} {d : D} {ev : Fr → Store → Rs D} (h : PE X e (tC v)) (he : ∀ ρ S, ev ρ S = .ok d S) (r : ∀ m H, Rep G m H d v) : PE X e (tE G W ev) :=
  pe_imp h fun σ H Q ⟨m, ρ, S, re, rs, q⟩ => by
    rw [he] at q
    exact q.at_ok rs (r m H)
theorem r_glb (hd : Hd G) (c : Ctx G n X s W) (hT : C.T = G.T) {g : Nat} {nm : Str} (h : gloB s nm = true) (hn : G.M.glb[g]? = some nm) : PE X (.Name nm p) (tE G W (evE C (.glb g))) := by
  obtain ⟨h1, h2, h3, _⟩ := c.glo h
  obtain ⟨d, hdd, u, v, hm, r, rp⟩ := hd.glb g nm hn
  refine r_const (pe_glob h1 (by rw [c.mg]; exact hm) r h2) (fun ρ S => ?_) rp
  simp only [evE, hT, hdd, ofO]
theorem r_bin (c : Ctx G n X s W) {op : Op} {k : Bool} (ha : PE X x (tE G W (evE C a))) (hb : PE X y (tE G W (evE C b))) : PE X (.BinOp x op.of y pos) (tE G W (evE C (.bin op k a b))) := by
  refine pe_imp (pe_op (op_bin (G := G) c.K op k) ha hb) fun σ H Q ⟨m, ρ, S, re, rs, q⟩ => ?_
  simp only [evE] at q
  refine tX.go re rs q fun d S1 m1 H1 v1 x1 re1 rs1 r1 q1 => ?_
  refine tX.go re1 rs1 q1 fun d2 S2 m2 H2 v2 x2 re2 rs2 r2 q2 => ?_
  exact ⟨m2, S2, d, d2, rs2, Rep.mono x2 _ _ r1, r2, q2.toV (noEx_bin _ _ _ _ _)⟩
theorem r_neg (ha : PE X x (tE G W (evE C a))) : PE X (.UnaryOp .USub x pos) (tE G W (evE C (.neg a))) := by
  refine pe_imp (pe_un un_neg ha) fun σ H Q ⟨m, ρ, S, re, rs, q⟩ => ?_
  simp only [evE] at q
  refine tX.go re rs q fun d S1 m1 H1 v1 x1 re1 rs1 r1 q1 => ?_
  split at q1
  · exact ⟨_, r1.int_inv, q1.at_ok rs1 rep_int⟩
  · exact q1.elim
theorem noSet_of {M : Nm} {b : Ex} {y : Expr} (h : chkE M b s y = true) : noSet y = true := (chk_form _ _ _ h).2.1
theorem t_cmp (op : Cp) {K : Bool → Store → Rs D} {t : Tag K} {σ : L2.St} {H : Hp} {Q : VK} (hK : ∀ k S, K k S = .ok (.bl k) S)
    (h : tE G W (fun ρ S => (evE C a ρ S).th fun d S1 => (evE C b ρ S1).th fun e S2 => (ofO (cmpD op d e S2) S2).th K t) σ H Q) : tOp (rCmp G op) (tE G W (evE C a)) (tE G W (evE C b)) σ H Q := by
  obtain ⟨m, ρ, S, re, rs, q⟩ := h
  refine tX.go re rs q fun d S1 m1 H1 v1 x1 re1 rs1 r1 q1 => ?_
  refine tX.go re1 rs1 q1 fun d2 S2 m2 H2 v2 x2 re2 rs2 r2 q2 => ?_
  obtain ⟨k, ek, q3⟩ := q2.at_o
  rw [hK] at q3
  exact ⟨m2, S2, d, d2, k, rs2, Rep.mono x2 _ _ r1, r2, ek, q3.at_ok rs2 rep_bl⟩
theorem r_cmp (c : Ctx G n X s W) (op : Cp) (ha : PE X x (tE G W (evE C a))) (hb : PE X y (tE G W (evE C b))) (hy : noSet y = true) : PE X (.Compare x [op.of] [y] pos) (tE G W (evE C (.cmp op a b))) := by
  refine pe_imp (pe_cmpR (op_cmp (G := G) c.K c.units op) ha hb (marks_of hy)) fun σ H Q ⟨m, ρ, S, re, rs, q⟩ => ?_
  simp only [evE] at q
  exact t_cmp op (fun _ _ => rfl) ⟨m, ρ, S, re, rs, q⟩
theorem r_cmpT (c : Ctx G n X s W) (op : Cp) (ha : PE X x (tE G W (evE C a))) (hb : PE X y (tE G W (evE C b))) (hy : noSet y = true) : PT X (.Compare x [op.of] [y] pos) (tT G W (evT C (.cmp op a b))) := by
  refine pt_imp (pt_cmpR (op_cmp (G := G) c.K c.units op) ha hb (marks_of hy)) fun σ H Q ⟨m, ρ, S, re, rs, q⟩ => ?_
  simp only [evT] at q
  refine tX.go re rs q fun d S1 m1 H1 v1 x1 re1 rs1 r1 q1 => ?_
  refine tX.go re1 rs1 q1 fun d2 S2 m2 H2 v2 x2 re2 rs2 r2 q2 => ?_
  obtain ⟨k, ek, q3⟩ := q2.at_oe
  exact ⟨m2, S2, d, d2, k, rs2, Rep.mono x2 _ _ r1, r2, ek, k, rfl, q3.at_ok rs2 rfl⟩
theorem r_chn (c : Ctx G n X s W) (o1 o2 : Cp) {b' : Ex} (ha : PE X x (tE G W (evE C a))) (hb : PE X y (tE G W (evE C b))) (hc : PE X z (tE G W (evE C b'))) (hy : noSet z = true) : PE X (.Compare x [o1.of, o2.of] [y, z] pos) (tE G W (evE C (.chn o1 o2 a b b'))) := by
  refine pe_imp (pe_chain (op_cmp (G := G) c.K c.units o1) (op_cmp (G := G) c.K c.units o2) ha hb hc (marks_of hy)) fun σ H Q ⟨m, ρ, S, re, rs, q⟩ => ?_
  simp only [evE] at q
  refine tX.go re rs q fun d S1 m1 H1 v1 x1 re1 rs1 r1 q1 => ?_
  refine tX.go re1 rs1 q1 fun d2 S2 m2 H2 v2 x2 re2 rs2 r2 q2 => ?_
  obtain ⟨k, ek, q3⟩ := q2.at_o
  refine ⟨m2, S2, d, d2, k, rs2, Rep.mono x2 _ _ r1, r2, ek, k, rfl, ?_⟩
  cases k with
  | false => exact q3.at_ok rs2 rep_bl
  | true =>
    rw [if_pos rfl] at q3
    refine tX.go re2 rs2 q3 fun d3 S3 m3 H3 v3 x3 re3 rs3 r3 q4 => ?_
    obtain ⟨k2, ek2, q5⟩ := q4.at_o
    exact ⟨m3, S3, d2, d3, k2, rs3, Rep.mono x3 _ _ r2, r3, ek2, q5.at_ok rs3 rep_bl⟩
theorem r_chnT (c : Ctx G n X s W) (o1 o2 : Cp) {b' : Ex} (ha : PE X x (tE G W (evE C a))) (hb : PE X y (tE G W (evE C b))) (hc : PE X z (tE G W (evE C b'))) (hy : noSet z = true) : PT X (.Compare x [o1.of, o2.of] [y, z] pos) (tT G W (evT C (.chn o1 o2 a b b'))) := by
  refine pt_imp (pt_chain (op_cmp (G := G) c.K c.units o1) (op_cmp (G := G) c.K c.units o2) ha hb hc (marks_of hy)) fun σ H Q ⟨m, ρ, S, re, rs, q⟩ => ?_
  simp only [evT] at q
  refine tX.go re rs q fun d S1 m1 H1 v1 x1 re1 rs1 r1 q1 => ?_
  refine tX.go re1 rs1 q1 fun d2 S2 m2 H2 v2 x2 re2 rs2 r2 q2 => ?_
  obtain ⟨k, ek, q3⟩ := q2.at_o
  refine ⟨m2, S2, d, d2, k, rs2, Rep.mono x2 _ _ r1, r2, ek, k, rfl, ?_⟩
  cases k with
  | false => exact ⟨false, rfl, q3.at_ok rs2 rfl⟩
  | true =>
    rw [if_pos rfl] at q3
    refine tX.go re2 rs2 q3 fun d3 S3 m3 H3 v3 x3 re3 rs3 r3 q4 => ?_
    obtain ⟨k2, ek2, q5⟩ := q4.at_oe
    exact ⟨m3, S3, d2, d3, k2, rs3, Rep.mono x3 _ _ r2, r3, ek2, k2, rfl, q5.at_ok rs3 rfl⟩
theorem non_is {m : List Addr} {H : Hp} {d : D} {v : V} (r : Rep G m H d v) (k : Bool) : isNo k d = (if k then !decide (v = .non) else decide (v = .non)) := by
  cases d with
  | non => have e := r.non_inv; subst e; cases k <;> rfl
  | bl b => have e := r.bl_inv; subst e; cases k <;> rfl
  | int b => have e := r.int_inv; subst e; cases k <;> rfl
  | str b => have e := r.str_inv; subst e; cases k <;> rfl
  | tup l => obtain ⟨p, vs, e, _⟩ := r.tup_inv; subst e; cases k <;> rfl
  | lst l => obtain ⟨p, vs, e, _⟩ := r.lst_inv; subst e; cases k <;> rfl
  | ref i => obtain ⟨p, e, _⟩ := r.ref_inv; subst e; cases k <;> rfl
  | obj i l => obtain ⟨p, vs, e, _⟩ := r.obj_inv; subst e; cases k <;> rfl
theorem r_isN (k : Bool) {j : Nat} {p2 : Pos} {kd : Option Str} (ha : PE X x (tE G W (evE C a))) {op : CmpOp} (ho : op = if k then .IsNot else .Is) {e2 : Expr} (he2 : PE X e2 (tC .non)) (hy : noSet e2 = true) : PE X (.Compare x [op] [e2] pos) (tE G W (evE C (.isN k a))) := by
  subst ho
  cases k with
  | false =>
    refine pe_imp (pe_cmpR op_isN1 ha he2 (marks_of hy)) fun σ H Q ⟨m, ρ, S, re, rs, q⟩ => ?_
    simp only [evE] at q
    refine tX.go re rs q fun d S1 m1 H1 v1 x1 re1 rs1 r1 q1 => ?_
    rw [non_is r1] at q1
    exact ⟨rfl, q1.at_ok rs1 rep_bl⟩
  | true =>
    refine pe_imp (pe_cmpR op_notN1 ha he2 (marks_of hy)) fun σ H Q ⟨m, ρ, S, re, rs, q⟩ => ?_
    simp only [evE] at q
    refine tX.go re rs q fun d S1 m1 H1 v1 x1 re1 rs1 r1 q1 => ?_
    rw [non_is r1] at q1
    exact ⟨rfl, q1.at_ok rs1 rep_bl⟩
theorem r_isNT (k : Bool) (ha : PE X x (tE G W (evE C a))) {op : CmpOp} (ho : op = if k then .IsNot else .Is) {e2 : Expr} (he2 : PE X e2 (tC .non)) (hy : noSet e2 = true) : PT X (.Compare x [op] [e2] pos) (tT G W (evT C (.isN k a))) := by
  subst ho
  cases k with
  | false =>
    refine pt_imp (pt_cmpR op_isN1 ha he2 (marks_of hy)) fun σ H Q ⟨m, ρ, S, re, rs, q⟩ => ?_
    simp only [evT] at q
    refine tX.go re rs q fun d S1 m1 H1 v1 x1 re1 rs1 r1 q1 => ?_
    rw [non_is r1] at q1
    exact ⟨rfl, _, rfl, q1.at_ok rs1 rfl⟩
  | true =>
    refine pt_imp (pt_cmpR op_notN1 ha he2 (marks_of hy)) fun σ H Q ⟨m, ρ, S, re, rs, q⟩ => ?_
    simp only [evT] at q
    refine tX.go re rs q fun d S1 m1 H1 v1 x1 re1 rs1 r1 q1 => ?_
    rw [non_is r1] at q1
    exact ⟨rfl, _, rfl, q1.at_ok rs1 rfl⟩
end
end Ev
end
section
set_option maxRecDepth 100000
set_option maxHeartbeats 4000000
/-! Ev, part 10: more rules of expressions. -/
namespace Ev
open PySem PySem.Spec PyProof.Rows L2
/-! #### cells that nobody sees are forgotten -/
section
variable {G : Pg} {m m1 m3 : List Addr} {H H1 H3 : Hp} {S S' : Store}
mutual
theorem below_of : ∀ (d : D) (v : V), Rep G m H d v → below m.length d = true
  | .non, _, _ => rfl
  | .bl _, _, _ => rfl
  | .int _, _, _ => rfl
  | .str _, _, _ => rfl
  | .tup l, _, h => by
    obtain ⟨p, vs, _, _, r⟩ := h.tup_inv
    simp only [below]
    exact belowL_of l vs r
  | .lst l, _, h => by
    obtain ⟨p, vs, _, _, r⟩ := h.lst_inv
    simp only [below]
    exact belowL_of l vs r
  | .ref n, _, h => by
    obtain ⟨p, _, e⟩ := h.ref_inv
    simp only [below, decide_eq_true_eq]
    exact (List.getElem?_eq_some_iff.mp e).1
  | .obj c l, _, h => by
    obtain ⟨p, vs, _, _, r⟩ := h.obj_inv
    simp only [below]
    exact belowL_of l vs r
theorem belowL_of : ∀ (l : List D) (vs : List V), RepL G m H l vs → belowL m.length l = true
  | [], _, _ => rfl
  | d :: l, _, h => by
    simp only [RepL] at h
    obtain ⟨v, r, _, h1, h2⟩ := h
    simp only [belowL, Bool.and_eq_true]
    exact ⟨below_of d v h1, belowL_of l r h2⟩
end
theorem get_pre {n : Nat} {p : Addr} (a : m1 <+: m3) (hn : n < m1.length) (h : m3[n]? = some p) : m1[n]? = some p := by
  obtain ⟨r, rfl⟩ := a
  rw [List.getElem?_append_left hn] at h
  exact h
theorem not_pre {p : Addr} (a : m1 <+: m3) (h : p ∉ m3) : p ∉ m1 := fun q => h (a.subset q)
mutual
theorem Rep.less (a : m1 <+: m3) : ∀ (d : D) (v : V), below m1.length d = true → Rep G m3 H d v → Rep G m1 H d v
  | .non, _, _, h => by rw [h.non_inv]; exact rep_non
  | .bl _, _, _, h => by rw [h.bl_inv]; exact rep_bl
  | .int _, _, _, h => by rw [h.int_inv]; exact rep_int
  | .str _, _, _, h => by rw [h.str_inv]; exact rep_str
  | .tup l, _, b, h => by
    simp only [below] at b
    obtain ⟨p, vs, rfl, f, r⟩ := h.tup_inv
    exact rep_tup (f.imp (fun q => ⟨not_pre a q.1, q.2⟩) id) (RepL.less a l vs b r)
  | .lst l, _, b, h => by
    simp only [below] at b
    obtain ⟨p, vs, rfl, f, r⟩ := h.lst_inv
    exact rep_lst ⟨not_pre a f.1, f.2⟩ (RepL.less a l vs b r)
  | .ref n, _, b, h => by
    simp only [below, decide_eq_true_eq] at b
    obtain ⟨p, rfl, e⟩ := h.ref_inv
    exact rep_ref (get_pre a b e)
  | .obj c l, _, b, h => by
    simp only [below] at b
    obtain ⟨p, vs, rfl, f, r⟩ := h.obj_inv
    exact rep_obj ⟨not_pre a f.1, f.2⟩ (RepL.less a l vs b r)
theorem RepL.less (a : m1 <+: m3) : ∀ (l : List D) (vs : List V), belowL m1.length l = true → RepL G m3 H l vs → RepL G m1 H l vs
  | [], _, _, h => by simp only [RepL] at h; subst h; exact RepL.nil
  | d :: l, _, b, h => by
    simp only [belowL, Bool.and_eq_true] at b
    simp only [RepL] at h
    obtain ⟨v, r, rfl, h1, h2⟩ := h
    exact RepL.cons (Rep.less a d v b.1 h1) (RepL.less a l r b.2 h2)
end
theorem RepC.less {c : Cell} {p : Addr} (a : m1 <+: m3) (b : belowC m1.length c = true) (h : RepC G m3 H c p) : RepC G m1 H c p := by
  cases c with
  | lst l =>
    obtain ⟨vs, h1, r⟩ := h
    exact ⟨vs, h1, RepL.less a _ _ b r⟩
  | ins c fs =>
    obtain ⟨dx, vs, h1, r⟩ := h
    exact ⟨dx, vs, h1, RepL.less a _ _ b r⟩
  | dct lk kvs =>
    obtain ⟨vs, h1, r⟩ := h
    exact ⟨vs, h1, RepL.less a _ _ b r⟩
theorem belowC_of {c : Cell} {p : Addr} (h : RepC G m H c p) : belowC m.length c = true := by
  cases c with
  | lst l =>
    obtain ⟨vs, _, r⟩ := h
    exact belowL_of _ _ r
  | ins c fs =>
    obtain ⟨dx, vs, _, r⟩ := h
    exact belowL_of _ _ r
  | dct lk kvs =>
    obtain ⟨vs, _, r⟩ := h
    exact belowL_of _ _ r
theorem RS.drop (rs : RS G m3 H3 S') (x : Ext m1 H1 m3 H3) (rs1 : RS G m1 H1 S) (e : cutOk S S' = true) : RS G m1 H3 (S'.take S.length) ∧ Ext m1 H1 m1 H3 := by
  have hle : S.length ≤ S'.length := by rw [← rs.len, ← rs1.len]; exact x.pre.length_le
  refine ⟨⟨by rw [List.length_take, Nat.min_eq_left hle]; exact rs1.len, rs1.nd, fun n c en => ?_⟩, ⟨List.prefix_refl _, fun a o ha na => ⟨(x.keep a o ha na).1, na⟩, x.frz⟩⟩
  rw [List.getElem?_take] at en
  split at en
  · rename_i hn
    have hn1 : n < m1.length := by rw [rs1.len]; exact hn
    obtain ⟨p, hp, q⟩ := rs.cel n c en
    refine ⟨p, get_pre x.pre hn1 hp, RepC.less x.pre ?_ q⟩
    unfold cutOk at e
    rw [Bool.or_eq_true] at e
    have en2 : (S'.take S.length)[n]? = some c := by rw [List.getElem?_take, if_pos hn]; exact en
    rcases e with e | e
    · simp only [decide_eq_true_eq] at e
      rw [e] at en2
      obtain ⟨p1, hp1, q1⟩ := rs1.cel n c en2
      exact belowC_of q1
    · rw [rs1.len]
      exact List.all_eq_true.mp e c (List.mem_of_getElem? en2)
  · cases en
end
section
variable {G : Pg} {n : Nat} {X : Cx} {s : Sx} {W : WX} {C : Cs} {e x y z : Expr} {p pos : Pos} {a b : Ex} {es : List Expr} {l : Exs}
/-! #### lists of expressions -/
theorem r_nil : PA X [] (tL G W (evL C .nil)) := pa_imp pa_nil fun σ H Q ⟨m, ρ, S, re, rs, q⟩ => by
  simp only [evL] at q
  exact q.at_ok rs RepL.nil
theorem r_cons (ha : PE X x (tE G W (evE C a))) (hs : noStar x = true) (hl : PA X es (tL G W (evL C l))) : PA X (x :: es) (tL G W (evL C (.cons a l))) :=
  pa_imp (pa_cons ha hl (star_of hs)) fun σ H Q ⟨m, ρ, S, re, rs, q⟩ => by
    simp only [evL] at q
    refine tX.go re rs q fun d S1 m1 H1 v1 x1 re1 rs1 r1 q1 => ?_
    refine tX.go re1 rs1 q1 fun d2 S2 m2 H2 v2 x2 re2 rs2 r2 q2 => ?_
    exact q2.at_ok rs2 (RepL.cons (Rep.mono x2 _ _ r1) r2)
theorem r_knil : PK X [] (tL G W (evL C .nil)) := pk_imp pk_nil fun σ H Q ⟨m, ρ, S, re, rs, q⟩ => by
  simp only [evL] at q
  exact q.at_ok rs RepL.nil
theorem r_kcons {nm : Option Str} {kp : Pos} {ks : List Keyword} (ha : PE X x (tE G W (evE C a))) (hl : PK X ks (tL G W (evL C l))) : PK X (⟨nm, x, kp⟩ :: ks) (tL G W (evL C (.cons a l))) :=
  pk_imp (pk_cons ha hl) fun σ H Q ⟨m, ρ, S, re, rs, q⟩ => by
    simp only [evL] at q
    refine tX.go re rs q fun d S1 m1 H1 v1 x1 re1 rs1 r1 q1 => ?_
    refine tX.go re1 rs1 q1 fun d2 S2 m2 H2 v2 x2 re2 rs2 r2 q2 => ?_
    exact q2.at_ok rs2 (RepL.cons (Rep.mono x2 _ _ r1) r2)
theorem nil_of {M : Nm} {σ : L2.St} {H : Hp} {Q : List V → Hp → Prop} (hl : chkL M l s es = true) (e : es = []) (h : tL G W (evL C l) σ H Q) : Q [] H := by
  subst e
  cases l with
  | nil =>
    obtain ⟨m, ρ, S, re, rs, q⟩ := h
    simp only [evL] at q
    exact q.at_ok rs RepL.nil
  | cons _ _ => simp [chkL] at hl
/-! #### and, or, not, if -/
theorem r_and {rest : List Expr} (c : Ctx G n X s W) (ha : PE X x (tE G W (evE C a))) (hb : PE X (.BoolOp .And (y :: rest) pos) (tE G W (evE C b))) : PE X (.BoolOp .And (x :: y :: rest) pos) (tE G W (evE C (.and a b))) :=
  pe_imp (pe_andT ha hb) fun σ H Q ⟨m, ρ, S, re, rs, q⟩ => by
    simp only [evE] at q
    refine tX.go re rs q fun d S1 m1 H1 v1 x1 re1 rs1 r1 q1 => ?_
    obtain ⟨k, ek, q2⟩ := q1.at_o
    refine ⟨k, by rw [c.K]; exact tru_of rs1 r1 ek, ?_⟩
    cases k with
    | true => exact ⟨m1, ρ, S1, re1, rs1, q2⟩
    | false => exact q2.at_ok rs1 r1
theorem r_or {rest : List Expr} (c : Ctx G n X s W) (ha : PE X x (tE G W (evE C a))) (hb : PE X (.BoolOp .Or (y :: rest) pos) (tE G W (evE C b))) : PE X (.BoolOp .Or (x :: y :: rest) pos) (tE G W (evE C (.or a b))) :=
  pe_imp (pe_orT ha hb) fun σ H Q ⟨m, ρ, S, re, rs, q⟩ => by
    simp only [evE] at q
    refine tX.go re rs q fun d S1 m1 H1 v1 x1 re1 rs1 r1 q1 => ?_
    obtain ⟨k, ek, q2⟩ := q1.at_o
    refine ⟨k, by rw [c.K]; exact tru_of rs1 r1 ek, ?_⟩
    cases k with
    | false => exact ⟨m1, ρ, S1, re1, rs1, q2⟩
    | true => exact q2.at_ok rs1 r1
theorem r_not (c : Ctx G n X s W) (ha : PE X x (tE G W (evE C a))) : PE X (.UnaryOp .Not x pos) (tE G W (evE C (.not a))) :=
  pe_imp (pe_notT ha) fun σ H Q ⟨m, ρ, S, re, rs, q⟩ => by
    simp only [evE] at q
    refine tX.go re rs q fun d S1 m1 H1 v1 x1 re1 rs1 r1 q1 => ?_
    obtain ⟨k, ek, q2⟩ := q1.at_o
    exact ⟨k, by rw [c.K]; exact tru_of rs1 r1 ek, q2.at_ok rs1 rep_bl⟩
theorem r_ife {cd : Ex} (hc : PT X z (tT G W (evT C cd))) (ha : PE X x (tE G W (evE C a))) (hb : PE X y (tE G W (evE C b))) : PE X (.IfExp z x y pos) (tE G W (evE C (.ife cd a b))) :=
  pe_imp (pe_ifExp hc ha hb) fun σ H Q ⟨m, ρ, S, re, rs, q⟩ => by
    simp only [evE] at q
    refine tX.go re rs q fun k S1 m1 H1 k1 x1 re1 rs1 r1 q1 => ?_
    have e : k = k1 := r1
    subst e
    cases k with
    | true => exact ⟨m1, ρ, S1, re1, rs1, q1⟩
    | false => exact ⟨m1, ρ, S1, re1, rs1, q1⟩
theorem t_and {tb : TT} (ht : ∀ σ H Q, tT G W (evT C b) σ H Q → tb σ H Q) : ∀ σ H Q, tT G W (evT C (.and a b)) σ H Q → tAnd (tT G W (evT C a)) tb σ H Q := fun σ H Q ⟨m, ρ, S, re, rs, q⟩ => by
  simp only [evT] at q
  refine tX.go re rs q fun k S1 m1 H1 k1 x1 re1 rs1 r1 q1 => ?_
  have e : k = k1 := r1
  subst e
  cases k with
  | true => exact ht _ _ _ ⟨m1, ρ, S1, re1, rs1, q1⟩
  | false => exact q1.at_ok rs1 rfl
theorem t_or {tb : TT} (ht : ∀ σ H Q, tT G W (evT C b) σ H Q → tb σ H Q) : ∀ σ H Q, tT G W (evT C (.or a b)) σ H Q → tOr (tT G W (evT C a)) tb σ H Q := fun σ H Q ⟨m, ρ, S, re, rs, q⟩ => by
  simp only [evT] at q
  refine tX.go re rs q fun k S1 m1 H1 k1 x1 re1 rs1 r1 q1 => ?_
  have e : k = k1 := r1
  subst e
  cases k with
  | false => exact ht _ _ _ ⟨m1, ρ, S1, re1, rs1, q1⟩
  | true => exact q1.at_ok rs1 rfl
theorem r_notT (ha : PT X x (tT G W (evT C a))) : PT X (.UnaryOp .Not x pos) (tT G W (evT C (.not a))) :=
  pt_imp (pt_not ha) fun σ H Q ⟨m, ρ, S, re, rs, q⟩ => by
    simp only [evT] at q
    refine tX.go re rs q fun k S1 m1 H1 k1 x1 re1 rs1 r1 q1 => ?_
    have e : k = k1 := r1
    subst e
    exact q1.at_ok rs1 rfl
/-- an expression as a test: its value's truth -/
theorem r_truth (c : Ctx G n X s W) {ev : Fr → Store → Rs D} {evt : Fr → Store → Rs Bool} (ha : PE X x (tE G W ev)) (he : ∀ ρ S, evt ρ S = (ev ρ S).th fun d S1 => ofO (truD d S1) S1)
    (hw : ∀ whole : Sem Value, isTrue x X.env whole = (do let v ← whole; standAt x.pos; holding [v] (truthy v))) : PT X x (tT G W evt) :=
  pt_imp (pt_truth ha hw) fun σ H Q ⟨m, ρ, S, re, rs, q⟩ => by
    rw [he] at q
    refine tX.go re rs q fun d S1 m1 H1 v1 x1 re1 rs1 r1 q1 => ?_
    obtain ⟨k, ek, q2⟩ := q1.at_oe
    exact ⟨k, by rw [c.K]; exact tru_of rs1 r1 ek, q2.at_ok rs1 rfl⟩
/-! #### displays, places, slices, fields -/
theorem fin_len {σ : L2.St} {m : List Addr} {H : Hp} {S : Store} {d : D} {l : List D} {Q : VK} {I : Prop} (h : I) : I := h
theorem r_tup {k : Nat} (hl : PA X es (tL G W (evL C l))) (hz : es.length ≤ sizeLine) (hn : ∀ {σ H Q}, tL G W (evL C l) σ H Q → tL G W (evL C l) σ H fun xs H' => xs.length = es.length ∧ Q xs H') : PE X (.Tuple es k pos) (tE G W (evE C (.tup l))) :=
  pe_imp (pe_tup (pa_imp hl fun σ H Q q => q)) fun σ H Q ⟨m, ρ, S, re, rs, q⟩ => by
    simp only [evE] at q
    have q0 : tL G W (evL C l) σ H fun xs H1 => ∀ p, H1 p = none → Q (.ref p) (upd H1 p (.tup xs)) := tX.go re rs q fun ds S1 m1 H1 vs x1 re1 rs1 r1 q1 => fun p hp => fin_tup rs1 r1 hp (q1.toV (by intro _ _ _ h; cases h))
    obtain ⟨m, ρ, S, re, rs, q1⟩ := hn q0
    exact ⟨m, ρ, S, re, rs, q1.imp fun _ _ _ _ v _ _ _ w => ⟨by rw [w.1]; exact hz, w.2⟩⟩
theorem r_lst {k : Bool} (hl : PA X es (tL G W (evL C l))) (hz : es.length ≤ sizeLine) (hn : ∀ {σ H Q}, tL G W (evL C l) σ H Q → tL G W (evL C l) σ H fun xs H' => xs.length = es.length ∧ Q xs H') : PE X (.List es pos) (tE G W (evE C (.lst k l))) :=
  pe_imp (pe_lst (pa_imp hl fun σ H Q q => q)) fun σ H Q ⟨m, ρ, S, re, rs, q⟩ => by
    simp only [evE] at q
    have q0 : tL G W (evL C l) σ H fun xs H1 => ∀ p, H1 p = none → Q (.ref p) (upd H1 p (.lst xs)) := tX.go re rs q fun ds S1 m1 H1 vs x1 re1 rs1 r1 q1 => fun p hp => fin_mk rs1 r1 hp (q1.toV (noEx_mkL _ _ _))
    obtain ⟨m, ρ, S, re, rs, q1⟩ := hn q0
    exact ⟨m, ρ, S, re, rs, q1.imp fun _ _ _ _ v _ _ _ w => ⟨by rw [w.1]; exact hz, w.2⟩⟩
/-- as many values as expressions -/
def lenX : Exs → Nat
  | .nil => 0
  | .cons _ l => lenX l + 1
theorem evL_len : ∀ (l : Exs) {ρ : Fr} {S S' : Store} {ds : List D}, evL C l ρ S = .ok ds S' → ds.length = lenX l
  | .nil, ρ, S, S', ds, h => by
    simp only [evL] at h
    cases h; rfl
  | .cons e l, ρ, S, S', ds, h => by
    simp only [evL] at h
    cases h1 : evE C e ρ S with
    | ok d S1 =>
      rw [h1, th_ok] at h
      cases h2 : evL C l ρ S1 with
      | ok ds2 S2 =>
        rw [h2, th_ok] at h
        cases h
        simp only [List.length_cons, evL_len l h2, lenX]
      | ex _ _ _ => rw [h2] at h; cases h
      | bad => rw [h2] at h; cases h
    | ex _ _ _ => rw [h1] at h; cases h
    | bad => rw [h1] at h; cases h
theorem chkL_len {M : Nm} : ∀ (l : Exs) (es : List Expr), chkL M l s es = true → lenX l = es.length
  | .nil, es, h => by
    simp only [chkL, List.isEmpty_iff] at h
    rw [h]; rfl
  | .cons e l, es, h => by
    simp only [chkL] at h
    split at h
    · simp only [Bool.and_eq_true] at h
      simp only [lenX, List.length_cons, chkL_len l _ h.2]
    · cases h
theorem len_of {M : Nm} (h : chkL M l s es = true) {σ : L2.St} {H : Hp} {Q : List V → Hp → Prop} : tL G W (evL C l) σ H Q → tL G W (evL C l) σ H fun xs H' => xs.length = es.length ∧ Q xs H' := fun ⟨m, ρ, S, re, rs, q⟩ => by
  refine ⟨m, ρ, S, re, rs, ?_⟩
  cases e : evL C l ρ S with
  | ok ds S' =>
    rw [e] at q
    intro m' H' vs x rs' r
    exact ⟨by rw [← r.length, evL_len l e, chkL_len l es h], q m' H' vs x rs' r⟩
  | ex _ _ _ => rw [e] at q; exact q
  | bad => rw [e] at q; exact q
theorem r_idx (c : Ctx G n X s W) (ha : PE X x (tE G W (evE C a))) (hb : PE X y (tE G W (evE C b))) (hy : notSlice y = true) : PE X (.Subscript x y pos) (tE G W (evE C (.idx a b))) :=
  pe_imp (pe_ix (op_idx (G := G) c.K) ha hb (ix_of hy)) fun σ H Q ⟨m, ρ, S, re, rs, q⟩ => by
    simp only [evE] at q
    refine tX.go re rs q fun d S1 m1 H1 v1 x1 re1 rs1 r1 q1 => ?_
    refine tX.go re1 rs1 q1 fun d2 S2 m2 H2 v2 x2 re2 rs2 r2 q2 => ?_
    exact ⟨m2, S2, d, d2, rs2, Rep.mono x2 _ _ r1, r2, q2.toV (noEx_ofO _ _)⟩
theorem r_no : PO X none (tI G W (evI C .no)) := po_imp po_none fun σ H Q ⟨m, ρ, S, re, rs, q⟩ => by
  simp only [evI] at q
  exact q.at_ok rs rfl
theorem r_yes (ha : PE X x (tE G W (evE C a))) : PO X (some x) (tI G W (evI C (.yes a))) := po_imp (po_some ha) fun σ H Q ⟨m, ρ, S, re, rs, q⟩ => by
  simp only [evI] at q
  refine tX.go re rs q fun d S1 m1 H1 v1 x1 re1 rs1 r1 q1 => ?_
  split at q1
  · exact ⟨_, r1.int_inv, q1.at_ok rs1 rfl⟩
  · exact q1.elim
theorem r_slc (c : Ctx G n X s W) {k : Bool} {lo hi : Exo} {ol oh : Option Expr} {p2 : Pos} (ha : PE X x (tE G W (evE C a))) (hl : PO X ol (tI G W (evI C lo))) (hh : PO X oh (tI G W (evI C hi))) : PE X (.Subscript x (.Slice ol oh none p2) pos) (tE G W (evE C (.slc k a lo hi))) :=
  pe_imp (pe_slice (op_slc (G := G) c.K k) ha hl hh) fun σ H Q ⟨m, ρ, S, re, rs, q⟩ => by
    simp only [evE] at q
    refine tX.go re rs q fun d S1 m1 H1 v1 x1 re1 rs1 r1 q1 => ?_
    refine tX.go re1 rs1 q1 fun o2 S2 m2 H2 v2 x2 re2 rs2 r2 q2 => ?_
    refine tX.go re2 rs2 q2 fun o3 S3 m3 H3 v3 x3 re3 rs3 r3 q3 => ?_
    have e2 : o2 = v2 := r2
    have e3 : o3 = v3 := r3
    subst e2 e3
    refine ⟨m3, S3, d, rs3, Rep.mono (x2.trans x3) _ _ r1, fun t et => ?_, q3.toV (noEx_slc _ _ _ _ _)⟩
    subst et
    simp only [slcD] at q3
    split at q3
    · assumption
    · exact q3.elim
end
end Ev
end
section
set_option maxRecDepth 100000
set_option maxHeartbeats 4000000
/-! Ev, part 11: fields, calls, new instances. -/
namespace Ev
open PySem PySem.Spec PyProof.Rows L2
section
variable {G : Pg}
theorem att_inj (hd : Hd G) {f g : Nat} (h : G.att f = G.att g) : f = g := by
  have out : ∀ (k : Nat) (x : Str), G.M.atts[k]? = some x → x.length < 1000 := fun k x e => hd.atl x (List.mem_of_getElem? e)
  have big : ∀ k : Nat, (⟨Array.replicate (1000 + k) 0⟩ : Str).length = 1000 + k := fun k => by
    show (Array.replicate (1000 + k) 0).size = _
    simp
  unfold Pg.att at h
  cases e1 : G.M.atts[f]? with
  | none =>
    rw [e1] at h
    cases e2 : G.M.atts[g]? with
    | none =>
      rw [e2] at h
      have := congrArg Str.length h
      simp only [big] at this
      omega
    | some y =>
      rw [e2] at h
      have h1 := out _ _ e2
      have h : (⟨Array.replicate (1000 + f) 0⟩ : Str) = y := h
      rw [← h, big] at h1
      omega
  | some x =>
    rw [e1] at h
    cases e2 : G.M.atts[g]? with
    | none =>
      rw [e2] at h
      have h1 := out _ _ e1
      have h : x = (⟨Array.replicate (1000 + g) 0⟩ : Str) := h
      rw [h, big] at h1
      omega
    | some y =>
      rw [e2] at h
      have h : x = y := h
      subst h
      obtain ⟨l1, q1⟩ := List.getElem?_eq_some_iff.mp e1
      obtain ⟨l2, q2⟩ := List.getElem?_eq_some_iff.mp e2
      exact (List.getElem_inj hd.atn).mp (q1.trans q2.symm)
theorem att_of {f : Nat} {x : Str} (h : G.M.atts[f]? = some x) : G.att f = x := by
  unfold Pg.att
  rw [h]
theorem look_zip (hd : Hd G) {f : Nat} {m : List Addr} {H : Hp} : ∀ {ks : List Nat} {ds : List D} {vs : List V} {d : D}, RepL G m H ds vs → lookN f (ks.zip ds) = some d → ∃ v, ((ks.map G.att).zip vs).lookup (G.att f) = some v ∧ Rep G m H d v
  | [], _, _, _, _, h => by simp [lookN] at h
  | k :: ks, [], _, _, _, h => by simp [lookN] at h
  | k :: ks, d :: ds, _, e, r, h => by
    simp only [RepL] at r
    obtain ⟨v, vs, rfl, r1, r2⟩ := r
    simp only [List.zip_cons_cons, lookN] at h
    simp only [List.map_cons, List.zip_cons_cons, List.lookup_cons]
    by_cases hk : k = f
    · subst hk
      rw [if_pos rfl] at h
      cases h
      exact ⟨v, by simp, r1⟩
    · rw [if_neg hk] at h
      have hne : (G.att f == G.att k) = false := by
        rw [beq_eq_false_iff_ne]
        exact fun z => hk (att_inj hd z).symm
      rw [hne]
      exact look_zip hd r2 h
theorem look_fs (hd : Hd G) {f : Nat} {m : List Addr} {H : Hp} {fs : List (Nat × D)} {vs : List V} {d : D} (r : RepL G m H (fs.map (·.2)) vs) (h : lookN f fs = some d) : ∃ v, ((fs.map fun g => G.att g.1).zip vs).lookup (G.att f) = some v ∧ Rep G m H d v := by
  have e : fs = (fs.map (·.1)).zip (fs.map (·.2)) := by
    clear h r
    induction fs with
    | nil => rfl
    | cons a l ih =>
      simp only [List.map_cons, List.zip_cons_cons]
      rw [← ih]
  rw [e] at h
  have := look_zip hd r h
  rw [List.map_map] at this
  exact this
theorem look_none (hd : Hd G) {f : Nat} : ∀ {ks : List Nat} {vs : List V}, ks.contains f = false → ((ks.map G.att).zip vs).lookup (G.att f) = none
  | [], _, _ => by simp
  | k :: ks, [], _ => by simp
  | k :: ks, v :: vs, h => by
    simp only [List.contains_cons, Bool.or_eq_false_iff, beq_eq_false_iff_ne] at h
    simp only [List.map_cons, List.zip_cons_cons, List.lookup_cons]
    have hne : (G.att f == G.att k) = false := by
      rw [beq_eq_false_iff_ne]
      exact fun z => h.1 (att_inj hd z)
    rw [hne]
    exact look_none hd h.2
end
section
variable {G : Pg} {n : Nat} {X : Cx} {s : Sx} {W : WX} {C : Cs} {e x y z : Expr} {p pos apos : Pos} {a b : Ex} {es : List Expr} {l l2 : Exs}
theorem mem_look {f : Nat} : ∀ {ks : List Nat} {ds : List D} {d : D}, lookN f (ks.zip ds) = some d → ks.contains f = true
  | [], _, _, h => by simp [lookN] at h
  | k :: ks, [], _, h => by simp [lookN] at h
  | k :: ks, d :: ds, e, h => by
    simp only [List.zip_cons_cons, lookN] at h
    simp only [List.contains_cons, Bool.or_eq_true, beq_iff_eq]
    by_cases hk : k = f
    · exact .inl hk.symm
    · rw [if_neg hk] at h
      exact .inr (mem_look h)
theorem cls_lt {c f : Nat} {T : Tb} (h : (fldsOf T c).contains f = true) : c < T.cls.length := by
  unfold fldsOf at h
  split at h
  · rename_i e
    exact (List.getElem?_eq_some_iff.mp e).1
  · simp at h
theorem r_att (hd : Hd G) (c : Ctx G n X s W) (hT : C.T = G.T) {f : Nat} {nm : Str} (hn : G.M.atts[f]? = some nm) (ha : PE X x (tE G W (evE C a))) (hs : noSup x = true) : PE X (.Attribute x nm pos) (tE G W (evE C (.att a f))) := by
  rw [← att_of hn]
  refine pe_imp (pe_fld ha (base_of hs)) fun σ H Q ⟨m, ρ, S, re, rs, q⟩ => ?_
  simp only [evE] at q
  refine tX.go re rs q fun d S1 m1 H1 v1 x1 re1 rs1 r1 q1 => ?_
  obtain ⟨u, eu, q2⟩ := q1.at_oe
  rw [hT] at eu
  rw [c.K]
  unfold attD at eu
  split at eu
  · rename_i k l
    have hk := mem_look eu
    obtain ⟨A, vs, rfl, ⟨_, dx, hA⟩, r⟩ := r1.obj_inv
    obtain ⟨w, hw, rw_⟩ := look_zip hd r eu
    exact ⟨A, _, dx, _, w, rfl, hA, (hd.cls k (cls_lt hk)).cls, hd.na k f hk, hw, q2.at_ok rs1 rw_⟩
  · rename_i i
    split at eu
    · rename_i k fs es
      split at eu
      · rename_i hk
        obtain ⟨A, rfl, hA⟩ := r1.ref_inv
        obtain ⟨A', hA', dx, vs, hv, r⟩ := rs1.cel _ _ es
        rw [hA] at hA'; cases hA'
        obtain ⟨w, hw, rw_⟩ := look_fs hd r eu
        exact ⟨A, _, dx, _, w, rfl, hv, (hd.cls k (cls_lt hk)).cls, hd.na k f hk, hw, q2.at_ok rs1 rw_⟩
      · cases eu
    · cases eu
  · cases eu
/-! #### calls -/
theorem r_call (hd : Hd G) (np : NpOk G) (c : Ctx G n X s W) (hC : C = csOf G.T n) {f : Nat} {nm : Str} (hg : gloB s nm = true) (hn : G.M.fns[f]? = some nm) (hl : chkL G.M l s es = true) (ha : PA X es (tL G W (evL C l))) (hf : f < G.T.fns.length) (hh : hF G.M s f = true) :
    PE X (.Call (.Name nm p) es [] pos) (tE G W (evE C (.call f l))) := by
  obtain ⟨g1, g2, g3, g4, g5⟩ := c.glo hg
  obtain ⟨f1, f2⟩ := hd.fn f nm hn g5
  refine pe_imp (pe_anyc (r := fun vs zs σ H Q => ∃ m S ds, zs = [] ∧ RS G m H S ∧ RepL G m H ds vs ∧ Fin G W σ (Rep G) m H (run G.T n f ds S) fun _ _ _ H' v => Q v H') g1 (by rw [c.mg]; exact f1) (by rw [c.K]; exact f2) g2 (chkL_star _ _ _ hl) rfl ha (fun e σ H Q q => nil_of hl e q) pk_nil ?_) fun σ H Q ⟨m, ρ, S, re, rs, q⟩ => ?_
  · rintro pins st σ H vs zs us ws Q I rv rz ⟨m, S, ds, rfl, rs, r, q⟩
    cases rz
    have hb : run G.T n f ds S ≠ .bad := fun e => by rw [e] at q; exact q.elim
    obtain ⟨F, eF, hlF⟩ := run_len hb
    have hz : us.length = (G.ps f).length := by rw [np f F eF, ← hlF, r.length, rv.length]
    have b := hd.pos f hf st us (by rw [← c.K]; exact I.kIn) (by rw [app_nil]; exact hz)
    rw [app_nil] at b
    exact run_any np c hh hf b I rv rs r q
  · rw [hC] at q ⊢
    simp only [evE, csOf_fn] at q
    refine tX.go re rs q fun ds S1 m1 H1 vs x1 re1 rs1 r1 q1 => ?_
    exact ⟨m1, S1, ds, rfl, rs1, r1, q1⟩
theorem r_calk (hd : Hd G) (np : NpOk G) (c : Ctx G n X s W) (hC : C = csOf G.T n) {f : Nat} {nm : Str} {qs : List Keyword} {pm : List Nat} (hg : gloB s nm = true) (hn : G.M.fns[f]? = some nm) (hl : chkL G.M l s es = true) (ha : PA X es (tL G W (evL C l)))
    (hq : kwAll qs = true) (hk : PK X qs (tL G W (evL C l2))) (hk2 : chkL G.M l2 s (kwE qs) = true) (hm : (f, es.length, kwN qs, pm) ∈ G.M.kws) (hh : hF G.M s f = true) : PE X (.Call (.Name nm p) es qs pos) (tE G W (evE C (.calk f l l2 pm))) := by
  obtain ⟨g1, g2, g3, g4, g5⟩ := c.glo hg
  obtain ⟨f1, f2⟩ := hd.fn f nm hn g5
  obtain ⟨hf, kw⟩ := hd.kw _ _ _ _ hm
  refine pe_imp (pe_anyc (r := fun vs zs σ H Q => ∃ m S ds ks ws, vs.length = es.length ∧ zs.length = (kwN qs).length ∧ RS G m H S ∧ RepL G m H (ds ++ ks) (vs ++ zs) ∧ pick (ds ++ ks) pm = some ws ∧ Fin G W σ (Rep G) m H (run G.T n f ws S) fun _ _ _ H' v => Q v H') g1 (by rw [c.mg]; exact f1) (by rw [c.K]; exact f2) g2 (chkL_star _ _ _ hl) hq ha (fun e σ H Q q => nil_of hl e q) hk ?_) fun σ H Q h => ?_
  · rintro pins st σ H vs zs us ws Q I rv rz ⟨m, S, ds, ks, xs, l1, l2, rs, r, ep, q⟩
    obtain ⟨xv, ex, rx⟩ := r.pick pm ep
    obtain ⟨xu, eu, ru⟩ := vals_pick (rv.append rz) pm ex
    obtain ⟨xu', eu', b⟩ := kw st us ws (by rw [← c.K]; exact I.kIn) (by rw [← rv.length]; exact l1) (by rw [← rz.length]; exact l2)
    rw [eu] at eu'; cases eu'
    exact run_any np c hh hf b I ru rs rx q
  · rw [hC] at h ⊢
    obtain ⟨m, ρ, S, re, rs, q⟩ := h
    simp only [evE, csOf_fn] at q
    refine tX.goe re rs q fun ds S1 m1 H1 vs e1 x1 re1 rs1 r1 q1 => ?_
    refine tX.goe re1 rs1 q1 fun zs S2 m2 H2 us e2 x2 re2 rs2 r2 q2 => ?_
    obtain ⟨ws, ep, q3⟩ := q2.at_o
    exact ⟨m2, S2, ds, zs, ws, by rw [← r1.length, evL_len l e1, chkL_len l es hl], by rw [← r2.length, evL_len l2 e2, chkL_len l2 _ hk2, kwN_length], rs2, (RepL.mono x2 _ _ r1).append r2, ep, q3⟩
/-! #### new instances -/
/-- the instance laid, its __init__ run, its end as the evaluator says -/
theorem mak_fin {T : Tb} {fn1 : Nat → List D → Store → Rs D} (hT : T = G.T) {σ : L2.St} {m : List Addr} {H : Hp} {S : Store} {q : Addr} {dx : Addr} {k i : Nat} {Cc : Cl} {f : Bool} {ds : List D} {vs : List V} {Q : VK} (rs : RS G m H S) (r : RepL G m H ds vs) (hc : G.T.cls[k]? = some Cc) (hi : Cc.init = some i)
    (hq : H q = none) (hx : H dx = none) (ne : dx ≠ q) (h : Fin G W σ (Rep G) m H (makD T fn1 f k ds S) fun _ _ _ H' v => Q v H') :
    RS G (m ++ [q]) (upd (upd H dx (.own q)) q (.ins (G.ca k) dx [])) (S ++ [.ins k []]) ∧ RepL G (m ++ [q]) (upd (upd H dx (.own q)) q (.ins (G.ca k) dx [])) (.ref S.length :: ds) (.ref q :: vs) ∧
      Fin G W σ (Rep G) (m ++ [q]) (upd (upd H dx (.own q)) q (.ins (G.ca k) dx [])) (fn1 i (.ref S.length :: ds) (S ++ [.ins k []])) fun _ _ _ H' v => v = .non ∧ Q (.ref q) H' := by
  subst hT
  have x1 : Ext m H m (upd H dx (.own q)) := Ext.new hx
  have rs1 : RS G m (upd H dx (.own q)) S := rs.new hx
  have hq1 : upd H dx (.own q) q = none := by rw [upd_ne (Ne.symm ne)]; exact hq
  have x2 : Ext m (upd H dx (.own q)) (m ++ [q]) (upd (upd H dx (.own q)) q (.ins (G.ca k) dx [])) := Ext.cell hq1
  have rs2 : RS G (m ++ [q]) (upd (upd H dx (.own q)) q (.ins (G.ca k) dx [])) (S ++ [.ins k []]) := rs1.cell hq1 ⟨dx, [], by simp only [List.map_nil, List.zip_nil_left]; exact upd_same, by simp only [List.map_nil]; exact RepL.nil⟩
  have x3 := x1.trans x2
  have hm : (m ++ [q])[S.length]? = some q := by rw [← rs.len]; simp
  have hqm : q ∉ m := rs.fresh hq
  refine ⟨rs2, RepL.cons (rep_ref hm) (RepL.mono x3 _ _ r), ?_⟩
  unfold makD at h
  rw [hc] at h
  simp only [hi] at h
  generalize fn1 i (.ref S.length :: ds) (S ++ [.ins k []]) = R at h ⊢
  cases R with
  | bad => exact h
  | ex c l S' =>
    intro m' H' d xx rs' xr
    simp only at h
    split at h
    · rename_i hb
      rw [Bool.and_eq_true] at hb
      obtain ⟨rs4, x4⟩ := rs'.drop (x3.trans xx) rs hb.1
      obtain ⟨us, hd1, ru, hl⟩ := xr
      exact h m H' d x4 rs4 ⟨us, hd1, RepL.less (x3.trans xx).pre _ _ (by rw [rs.len]; exact hb.2) ru, hl⟩
    · exact h m' H' d (x3.trans xx) rs' xr
  | ok d S' =>
    cases d with
    | non =>
      intro m' H' v xx rs' rv
      refine ⟨rv.non_inv, ?_⟩
      simp only at h
      split at h
      · exact h m' H' _ (x3.trans xx) rs' (rep_ref (pre_get xx.pre hm))
      · split at h
        · rename_i c' fs es
          split at h
          · rename_i hb
            obtain ⟨e1, e2, e3, e4⟩ := hb
            subst e1
            obtain ⟨rs4, x4⟩ := rs'.drop (x3.trans xx) rs e4
            obtain ⟨p', hp', dx', us, hv, ru⟩ := rs'.cel _ _ es
            have ep : p' = q := by
              have := pre_get xx.pre hm
              rw [this] at hp'
              exact (Option.some.inj hp').symm
            subst ep
            refine h m H' _ x4 rs4 (rep_obj ⟨hqm, dx', ?_⟩ (RepL.less (x3.trans xx).pre _ _ (by rw [rs.len]; exact e3) ru))
            rw [hv]
            unfold namesOf fldsOf
            rw [hc]
            simp only
            rw [← e2, List.map_map]
            rfl
          · exact h.elim
        · exact h.elim
    | _ => exact h.elim
theorem run_mk (np : NpOk G) (hd : Hd G) (c : Ctx G (n + 1) X s W) (hcm : s.hot = false) {pins : List (Addr × Obj)} {σ : L2.St} {m : List Addr} {H : Hp} {S : Store} {st : Shared} {k i : Nat} {Cc : Cl} {f : Bool} {ds : List D} {vs : List V} {us zs : List Value} {kw : List (Str × Value)} {Q : VK} (I : L2.Inv X pins σ H st) (rs : RS G m H S) (r : RepL G m H ds vs) (hc : G.T.cls[k]? = some Cc) (hi : Cc.init = some i)
    (rv : Vals vs zs) (b : ∀ (st' : Shared) (z : Value), G.K.In st'.heap → BindsTo st' (G.fd i) ⟨z :: us, kw⟩ ((G.ps i).zip (z :: zs)))
    (h : Fin G W σ (Rep G) m H (makD G.T (run G.T n) f k ds S) fun _ _ _ H' v => Q v H') : wpAny (model X.prog X.w) X.A (call (.ref (G.ca k)) us kw) (EP X pins σ Q) X.xe st := by
  obtain ⟨hf, M⟩ := hd.mak k Cc i hc hi
  rw [← c.K] at M
  obtain ⟨rs2, r2, h2⟩ := mak_fin (q := st.heap.objs.size + 1) (dx := st.heap.objs.size) rfl rs r hc hi (I.hok.fresh (Nat.le_succ _)) (I.hok.fresh (Nat.le_refl _)) (Nat.ne_of_lt (Nat.lt_succ_self _)) h
  have I2 := Inv.made (C := G.ca k) I
  have F := (c.cm hcm).2.2.2 n rfl i hf
  rw [← c.prog, ← c.w, ← c.K, ← c.mg, ← c.base] at F
  have px := c.pass σ
  rw [← c.prog, ← c.w] at px
  have rz : Vals (V.ref (st.heap.objs.size + 1) :: vs) (Value.ref (st.heap.objs.size + 1) :: zs) := .cons rfl rv
  refine wpAny_call (make_map (f := G.fa i) I.kIn M.makes M.init (beq_iff_eq.mp M.fn) (codeAny_mono (F.run _ X.stack _ _ ⟨Value.ref (st.heap.objs.size + 1) :: us, kw⟩ _ _ _ (WE W σ) ((c.cm hcm).2.1.make (G.ca k) us kw) (I2.env0.make (G.ca k) us kw) (b _ _ (by rw [← c.K]; exact I2.kIn)) rz (spF_of np rs2 r2 h2)) fun q s' hq => ?_))
  cases q with
  | error e => exact px pins _ _ e s' I2 hq
  | ok fl =>
    cases fl with
    | ret u =>
      obtain ⟨v, H', I3, ru, ev, q3⟩ := I2.after hq
      subst ev
      exact ⟨ru, ⟨V.ref (st.heap.objs.size + 1), H', I3, rfl, q3⟩⟩
    | next => exact False.elim hq
    | brk => exact False.elim hq
    | cont => exact False.elim hq
theorem mak_zero {T : Tb} {k : Nat} {f : Bool} {ds : List D} {S : Store} : makD (csOf T 0).T (csOf T 0).fn1 f k ds S = .bad := by
  unfold makD
  split
  · split
    · rfl
    · rfl
  · rfl
theorem Ctx.bind (c : Ctx G n X s W) (hd : Hd G) (np : NpOk G) {i : Nat} (hi : i < G.T.fns.length) {us : List Value} {st : Shared} (hl : us.length = (G.ps i).length) (hK : G.K.In st.heap) : BindsTo st (G.fd i) ⟨us, []⟩ ((G.ps i).zip us) := by
  have b := hd.pos i hi st us hK (by rw [app_nil]; exact hl)
  rw [app_nil] at b
  exact b
theorem makD_len (np : NpOk G) {f : Bool} {k i : Nat} {Cc : Cl} {ds : List D} {S : Store} (hc : G.T.cls[k]? = some Cc) (hi : Cc.init = some i) (h : makD G.T (run G.T n) f k ds S ≠ .bad) : ds.length + 1 = (G.ps i).length := by
  have hb : run G.T n i (.ref S.length :: ds) (S ++ [.ins k []]) ≠ .bad := fun e => h (by
    unfold makD
    rw [hc]
    simp only [hi]
    rw [e])
  obtain ⟨F, eF, hF⟩ := run_len hb
  rw [np i F eF, ← hF]; rfl
theorem r_mak (hd : Hd G) (np : NpOk G) (c : Ctx G n X s W) (hcm : s.hot = false) (hC : C = csOf G.T n) {k : Nat} {f : Bool} {nm : Str} (hg : gloB s nm = true) (hn : G.M.cls[k]? = some nm) (hl : chkL G.M l s es = true) (ha : PA X es (tL G W (evL C l))) :
    PE X (.Call (.Name nm p) es [] pos) (tE G W (evE C (.mak f k l))) := by
  obtain ⟨g1, g2, g3, g4, g5⟩ := c.glo hg
  obtain ⟨hk, f1⟩ := hd.cmg k nm hn
  obtain ⟨Cc, hc⟩ : ∃ Cc, G.T.cls[k]? = some Cc := ⟨_, List.getElem?_eq_getElem hk⟩
  obtain ⟨i, hi⟩ := hd.ini k Cc hc
  obtain ⟨hf, M⟩ := hd.mak k Cc i hc hi
  refine pe_imp (pe_anyc (r := fun vs zs σ H Q => ∃ m S ds, zs = [] ∧ RS G m H S ∧ RepL G m H ds vs ∧ Fin G W σ (Rep G) m H (makD C.T C.fn1 f k ds S) fun _ _ _ H' v => Q v H') g1 (by rw [c.mg]; exact f1) (by rw [c.K]; exact M.kp) g2 (chkL_star _ _ _ hl) rfl ha (fun e σ H Q q => nil_of hl e q) pk_nil ?_) fun σ H Q ⟨m, ρ, S, re, rs, q⟩ => ?_
  · rintro pins st σ H vs zs us ws Q I rv rz ⟨m, S, ds, rfl, rs, r, q⟩
    cases rz
    rw [hC] at q
    cases n with
    | zero => rw [mak_zero] at q; exact q.elim
    | succ n =>
      rw [csOf_T, csOf_fn1] at q
      have hb : makD G.T (run G.T n) f k ds S ≠ .bad := fun e => by rw [e] at q; exact q.elim
      have hz := makD_len np hc hi hb
      exact run_mk np hd c hcm I rs r hc hi rv (fun st' z hK => c.bind hd np hf (by simp only [List.length_cons]; rw [← rv.length, ← r.length]; exact hz) hK) q
  · simp only [evE] at q
    refine tX.go re rs q fun ds S1 m1 H1 vs x1 re1 rs1 r1 q1 => ?_
    exact ⟨m1, S1, ds, rfl, rs1, r1, q1⟩
theorem r_makk (hd : Hd G) (np : NpOk G) (c : Ctx G n X s W) (hcm : s.hot = false) (hC : C = csOf G.T n) {k : Nat} {f : Bool} {nm : Str} {qs : List Keyword} {pm : List Nat} (hg : gloB s nm = true) (hn : G.M.cls[k]? = some nm) (hl : chkL G.M l s es = true) (ha : PA X es (tL G W (evL C l)))
    (hq : kwAll qs = true) (hkw : PK X qs (tL G W (evL C l2))) (hk2 : chkL G.M l2 s (kwE qs) = true) (hm : (k, es.length, kwN qs, pm) ∈ G.M.ckw) : PE X (.Call (.Name nm p) es qs pos) (tE G W (evE C (.makk f k l l2 pm))) := by
  obtain ⟨g1, g2, g3, g4, g5⟩ := c.glo hg
  obtain ⟨hk, f1⟩ := hd.cmg k nm hn
  obtain ⟨Cc, hc⟩ : ∃ Cc, G.T.cls[k]? = some Cc := ⟨_, List.getElem?_eq_getElem hk⟩
  obtain ⟨i, hi⟩ := hd.ini k Cc hc
  obtain ⟨hf, M⟩ := hd.mak k Cc i hc hi
  have kw := hd.ckw _ _ _ _ _ _ hm hc hi
  refine pe_imp (pe_anyc (r := fun vs zs σ H Q => ∃ m S ds ks ws, vs.length = es.length ∧ zs.length = (kwN qs).length ∧ RS G m H S ∧ RepL G m H (ds ++ ks) (vs ++ zs) ∧ pick (ds ++ ks) pm = some ws ∧ Fin G W σ (Rep G) m H (makD C.T C.fn1 f k ws S) fun _ _ _ H' v => Q v H') g1 (by rw [c.mg]; exact f1) (by rw [c.K]; exact M.kp) g2 (chkL_star _ _ _ hl) hq ha (fun e σ H Q q => nil_of hl e q) hkw ?_) fun σ H Q h => ?_
  · rintro pins st σ H vs zs us ws Q I rv rz ⟨m, S, ds, ks, xs, l1, l2, rs, r, ep, q⟩
    obtain ⟨xv, ex, rx⟩ := r.pick pm ep
    obtain ⟨xu, eu, ru⟩ := vals_pick (rv.append rz) pm ex
    rw [hC] at q
    cases n with
    | zero => rw [mak_zero] at q; exact q.elim
    | succ n =>
      rw [csOf_T, csOf_fn1] at q
      refine run_mk np hd c hcm I rs rx hc hi ru (fun st' z hK => ?_) q
      obtain ⟨xu', eu', b⟩ := kw st' z us ws hK (by rw [← rv.length]; exact l1) (by rw [← rz.length]; exact l2)
      rw [eu] at eu'; cases eu'
      exact b
  · obtain ⟨m, ρ, S, re, rs, q⟩ := h
    simp only [evE] at q
    refine tX.goe re rs q fun ds S1 m1 H1 vs e1 x1 re1 rs1 r1 q1 => ?_
    refine tX.goe re1 rs1 q1 fun zs S2 m2 H2 us e2 x2 re2 rs2 r2 q2 => ?_
    obtain ⟨ws, ep, q3⟩ := q2.at_o
    exact ⟨m2, S2, ds, zs, ws, by rw [← r1.length, evL_len l e1, chkL_len l es hl], by rw [← r2.length, evL_len l2 e2, chkL_len l2 _ hk2, kwN_length], rs2, (RepL.mono x2 _ _ r1).append r2, ep, q3⟩
/-! #### o.m(..) -/
theorem meth_tree {o : Expr} {nm : Str} {env : Env} (hb : noSup o = true) (hst : es.all noStar = true) (hl : es.length < 20) (hp : (apos.endLine == pos.line) = true) :
    ∃ pl, eval (.Call (.Attribute o nm apos) es [] pos) env = (do
      let ov ← eval o env
      standAt apos.atName
      let (f, first) ← holding [ov] (getMethod ov nm pl)
      callWith pos f first (backTo pos (starEach es env)) (backToKw pos (keywordEach [] env))) := by
  refine ⟨(do return (← importBound o env).getD true), mcall_of (base_of hb) fun ov => ?_⟩
  have hall : (backTo pos (starEach es env)).all (fun x => !x.1) = true := by
    have h := any_star (env := env) (pos := pos) hst
    generalize backTo pos (starEach es env) = l at h
    induction l with
    | nil => rfl
    | cons a l ih =>
      simp only [List.any_cons, Bool.or_eq_false_iff] at h
      simp only [List.all_cons, Bool.and_eq_true, Bool.not_eq_true']
      exact ⟨h.1, ih h.2⟩
  have hform : methodCallForm (es.length + ([] : List Keyword).length) (backTo pos (starEach es env)) (backToKw pos (keywordEach [] env)) = true := by
    unfold methodCallForm
    rw [hall]
    have : (backToKw pos (keywordEach [] env)) = [] := rfl
    rw [this]
    simp only [List.all_nil, Bool.true_and, List.isEmpty_nil, if_true, List.length_nil, Nat.add_zero, decide_eq_true_eq]
    omega
  unfold methodCall
  rw [hform]
  unfold methodCallPos calleeOf
  simp only [hp, Bool.not_true, Bool.false_or, if_true, pure_bind]
end
end Ev
end
section
set_option maxRecDepth 100000
set_option maxHeartbeats 4000000
/-! Ev, part 12: methods, built-ins, isinstance. -/
namespace Ev
open PySem PySem.Spec PyProof.Rows L2
section
variable {G : Pg} {n : Nat} {X : Cx} {s : Sx} {W : WX} {C : Cs} {e x y z : Expr} {p pos apos : Pos} {a b : Ex} {es : List Expr} {l l2 : Exs}
theorem r_mth (hd : Hd G) (np : NpOk G) (c : Ctx G n X s W) (hcm : s.hot = false) (hC : C = csOf G.T n) {f : Nat} {nm : Str} (hn : G.M.atts[f]? = some nm) (hl : chkL G.M l s es = true) (ho : PE X x (tE G W (evE C a))) (hs : noSup x = true) (ha : PA X es (tL G W (evL C l)))
    (hz : es.length < 20) (hp : (apos.endLine == pos.line) = true) : PE X (.Call (.Attribute x nm apos) es [] pos) (tE G W (evE C (.mth a f l))) := by
  subst hC
  obtain ⟨pl, tree⟩ := meth_tree (es := es) (env := X.env) (nm := nm) hs (chkL_star _ _ _ hl) hz hp
  rw [← att_of hn] at tree ⊢
  refine ⟨fun pins st σ H Q I h => methcall_of ho I ?_ tree⟩
  obtain ⟨m, ρ, S, re, rs, q⟩ := h
  simp only [evE] at q
  refine tX.go re rs q fun d S1 m1 H1 v1 x1 re1 rs1 r1 q1 => ?_
  obtain ⟨g, eg, q2⟩ := q1.at_o
  rw [csOf_T] at eg
  -- the instance
  obtain ⟨A, k, dx, fs, hv, hA, hk, hm, hno⟩ : ∃ A k dx fs, v1 = .ref A ∧ H1 A = some (.ins (G.ca k) dx fs) ∧ k < G.T.cls.length ∧ mthC G.T k f = some g ∧ fs.lookup (G.att f) = none := by
    unfold mthOf at eg
    split at eg
    · rename_i k l
      split at eg
      · cases eg
      · rename_i hc
        obtain ⟨A, vs, rfl, ⟨_, dx, hA⟩, r⟩ := r1.obj_inv
        refine ⟨A, k, dx, _, rfl, hA, ?_, eg, look_none hd (by simpa using hc)⟩
        unfold mthC at eg
        split at eg
        · rename_i e
          exact (List.getElem?_eq_some_iff.mp e).1
        · cases eg
    · rename_i i
      split at eg
      · rename_i k fs es
        split at eg
        · cases eg
        · rename_i hc
          obtain ⟨A, rfl, hA⟩ := r1.ref_inv
          obtain ⟨A', hA', dx, vs, hv, r⟩ := rs1.cel _ _ es
          rw [hA] at hA'; cases hA'
          have hno := look_none hd (vs := vs) (show (fs.map (·.1)).contains f = false by simpa using hc)
          rw [List.map_map] at hno
          refine ⟨A, k, dx, _, rfl, hv, ?_, eg, hno⟩
          unfold mthC at eg
          split at eg
          · rename_i e
            exact (List.getElem?_eq_some_iff.mp e).1
          · cases eg
      · cases eg
    · cases eg
  obtain ⟨Cc, hc⟩ : ∃ Cc, G.T.cls[k]? = some Cc := ⟨_, List.getElem?_eq_getElem hk⟩
  unfold mthC at hm
  rw [hc] at hm
  obtain ⟨hg, hM⟩ := hd.mth k Cc f g hc hm
  subst hv
  refine ⟨A, G.ca k, dx, fs, G.fa g, rfl, hA, by rw [c.K]; exact (hd.cls k hk).cls, by rw [c.K]; exact hM, hno, fun s1 I1 => ?_⟩
  have hkp : PySem.W.keepIn X.K (.ref (G.fa g)) = true := by rw [c.K]; exact hM.kp
  -- the arguments, then the call
  have fin : ∀ (s2 : Shared) (us : List Value) (vs : List V) (m2 : List Addr) (H2 : Hp) (S2 : Store) (ds : List D), L2.Inv X pins σ H2 s2 → Vals vs us → Ext m1 H1 m2 H2 → RS G m2 H2 S2 → RepL G m2 H2 ds vs →
      (Fin G W σ (Rep G) m2 H2 ((csOf G.T n).fn g (d :: ds) S2) fun _ _ _ H' v => Q v H') → wpAny (model X.prog X.w) X.A (call (.ref (G.fa g)) (.ref A :: us)) (EP X pins σ Q) X.xe s2 := by
    intro s2 us vs m2 H2 S2 ds I2 rv x2 rs2 r2 q3
    rw [csOf_fn] at q3
    have rr : RepL G m2 H2 (d :: ds) (.ref A :: vs) := RepL.cons (Rep.mono x2 _ _ r1) r2
    have hb : run G.T n g (d :: ds) S2 ≠ .bad := fun e => by rw [e] at q3; exact q3.elim
    obtain ⟨F, eF, hF⟩ := run_len hb
    have rv2 : Vals (V.ref A :: vs) (Value.ref A :: us) := .cons rfl rv
    exact run_ev np c (c.cm hcm).2.2.1 (c.cm hcm).2.1 hg (c.bind hd np hg (by rw [np g F eF, ← hF, rr.length, rv2.length]) (by rw [← c.K]; exact I2.kIn)) I2 rv2 rs2 rr q3
  cases es with
  | nil =>
    refine PySem.W.callWith_K0 (first := [.ref A]) I1.kIn hkp ?_
    have q0 : tL G W (evL (csOf G.T n) l) σ H1 fun vs H2 => vs = [] → ∃ m2 S2 ds, Ext m1 H1 m2 H2 ∧ RS G m2 H2 S2 ∧ RepL G m2 H2 ds vs ∧ Fin G W σ (Rep G) m2 H2 ((csOf G.T n).fn g (d :: ds) S2) fun _ _ _ H' v => Q v H' :=
      tX.go re1 rs1 q2 fun ds S2 m2 H2 vs x2 re2 rs2 r2 q3 => fun _ => ⟨m2, S2, ds, x2, rs2, r2, q3⟩
    obtain ⟨m2, S2, ds, x2, rs2, r2, q3⟩ := nil_of hl rfl q0 rfl
    exact fin s1 [] [] m2 H1 S2 ds I1 .nil x2 rs2 r2 q3
  | cons e0 es0 =>
    have hst := chkL_star _ _ _ hl
    have hs0 := hst
    simp only [List.all_cons, Bool.and_eq_true] at hs0
    refine PySem.W.callWith_K (first := [.ref A]) (h₀ := X.base) I1.ok.mod.kin hkp (thn (ha.run pos pins s1 σ H1 _ I1 (tX.go re1 rs1 q2 fun ds S2 m2 H2 vs x2 re2 rs2 r2 q3 => (⟨m2, S2, ds, x2, rs2, r2, q3⟩ : ∃ m2 S2 ds, Ext m1 H1 m2 H2 ∧ RS G m2 H2 S2 ∧ RepL G m2 H2 ds vs ∧ Fin G W σ (Rep G) m2 H2 ((csOf G.T n).fn g (d :: ds) S2) fun _ _ _ H' v => Q v H'))) fun us s2 hu => ?_) (star_of hs0.1) (any_star hs0.2)
    obtain ⟨vs, H2, I2, rv, m2, S2, ds, x2, rs2, r2, q3⟩ := hu
    exact ⟨I2.kIn, fin s2 us vs m2 H2 S2 ds I2 rv x2 rs2 r2 q3⟩
/-! #### built-in functions -/
theorem Ctx.blt (hd : Hd G) (c : Ctx G n X s W) {nm : Str} (h : nm ∈ bltL) : X.mg nm = none := by rw [c.mg]; exact hd.mgb nm h
theorem r_bi (hd : Hd G) (c : Ctx G n X s W) {bi : Bi} {k : Bool} (hb : (!s.hot || biHot bi) = true) (hg : gloB s bi.of = true) (hl : chkL G.M l s es = true) (ha : PA X es (tL G W (evL C l))) : PE X (.Call (.Name bi.of p) es [] pos) (tE G W (evE C (.bi bi k l))) := by
  obtain ⟨g1, g2, g3, g4, g5⟩ := c.glo hg
  have hm : X.mg bi.of = none := c.blt hd (by cases bi <;> decide)
  have imp : ∀ σ H Q, tE G W (evE C (.bi bi k l)) σ H Q → tCB (rBi G bi k) (tL G W (evL C l)) σ H Q := fun σ H Q ⟨m, ρ, S, re, rs, q⟩ => by
    simp only [evE] at q
    exact tX.go re rs q fun ds S1 m1 H1 vs x1 re1 rs1 r1 q1 => ⟨m1, S1, ds, rs1, r1, q1.toV (noEx_bi _ _ _ _)⟩
  cases es with
  | nil =>
    refine pe_bad fun σ H Q q => ?_
    have q2 := imp σ H Q q
    have q3 := nil_of (C := C) hl rfl q2
    obtain ⟨m, S, ds, rs, r, q4⟩ := q3
    cases ds with
    | nil => cases bi <;> exact q4.elim
    | cons d ds => simp [RepL] at r
  | cons e0 es0 =>
    have hst := chkL_star _ _ _ hl
    have hs0 := hst
    simp only [List.all_cons, Bool.and_eq_true] at hs0
    have hc := call_bi (G := G) (X := X) c.K bi (fun h0 => c.calm (by rw [h0] at hb; simpa using hb)) k
    cases bi <;> first
      | exact pe_imp (pe_callB hc g1 hm (by rfl) ha g3 g2 (star_of hs0.1) (any_star hs0.2)) imp
      | exact pe_imp (pe_callTy hc g1 hm (by rfl) ha g3 g2 (star_of hs0.1) (any_star hs0.2)) imp
/-! #### isinstance -/
theorem pe_ty (hd : Hd G) (c : Ctx G n X s W) {t : Ty} (h : tyB G.M t s x = true) : PE X x (tC (t.val G)) ∧ noStar x = true := by
  unfold tyB at h
  split at h
  · simp only [Bool.and_eq_true] at h
    obtain ⟨h1, h2⟩ := h
    obtain ⟨g1, g2, g3, g4, g5⟩ := c.glo h1
    refine ⟨?_, rfl⟩
    split at h2
    · rename_i t
      simp only [decide_eq_true_eq] at h2
      subst h2
      have hm : X.mg t.of = none := c.blt hd (by cases t <;> decide)
      cases t <;> exact pe_bltn g1 hm (by rfl) rfl g3 g2
    · simp only [decide_eq_true_eq] at h2
      exact pe_glob g1 (by rw [c.mg]; exact (hd.cmg _ _ h2).2) rfl g2
  · cases h
def tTys (vs : List V) : TA := fun _ H Q => Q vs H
theorem pa_tys (hd : Hd G) (c : Ctx G n X s W) : ∀ {ts : List Ty} {es : List Expr}, tysB G.M s ts es = true → PA X es (tTys (ts.map fun t => t.val G)) ∧ es.length = ts.length
  | [], [], _ => ⟨pa_imp pa_nil fun _ _ _ q => q, rfl⟩
  | t :: ts, e :: es, h => by
    simp only [tysB, Bool.and_eq_true] at h
    obtain ⟨h1, h2⟩ := pe_ty hd c h.1
    obtain ⟨h3, h4⟩ := pa_tys hd c h.2
    exact ⟨pa_imp (pa_cons h1 h3 (star_of h2)) fun _ _ _ q => q, congrArg Nat.succ h4⟩
  | [], _ :: _, h => by simp [tysB] at h
  | _ :: _, [], h => by simp [tysB] at h
theorem paired_tys : ∀ (ts : List Ty), Paired ClsV (ts.map fun t => t.val G) (ts.map fun t => t.vlu G)
  | [] => .nil
  | t :: ts => .cons (ty_clsV t) (paired_tys ts)
theorem t_isI {ts : List Ty} {σ : L2.St} {H : Hp} {Q : VK} {pt : Bool} (h : tE G W (evE C (.isI a ts pt)) σ H Q) : tE G W (evE C a) σ H fun v H1 => ∃ m d S k, RS G m H1 S ∧ Rep G m H1 d v ∧ isAny C.T d S ts = some k ∧ (∀ m' H', Ext m H1 m' H' → RS G m' H' S → Q (.bl k) H') := by
  obtain ⟨m, ρ, S, re, rs, q⟩ := h
  simp only [evE] at q
  refine tX.go re rs q fun d S1 m1 H1 v1 x1 re1 rs1 r1 q1 => ?_
  obtain ⟨k, ek, q2⟩ := q1.at_o
  exact ⟨m1, d, S1, k, rs1, r1, ek, fun m' H' x' rs' => q2 m' H' _ x' rs' rep_bl⟩
theorem r_isI1 (hd : Hd G) (c : Ctx G n X s W) (hT : C.T = G.T) {t : Ty} (hg : gloB s "isinstance" = true) (ha : PE X x (tE G W (evE C a))) (hx : noStar x = true) (ht : tyB G.M t s y = true) : PE X (.Call (.Name "isinstance" p) [x, y] [] pos) (tE G W (evE C (.isI a [t] false))) := by
  obtain ⟨g1, g2, g3, g4, g5⟩ := c.glo hg
  obtain ⟨h1, h2⟩ := pe_ty hd c ht
  have pa : PA X [x, y] (tCons (tE G W (evE C a)) (tCons (tC (t.val G)) tNil)) := pa_cons ha (pa_cons h1 pa_nil (star_of h2)) (star_of hx)
  refine pe_imp (pe_callB (call_isi (X := X)) g1 (c.blt hd (by decide)) (by rfl) pa g3 g2 (star_of hx) (any_star (by simp [h2]))) fun σ H Q q => ?_
  obtain ⟨m, ρ, S, re, rs, q1⟩ := t_isI q
  refine ⟨m, ρ, S, re, rs, q1.imp ?_⟩
  rintro d0 S0 m0 H0 v x0 rs0 r0 ⟨m1, d, S1, k, rs1, r1, ek, fin⟩
  rw [hT] at ek
  refine ⟨v, t.val G, clV G d S1, t.vlu G, k, rfl, ty_clsV t, ?_, ?_, fin m1 H0 Ext.refl rs1⟩
  · rw [c.K]; exact isAny_tyx hd.cls rs1 r1 ek
  · rw [c.K]; exact isD_kit hd.cls (isAny_one ek)
theorem r_isIT (hd : Hd G) (c : Ctx G n X s W) (hT : C.T = G.T) {ts : List Ty} {tes : List Expr} {k2 : Nat} {p2 : Pos} (hg : gloB s "isinstance" = true) (ha : PE X x (tE G W (evE C a))) (hx : noStar x = true) (ht : tysB G.M s ts tes = true) (hz : ts.length ≤ sizeLine) (h0 : ts ≠ []) : PE X (.Call (.Name "isinstance" p) [x, .Tuple tes k2 p2] [] pos) (tE G W (evE C (.isI a ts true))) := by
  obtain ⟨g1, g2, g3, g4, g5⟩ := c.glo hg
  obtain ⟨h1, h2⟩ := pa_tys hd c ht
  have pa : PA X [x, .Tuple tes k2 p2] (tCons (tE G W (evE C a)) (tCons (tTup (tTys (ts.map fun t => t.val G))) tNil)) := pa_cons ha (pa_cons (pe_tup h1) pa_nil) (star_of hx)
  refine pe_imp (pe_callB (call_isiT (X := X)) g1 (c.blt hd (by decide)) (by rfl) pa g3 g2 (star_of hx) (any_star (by rfl))) fun σ H Q q => ?_
  obtain ⟨m, ρ, S, re, rs, q1⟩ := t_isI q
  refine ⟨m, ρ, S, re, rs, q1.imp ?_⟩
  rintro d0 S0 m0 H0 v x0 rs0 r0 ⟨m1, d, S1, k, rs1, r1, ek, fin⟩
  rw [hT] at ek
  refine ⟨by rw [List.length_map]; exact hz, fun tp htp => ?_⟩
  have xx : Ext m1 H0 m1 (upd H0 tp (.tup (ts.map fun t => t.val G))) := Ext.new htp
  have rs2 := rs1.new (o := .tup (ts.map fun t => t.val G)) htp
  refine ⟨v, tp, _, clV G d S1, ts.map (fun t => t.vlu G), k, rfl, upd_same, paired_tys ts, ?_, ?_, fin m1 _ xx rs2⟩
  · rw [c.K]
    cases ts with
    | nil => exact absurd rfl h0
    | cons t ts => exact isAny_tyx hd.cls rs2 (Rep.mono xx _ _ r1) ek
  · rw [c.K]; exact isAny_kit hd.cls ek
/-! #### methods of built-in types -/
theorem r_bm1 {b : Bm} {T id : String} (hl : chkL G.M l s es = true) (ho : PE X x (tE G W (evE C a))) (hs : noSup x = true) (ha : PA X es (tL G W (evL C l))) (c : Ctx G n X s W)
    (hz : es.length < 20) (hp : (apos.endLine == pos.line) = true) (hT : T = b.ty) (hid : id = b.id) (pa : PlainAttrs T) (slot : Slot T b.of id) (hty : typeOf (.builtin id) = pure (.type "method_descriptor")) : PE X (.Call (.Attribute x b.of apos) es [] pos) (tE G W (evE C (.bm b a l))) := by
  subst hT hid
  have hm := mt_bm (G := G) (X := X) b
  cases es with
  | nil =>
    refine pe_imp (pe_bm0 pa slot hty hm ho (base_of hs) hp) fun σ H Q ⟨m, ρ, S, re, rs, q⟩ => ?_
    simp only [evE] at q
    refine tX.go re rs q fun d S1 m1 H1 v x1 re1 rs1 r1 q1 => ?_
    split at q1
    · rename_i hok
      have q2 : tL G W (evL C l) σ H1 fun xs H' => xs = [] → _ := tX.go re1 rs1 q1 fun ds S2 m2 H2 vs x2 re2 rs2 r2 q3 => fun _ => (⟨m2, S2, ds, x2, rs2, r2, q3⟩ : ∃ m2 S2 ds, Ext m1 H1 m2 H2 ∧ RS G m2 H2 S2 ∧ RepL G m2 H2 ds vs ∧ Fin G W σ (Rep G) m2 H2 (bmD b d ds S2) fun _ _ _ H' v => Q v H')
      obtain ⟨m2, S2, ds, x2, rs2, r2, q3⟩ := nil_of hl rfl q2 rfl
      exact ⟨bm_ty rs1 r1 hok, m2, S2, d, ds, rs2, Rep.mono x2 _ _ r1, r2, q3.toV (noEx_bm _ _ _ _)⟩
    · exact q1.elim
  | cons e0 es0 =>
    have hst := chkL_star _ _ _ hl
    have hs0 := hst
    simp only [List.all_cons, Bool.and_eq_true] at hs0
    have hall : ∀ {es : List Expr} {env : Env}, es.all noStar = true → (backTo pos (starEach es env)).all (fun x => !x.1) = true := fun {es env} h0 => by
      have h := any_star (env := env) (pos := pos) h0
      generalize backTo pos (starEach es env) = l at h
      induction l with
      | nil => rfl
      | cons a l ih =>
        simp only [List.any_cons, Bool.or_eq_false_iff] at h
        simp only [List.all_cons, Bool.and_eq_true, Bool.not_eq_true']
        exact ⟨h.1, ih h.2⟩
    have hfew : ((backTo pos (starEach (e0 :: es0) X.env)).all (fun x => !x.1) && (backToKw pos (keywordEach [] X.env)).all (fun x => x.1.isSome)
      && decide ((e0 :: es0).length + ([] : List Keyword).length + (if ([] : List Keyword).isEmpty then 0 else 1) < 30)) = true := by
      rw [hall hst]
      show (true && true && _) = true
      simp only [Bool.true_and, List.length_nil, List.isEmpty_nil, if_true, Nat.add_zero, decide_eq_true_eq]
      omega
    refine pe_imp (pe_bm pa slot hty hm ho ha (base_of hs) hfew hp (star_of hs0.1) (any_star hs0.2)) fun σ H Q ⟨m, ρ, S, re, rs, q⟩ => ?_
    simp only [evE] at q
    refine tX.go re rs q fun d S1 m1 H1 v x1 re1 rs1 r1 q1 => ?_
    split at q1
    · rename_i hok
      exact ⟨bm_ty rs1 r1 hok, tX.go re1 rs1 q1 fun ds S2 m2 H2 vs x2 re2 rs2 r2 q3 => ⟨m2, S2, d, ds, rs2, Rep.mono x2 _ _ r1, r2, q3.toV (noEx_bm _ _ _ _)⟩⟩
    · exact q1.elim
theorem r_bm (c : Ctx G n X s W) {b : Bm} (hl : chkL G.M l s es = true) (ho : PE X x (tE G W (evE C a))) (hs : noSup x = true) (ha : PA X es (tL G W (evL C l)))
    (hz : es.length < 20) (hp : (apos.endLine == pos.line) = true) : PE X (.Call (.Attribute x b.of apos) es [] pos) (tE G W (evE C (.bm b a l))) := by
  cases b with
  | append => exact r_bm1 hl ho hs ha c hz hp rfl rfl F.plainAttrs_list F.slot_list_append F.type_list_append
  | pop => exact r_bm1 hl ho hs ha c hz hp rfl rfl F.plainAttrs_list F.slot_list_pop F.type_list_pop
  | extend => exact r_bm1 hl ho hs ha c hz hp rfl rfl F.plainAttrs_list F.slot_list_extend F.type_list_extend
  | index => exact r_bm1 hl ho hs ha c hz hp rfl rfl F.plainAttrs_list F.slot_list_index F.type_list_index
  | bitLength => exact r_bm1 hl ho hs ha c hz hp rfl rfl F.plainAttrs_int F.slot_int_bit_length F.type_int_bit_length
end
end Ev
end
section
set_option maxRecDepth 100000
set_option maxHeartbeats 4000000
/-! Ev, part 13: what is walked; targets; comprehensions. -/
namespace Ev
open PySem PySem.Spec PyProof.Rows L2
/-- J yields ds, one behind another, as long as the cells of g stand -/
def RY (G : Pg) (m0 : List Addr) (H0 : Hp) (p : List D × Gd) (J : It) : Prop := ∀ m H S, Ext m0 H0 m H → RS G m H S → gOk p.2 S = true → ∀ i,
  (∀ d, p.1[i]? = some d → J.go i H ∧ ∀ x H', J.yld i H x H' → Ext m H m H' ∧ RS G m H' S ∧ Rep G m H' d x) ∧ (p.1.length = i → J.stop i H)
def LstAt (G : Pg) (m0 : List Addr) (H0 : Hp) (g : Gd) (l : List D) (p : Addr) : Prop := ∀ m H S, Ext m0 H0 m H → RS G m H S → gOk g S = true → ∃ vs, Rd H p (.lst vs) ∧ RepL G m H l vs
def TupAt (G : Pg) (m0 : List Addr) (H0 : Hp) (l : List D) (p : Addr) : Prop := ∀ m H, Ext m0 H0 m H → ∃ vs, SqT G.K H p vs ∧ RepL G m H l vs
section
variable {G : Pg} {m m' : List Addr} {H H' : Hp} {S : Store}
theorem gOk_app {g k : Gd} {S : Store} : gOk (g ++ k) S = true ↔ gOk g S = true ∧ gOk k S = true := by
  unfold gOk
  simp only [decide_eq_true_eq, List.mem_append]
  constructor
  · intro h
    exact ⟨fun p hp => h p (.inl hp), fun p hp => h p (.inr hp)⟩
  · rintro ⟨h1, h2⟩ p (hp | hp)
    · exact h1 p hp
    · exact h2 p hp
theorem lstAt_of {d : D} {v : V} {l : List D} {g : Gd} (hg : ∀ S', gOk g S' = true → gOk (guard d S) S' = true) (rs : RS G m H S) (r : Rep G m H d v) (e : lstOf d S = some l) : ∃ p, v = .ref p ∧ LstAt G m H g l p := by
  obtain ⟨p, vs, rfl, hp, rl⟩ := lstOf_sq rs r e
  refine ⟨p, rfl, fun m' H' S' x rs' h => ?_⟩
  have h2 := hg S' h
  have r' := Rep.mono x _ _ r
  have e' : lstOf d S' = some l := by
    unfold lstOf at e ⊢
    split at e
    · exact e
    · rename_i n
      split at e
      · rename_i l' es
        cases e
        unfold gOk at h2
        simp only [decide_eq_true_eq] at h2
        simp only [guard, es, List.mem_singleton, forall_eq] at h2
        simp only [h2]
      · cases e
    · cases e
  obtain ⟨p', vs', ep, hp', rl'⟩ := lstOf_sq rs' r' e'
  cases ep
  exact ⟨vs', hp', rl'⟩
theorem tupAt_of {l : List D} {v : V} (r : Rep G m H (.tup l) v) : ∃ p, v = .ref p ∧ TupAt G m H l p := by
  obtain ⟨p, vs, rfl, f, rl⟩ := r.tup_inv
  exact ⟨p, rfl, fun m' H' x => ⟨vs, (f.mono x).sq, RepL.mono x _ _ rl⟩⟩
theorem LstAt.now {g : Gd} {l : List D} {p : Addr} (h : LstAt G m H g l p) (rs : RS G m H S) (k : gOk g S = true) : ∃ vs, Rd H p (.lst vs) ∧ RepL G m H l vs := h m H S Ext.refl rs k
theorem vget {l : List D} {vs : List V} {i : Nat} {d : D} {x : V} (r : RepL G m H l vs) (e : l[i]? = some d) (h : vs[i]? = some x) : Rep G m H d x := by
  obtain ⟨v, hv, q⟩ := r.get e
  rw [h] at hv; cases hv
  exact q
theorem ry_lst {g : Gd} {l : List D} {p : Addr} (h : LstAt G m H g l p) : RY G m H (l, g) (Itl G.K p) := fun m' H' S' x rs k i => by
  obtain ⟨vs, hp, r⟩ := h m' H' S' x rs k
  refine ⟨fun d hd => ?_, fun hi => ⟨vs, sq_of hp, by rw [← r.length]; exact Nat.le_of_eq hi⟩⟩
  obtain ⟨v, hv, q⟩ := r.get hd
  refine ⟨⟨vs, v, sq_of hp, hv⟩, fun y H2 hy => ?_⟩
  obtain ⟨rfl, hy⟩ := hy
  exact ⟨Ext.refl, rs, vget r hd (hy vs (sq_of hp))⟩
theorem ry_tup {g : Gd} {l : List D} {p : Addr} (h : TupAt G m H l p) : RY G m H (l, g) (Itt G.K p) := fun m' H' S' x rs k i => by
  obtain ⟨vs, hp, r⟩ := h m' H' x
  refine ⟨fun d hd => ?_, fun hi => ⟨vs, hp, by rw [← r.length]; exact Nat.le_of_eq hi⟩⟩
  obtain ⟨v, hv, q⟩ := r.get hd
  refine ⟨⟨vs, v, hp, hv⟩, fun y H2 hy => ?_⟩
  obtain ⟨rfl, hy⟩ := hy
  exact ⟨Ext.refl, rs, vget r hd (hy vs hp)⟩
theorem ry_str {s : List Nat} : RY G m H (s.map fun c => D.str [c], []) (Its ⟨s.toArray⟩) := fun m' H' S' x rs k i => by
  refine ⟨fun d hd => ?_, fun hi => ?_⟩
  · simp only [List.getElem?_map] at hd
    cases e : s[i]? with
    | none => rw [e] at hd; cases hd
    | some c =>
      rw [e] at hd
      cases hd
      have hl := (List.getElem?_eq_some_iff.mp e).1
      refine ⟨?_, fun y H2 hy => ?_⟩
      · show i < s.toArray.size
        simpa using hl
      · obtain ⟨rfl, c', hc, rfl⟩ := hy
        have hc : s.toArray[i]? = some c' := hc
        simp only [List.getElem?_toArray] at hc
        rw [e] at hc; cases hc
        exact ⟨Ext.refl, rs, rep_str⟩
  · show s.toArray.size ≤ i
    simp only [List.length_map] at hi
    simp [hi]
theorem upTo_get : ∀ (n : Nat) (lo : Int) (i : Nat), (upTo lo n)[i]? = if i < n then some (.int (lo + i)) else none
  | 0, _, _ => by simp [upTo]
  | n + 1, lo, 0 => by simp [upTo]
  | n + 1, lo, i + 1 => by
    simp only [upTo, List.getElem?_cons_succ, upTo_get n (lo + 1) i, Nat.add_lt_add_iff_right]
    split
    · congr 2; push_cast; omega
    · rfl
theorem upTo_len : ∀ (n : Nat) (lo : Int), (upTo lo n).length = n
  | 0, _ => rfl
  | n + 1, lo => congrArg Nat.succ (upTo_len n (lo + 1))
theorem ry_rng {lo : Int} {n : Nat} {g : Gd} : RY G m H (upTo lo n, g) (Itr lo n) := fun m' H' S' x rs k i => by
  refine ⟨fun d hd => ?_, fun hi => ?_⟩
  · simp only [upTo_get] at hd
    split at hd
    · rename_i hl
      cases hd
      refine ⟨hl, fun y H2 hy => ?_⟩
      obtain ⟨rfl, rfl⟩ := hy
      exact ⟨Ext.refl, rs, rep_int⟩
    · cases hd
  · simp only [upTo_len] at hi
    show n ≤ i
    omega
theorem dnTo_get : ∀ (n : Nat) (lo : Int) (i : Nat), (dnTo lo n)[i]? = if i < n then some (.int (lo + (i : Nat) * (-1))) else none
  | 0, _, _ => by simp [dnTo]
  | n + 1, lo, 0 => by simp [dnTo]
  | n + 1, lo, i + 1 => by
    simp only [dnTo, List.getElem?_cons_succ, dnTo_get n (lo - 1) i, Nat.add_lt_add_iff_right]
    split
    · congr 2; push_cast; omega
    · rfl
theorem dnTo_len : ∀ (n : Nat) (lo : Int), (dnTo lo n).length = n
  | 0, _ => rfl
  | n + 1, lo => congrArg Nat.succ (dnTo_len n (lo - 1))
theorem ry_rngD {lo : Int} {n : Nat} {g : Gd} : RY G m H (dnTo lo n, g) (Itc lo (-1) n) := fun m' H' S' x rs k i => by
  refine ⟨fun d hd => ?_, fun hi => ?_⟩
  · simp only [dnTo_get] at hd
    split at hd
    · rename_i hl
      cases hd
      refine ⟨hl, fun y H2 hy => ?_⟩
      obtain ⟨rfl, rfl⟩ := hy
      exact ⟨Ext.refl, rs, rep_int⟩
    · cases hd
  · simp only [dnTo_len] at hi
    show n ≤ i
    omega
theorem enmL_get : ∀ (l : List D) (k : Int) (i : Nat) {d : D}, (enmL k l)[i]? = some d → ∃ e, l[i]? = some e ∧ d = .tup [.int (k + i), e]
  | [], _, _, _, h => by simp [enmL] at h
  | e :: l, k, 0, d, h => by
    simp [enmL] at h
    exact ⟨e, rfl, by simp [← h]⟩
  | e :: l, k, i + 1, d, h => by
    simp only [enmL, List.getElem?_cons_succ] at h
    obtain ⟨z, e1, e2⟩ := enmL_get l (k + 1) i h
    refine ⟨z, by simpa using e1, ?_⟩
    rw [e2]
    congr 3
    push_cast; omega
theorem enmL_len : ∀ (l : List D) (k : Int), (enmL k l).length = l.length
  | [], _ => rfl
  | _ :: l, k => congrArg Nat.succ (enmL_len l (k + 1))
/-- a new pair -/
theorem pair_new {T : Addr} {d e : D} {x y : V} (rs : RS G m H S) (hT : H T = none) (r1 : Rep G m H d x) (r2 : Rep G m H e y) : Ext m H m (upd H T (.tup [x, y])) ∧ RS G m (upd H T (.tup [x, y])) S ∧ Rep G m (upd H T (.tup [x, y])) (.tup [d, e]) (.ref T) := by
  have xx : Ext m H m (upd H T (.tup [x, y])) := Ext.new hT
  exact ⟨xx, rs.new hT, rep_tup (.inl ⟨rs.fresh hT, .inl upd_same⟩) (RepL.mono xx _ _ (RepL.cons r1 (RepL.cons r2 RepL.nil)))⟩
theorem ry_enm {g : Gd} {l : List D} {p : Addr} (h : LstAt G m H g l p) : RY G m H (enmL 0 l, g) (Ite G.K p) := fun m' H' S' x rs k i => by
  obtain ⟨vs, hp, r⟩ := h m' H' S' x rs k
  refine ⟨fun d hd => ?_, fun hi => ⟨vs, sq_of hp, by rw [← r.length, ← enmL_len l 0]; exact Nat.le_of_eq hi⟩⟩
  obtain ⟨e, he, rfl⟩ := enmL_get l 0 i hd
  obtain ⟨v, hv, q⟩ := r.get he
  refine ⟨⟨vs, v, sq_of hp, hv⟩, fun y H2 hy => ?_⟩
  obtain ⟨T, z, rfl, hT, rfl, hz⟩ := hy
  have e0 : (0 : Int) + (i : Int) = ((i : Nat) : Int) := by omega
  rw [e0]
  exact pair_new rs hT rep_int (vget r he (hz vs (sq_of hp)))
theorem ry_enmT {g : Gd} {l : List D} {p : Addr} (h : TupAt G m H l p) : RY G m H (enmL 0 l, g) (Itet G.K p) := fun m' H' S' x rs k i => by
  obtain ⟨vs, hp, r⟩ := h m' H' x
  refine ⟨fun d hd => ?_, fun hi => ⟨vs, hp, by rw [← r.length, ← enmL_len l 0]; exact Nat.le_of_eq hi⟩⟩
  obtain ⟨e, he, rfl⟩ := enmL_get l 0 i hd
  obtain ⟨v, hv, q⟩ := r.get he
  refine ⟨⟨vs, v, hp, hv⟩, fun y H2 hy => ?_⟩
  obtain ⟨T, z, rfl, hT, rfl, hz⟩ := hy
  have e0 : (0 : Int) + (i : Int) = ((i : Nat) : Int) := by omega
  rw [e0]
  exact pair_new rs hT rep_int (vget r he (hz vs hp))
theorem zip_get {l k : List D} {i : Nat} {d : D} (h : ((l.zip k).map fun p => D.tup [p.1, p.2])[i]? = some d) : ∃ a b, l[i]? = some a ∧ k[i]? = some b ∧ d = .tup [a, b] := by
  simp only [List.getElem?_map, Option.map_eq_some_iff] at h
  obtain ⟨⟨a, b⟩, h1, h2⟩ := h
  rw [List.getElem?_zip_eq_some] at h1
  exact ⟨a, b, h1.1, h1.2, h2.symm⟩
theorem zip_end {l k : List D} {vs us : List V} {i : Nat} (r : RepL G m H l vs) (q : RepL G m H k us) (h : ((l.zip k).map fun p => D.tup [p.1, p.2]).length = i) : vs.length ≤ i ∨ us.length ≤ i := by
  simp only [List.length_map, List.length_zip] at h
  rw [← r.length, ← q.length]
  omega
theorem ry_zip {g : Gd} {l k : List D} {p q : Addr} (h1 : LstAt G m H g l p) (h2 : LstAt G m H g k q) : RY G m H ((l.zip k).map fun p => D.tup [p.1, p.2], g) (Itz G.K p q) := fun m' H' S' x rs kk i => by
  obtain ⟨vs, hp, r⟩ := h1 m' H' S' x rs kk
  obtain ⟨us, hq, r2⟩ := h2 m' H' S' x rs kk
  refine ⟨fun d hd => ?_, fun hi => ⟨vs, us, sq_of hp, sq_of hq, zip_end r r2 hi⟩⟩
  obtain ⟨a, b, ha, hb, rfl⟩ := zip_get hd
  obtain ⟨v, hv, _⟩ := r.get ha
  obtain ⟨u, hu, _⟩ := r2.get hb
  refine ⟨⟨vs, us, v, u, sq_of hp, sq_of hq, hv, hu⟩, fun y H2 hy => ?_⟩
  obtain ⟨T, z, w, rfl, hT, rfl, hz, hw⟩ := hy
  exact pair_new rs hT (vget r ha (hz vs (sq_of hp))) (vget r2 hb (hw us (sq_of hq)))
theorem ry_zipT {g : Gd} {l k : List D} {p q : Addr} (h1 : TupAt G m H l p) (h2 : TupAt G m H k q) : RY G m H ((l.zip k).map fun p => D.tup [p.1, p.2], g) (RZ.ItzT G.K p q) := fun m' H' S' x rs kk i => by
  obtain ⟨vs, hp, r⟩ := h1 m' H' x
  obtain ⟨us, hq, r2⟩ := h2 m' H' x
  refine ⟨fun d hd => ?_, fun hi => ⟨vs, us, hp, hq, zip_end r r2 hi⟩⟩
  obtain ⟨a, b, ha, hb, rfl⟩ := zip_get hd
  obtain ⟨v, hv, _⟩ := r.get ha
  obtain ⟨u, hu, _⟩ := r2.get hb
  refine ⟨⟨vs, us, v, u, hp, hq, hv, hu⟩, fun y H2 hy => ?_⟩
  obtain ⟨T, z, w, rfl, hT, rfl, hz, hw⟩ := hy
  exact pair_new rs hT (vget r ha (hz vs hp)) (vget r2 hb (hw us hq))
theorem rev_ix {l : List D} {i : Nat} {d : D} (h : l.reverse[i]? = some d) : i < l.length ∧ l[l.length - 1 - i]? = some d := by
  have hl : i < l.length := by
    have := (List.getElem?_eq_some_iff.mp h).1
    simpa using this
  rw [List.getElem?_reverse hl] at h
  exact ⟨hl, h⟩
theorem ry_rev {g : Gd} {l : List D} {p : Addr} (h : LstAt G m H g l p) : RY G m H (l.reverse, g) (Itv G.K p l.length) := fun m' H' S' x rs k i => by
  obtain ⟨vs, hp, r⟩ := h m' H' S' x rs k
  refine ⟨fun d hd => ?_, fun hi => ?_⟩
  · obtain ⟨hl, hd⟩ := rev_ix hd
    obtain ⟨v, hv, q⟩ := r.get hd
    refine ⟨⟨hl, vs, v, sq_of hp, hv⟩, fun y H2 hy => ?_⟩
    obtain ⟨rfl, hy⟩ := hy
    exact ⟨Ext.refl, rs, vget r hd (hy vs (sq_of hp))⟩
  · simp only [List.length_reverse] at hi
    exact Nat.le_of_eq hi
theorem ry_revT {g : Gd} {l : List D} {p : Addr} (h : TupAt G m H l p) : RY G m H (l.reverse, g) (RT.ItvT G.K p l.length) := fun m' H' S' x rs k i => by
  obtain ⟨vs, hp, r⟩ := h m' H' x
  refine ⟨fun d hd => ?_, fun hi => ?_⟩
  · obtain ⟨hl, hd⟩ := rev_ix hd
    obtain ⟨v, hv, q⟩ := r.get hd
    refine ⟨⟨hl, vs, v, hp, hv⟩, fun y H2 hy => ?_⟩
    obtain ⟨rfl, hy⟩ := hy
    exact ⟨Ext.refl, rs, vget r hd (hy vs hp)⟩
  · simp only [List.length_reverse] at hi
    exact Nat.le_of_eq hi
end
/-! #### a list, a tuple or a text -/
def iAny (K : PySem.W.Frag) (te : TE) : TI := fun σ H R => te σ H fun x H1 => (∃ a, x = .ref a ∧ (∃ xs, SqL K H1 a xs) ∧ R (Itl K a) H1) ∨ (∃ a, x = .ref a ∧ (∃ xs, SqT K H1 a xs) ∧ R (Itt K a) H1) ∨ ∃ z, x = .str z ∧ R (Its z) H1
section
variable {X : Cx} {tg e : Expr} {te : TE}
theorem pi_any (he : PE X e te) : PI X tg e (iAny X.K te) := by
  refine ⟨fun pins st σ H R I h => ?_⟩
  refine thn (he.run pins st σ H _ I h) fun v s1 ⟨x, H1, I1, r1, q1⟩ => ?_
  rcases q1 with ⟨a, rfl, ⟨xs, hq⟩, q⟩ | ⟨a, rfl, ⟨xs, hq⟩, q⟩ | ⟨z, rfl, q⟩
  · obtain rfl : v = Value.ref a := r1
    obtain ⟨its, rv, at_, _⟩ := I1.list hq
    exact wpAny_pyIter_list at_.isList (pi_one (tk := s1.toks) I1 _ (turn_list a _) ⟨_, Heap.get?_push_size _ rfl, rfl, rfl⟩ q)
  · obtain rfl : v = Value.ref a := r1
    obtain ⟨its, rv, at_, _⟩ := I1.tuple hq
    exact wpAny_pyIter_tuple (show s1.heap.IsTuple a its.toArray from at_) (pi_one (tk := s1.toks) I1 _ (turn_tuple a _) ⟨_, Heap.get?_push_size _ rfl, rfl, rfl⟩ q)
  · obtain ⟨t, rfl⟩ := r1
    cases ha : z.cps.all (· < 128)
    · exact wpAny_pyIter_wide ha (pi_one (tk := s1.toks) I1 _ (turn_str _ z t _ (.inr rfl)) ⟨_, Heap.get?_push_size _ rfl, rfl, rfl⟩ q)
    · exact wpAny_pyIter_ascii ha (pi_one (tk := s1.toks) I1 _ (turn_str _ z t _ (.inl rfl)) ⟨_, Heap.get?_push_size _ rfl, rfl, rfl⟩ q)
theorem pi_imp {t t' : TI} (h : PI X tg e t) (i : ∀ σ H R, t' σ H R → t σ H R) : PI X tg e t' := ⟨fun pins s σ H R I q => h.run pins s σ H R I (i σ H R q)⟩
end
abbrev tW (G : Pg) (W : WX) (ev : Fr → Store → Rs (List D × Gd)) : TI := tX G W (RY G) ev
section
variable {G : Pg} {n : Nat} {X : Cx} {s : Sx} {W : WX} {C : Cs} {tg e x y z : Expr} {p pos : Pos} {a b : Ex} {es : List Expr} {l : Exs}
theorem w_seq (c : Ctx G n X s W) (ha : PE X x (tE G W (evE C a))) : PI X tg x (tW G W (evW C (.seq a))) :=
  pi_imp (pi_any ha) fun σ H R ⟨m, ρ, S, re, rs, q⟩ => by
    simp only [evW] at q
    refine tX.go re rs q fun d S1 m1 H1 v1 x1 re1 rs1 r1 q1 => ?_
    rw [c.K]
    unfold seqIt at q1
    split at q1
    · exact .inr (.inr ⟨_, r1.str_inv, q1 m1 H1 _ Ext.refl rs1 ry_str⟩)
    · split at q1
      · rename_i l e
        cases d with
        | tup k =>
          cases e
          obtain ⟨A, rfl, h⟩ := tupAt_of r1
          obtain ⟨vs, hv, _⟩ := h m1 H1 Ext.refl
          exact .inr (.inl ⟨A, rfl, ⟨vs, hv⟩, q1 m1 H1 _ Ext.refl rs1 (ry_tup h)⟩)
        | lst k =>
          obtain ⟨A, rfl, h⟩ := lstAt_of (g := guard (.lst k) S1) (fun _ q => q) rs1 r1 (show lstOf (.lst k) S1 = some l from e)
          obtain ⟨vs, hv, _⟩ := h.now rs1 (by rfl)
          exact .inl ⟨A, rfl, ⟨vs, sq_of hv⟩, q1 m1 H1 _ Ext.refl rs1 (ry_lst h)⟩
        | ref k =>
          obtain ⟨A, vs, rfl, hv, rl⟩ := lstOf_sq rs1 r1 (show lstOf (.ref k) S1 = some l from e)
          obtain ⟨A', eA, h⟩ := lstAt_of (g := guard (.ref k) S1) (fun _ q => q) rs1 r1 (show lstOf (.ref k) S1 = some l from e)
          cases eA
          exact .inl ⟨A, rfl, ⟨vs, sq_of hv⟩, q1 m1 H1 _ Ext.refl rs1 (ry_lst h)⟩
        | _ => cases e
      · exact q1.elim
theorem int62 {j : Int} (h : j ≤ LIM) : j < 2 ^ 62 := by
  unfold LIM at h
  omega
end
end Ev
end
section
set_option maxRecDepth 100000
set_option maxHeartbeats 4000000
/-! Ev, part 14: more of what is walked; targets; comprehensions. -/
namespace Ev
open PySem PySem.Spec PyProof.Rows L2
section
variable {G : Pg} {n : Nat} {X : Cx} {s : Sx} {W : WX} {C : Cs} {tg e x y z : Expr} {p pos : Pos} {a b : Ex} {es : List Expr} {l : Exs}
theorem folded_of {e : Expr} {env : Env} (h : noSet e = true) (x : Value) : foldedSetIterable e env x = pure x := by
  cases e <;> first | rfl | (simp [noSet] at h)
theorem rng_cases {ds : List D} {S : Store} {σ : L2.St} {m : List Addr} {H : Hp} {R : It → Hp → Prop} (q : Fin G W σ (RY G) m H (rngIt ds S) fun _ _ _ H' v => R v H') :
    (∃ j : Int, ds = [.int j] ∧ j ≤ LIM ∧ -(LIM : Int) ≤ j ∧ Fin G W σ (RY G) m H (.ok (upTo 0 j.toNat, []) S) fun _ _ _ H' v => R v H') ∨
      (∃ i j : Int, ds = [.int i, .int j] ∧ i.natAbs < 2 ^ 61 ∧ j.natAbs < 2 ^ 61 ∧ Fin G W σ (RY G) m H (.ok (upTo i (j - i).toNat, []) S) fun _ _ _ H' v => R v H') ∨
      ∃ i j : Int, ds = [.int i, .int j, .int (-1)] ∧ i.natAbs < 2 ^ 61 ∧ j.natAbs < 2 ^ 61 ∧ Fin G W σ (RY G) m H (.ok (dnTo i (i - j).toNat, []) S) fun _ _ _ H' v => R v H' := by
  unfold rngIt at q
  split at q
  · split at q
    · rename_i h
      exact .inl ⟨_, rfl, h.1, h.2, q⟩
    · exact q.elim
  · split at q
    · rename_i h
      exact .inr (.inl ⟨_, _, rfl, h.2.1, h.2.2, q⟩)
    · exact q.elim
  · split at q
    · rename_i h
      obtain ⟨h1, h2, h3, h4⟩ := h
      subst h1
      exact .inr (.inr ⟨_, _, rfl, h3, h4, q⟩)
    · exact q.elim
  · exact q.elim
theorem three_inv {d e f : D} {m : List Addr} {H : Hp} {vs : List V} (r : RepL G m H [d, e, f] vs) : ∃ v u w, vs = [v, u, w] ∧ Rep G m H d v ∧ Rep G m H e u ∧ Rep G m H f w := by
  simp only [RepL] at r
  obtain ⟨v, us, rfl, r1, u, ws, rfl, r2, w, zs, rfl, r3, rfl⟩ := r
  exact ⟨v, u, w, rfl, r1, r2, r3⟩
theorem w_rng (hd : Hd G) (c : Ctx G n X s W) (hg : gloB s "range" = true) (hl : chkL G.M l s es = true) (hz : (es.length = 1 ∨ es.length = 2) ∨ es.length = 3) (ha : PA X es (tL G W (evL C l))) : PI X tg (.Call (.Name "range" p) es [] pos) (tW G W (evW C (.rng l))) := by
  obtain ⟨g1, g2, g3, g4, g5⟩ := c.glo hg
  have hm : X.mg "range" = none := c.blt hd (by decide)
  have hst := chkL_star _ _ _ hl
  have main : ∀ {σ H R}, tW G W (evW C (.rng l)) σ H R → tL G W (evL C l) σ H fun vs H1 => vs.length = es.length ∧ ((∃ j : Int, vs = [.int j] ∧ -(2 ^ 62) ≤ j ∧ j < 2 ^ 62 ∧ R (Itr 0 j.toNat) H1) ∨ (∃ i j : Int, vs = [.int i, .int j] ∧ (-(2 ^ 62) ≤ i ∧ i < 2 ^ 62 ∧ -(2 ^ 62) ≤ j ∧ j < 2 ^ 62) ∧ R (Itr i (j - i).toNat) H1) ∨ ∃ i j : Int, vs = [.int i, .int j, .int (-1)] ∧ (-(2 ^ 62) ≤ i ∧ i < 2 ^ 62 ∧ -(2 ^ 62) ≤ j ∧ j < 2 ^ 62) ∧ R (Itc i (-1) (i - j).toNat) H1) := fun {σ H R} ⟨m, ρ, S, re, rs, q⟩ => by
    simp only [evW] at q
    refine len_of hl (tX.go re rs q fun ds S1 m1 H1 vs x1 re1 rs1 r1 q1 => ?_)
    rcases rng_cases q1 with ⟨j, rfl, h1, h2, q2⟩ | ⟨i, j, rfl, h1, h2, q2⟩ | ⟨i, j, rfl, h1, h2, q2⟩
    · obtain ⟨v, rfl, rv⟩ := one_inv r1
      unfold LIM at h1 h2
      exact .inl ⟨j, by rw [rv.int_inv], by omega, by omega, q2 m1 H1 _ Ext.refl rs1 ry_rng⟩
    · obtain ⟨v, u, rfl, rv, ru⟩ := two_inv r1
      exact .inr (.inl ⟨i, j, by rw [rv.int_inv, ru.int_inv], by omega, q2 m1 H1 _ Ext.refl rs1 ry_rng⟩)
    · obtain ⟨v, u, w, rfl, rv, ru, rw_⟩ := three_inv r1
      exact .inr (.inr ⟨i, j, by rw [rv.int_inv, ru.int_inv, rw_.int_inv], by omega, q2 m1 H1 _ Ext.refl rs1 ry_rngD⟩)
  rcases hz with (hz | hz) | hz
  · obtain ⟨x, rfl⟩ := List.length_eq_one_iff.mp hz
    simp only [List.all_cons, Bool.and_eq_true] at hst
    refine pi_imp (pi_range1 g1 hm ha (star_of hst.1)) fun σ H R q => ?_
    obtain ⟨m, ρ, S, re, rs, q1⟩ := main q
    refine ⟨m, ρ, S, re, rs, q1.imp ?_⟩
    rintro d0 S0 m0 H0 vs _ _ _ ⟨hlen, h | ⟨i, j, rfl, _⟩ | ⟨i, j, rfl, _⟩⟩
    · exact h
    · cases hlen
    · cases hlen
  · obtain ⟨x, y, rfl⟩ : ∃ x y, es = [x, y] := by
      match es, hz with
      | [x, y], _ => exact ⟨x, y, rfl⟩
    simp only [List.all_cons, Bool.and_eq_true] at hst
    refine pi_imp (pi_range2 g1 hm ha (by rw [star_of hst.1, star_of hst.2.1]; rfl) (star_of hst.2.1)) fun σ H R q => ?_
    obtain ⟨m, ρ, S, re, rs, q1⟩ := main q
    refine ⟨m, ρ, S, re, rs, q1.imp ?_⟩
    rintro d0 S0 m0 H0 vs _ _ _ ⟨hlen, ⟨j, rfl, _⟩ | h | ⟨i, j, rfl, _⟩⟩
    · cases hlen
    · exact h
    · cases hlen
  · obtain ⟨x, y, z, rfl⟩ : ∃ x y z, es = [x, y, z] := by
      match es, hz with
      | [x, y, z], _ => exact ⟨x, y, z, rfl⟩
    simp only [List.all_cons, Bool.and_eq_true] at hst
    refine pi_imp (pi_range3 g1 hm ha (star_of hst.1) (any_star (by simp [hst.2.1, hst.2.2.1]))) fun σ H R q => ?_
    obtain ⟨m, ρ, S, re, rs, q1⟩ := main q
    refine ⟨m, ρ, S, re, rs, q1.imp ?_⟩
    rintro d0 S0 m0 H0 vs _ _ _ ⟨hlen, ⟨j, rfl, _⟩ | ⟨i, j, rfl, _⟩ | ⟨i, j, rfl, hb, h⟩⟩
    · cases hlen
    · cases hlen
    · exact ⟨i, j, -1, _, rfl, RgC.neg hb.1 hb.2.1 hb.2.2.1 hb.2.2.2, h⟩
theorem pih_imp {t t' : TI} (h : L2H.PIH X tg e t) (i : ∀ σ H R, t' σ H R → t σ H R) : L2H.PIH X tg e t' := ⟨fun pins s σ H R I q => h.run pins s σ H R I (i σ H R q)⟩
theorem w_rngH (hd : Hd G) (c : Ctx G n X s W) (hg : gloB s "range" = true) (hl : chkL G.M l s es = true) (hz : es.length = 1) (ha : PA X es (tL G W (evL C l))) : L2H.PIH X tg (.Call (.Name "range" p) es [] pos) (tW G W (evW C (.rng l))) := by
  obtain ⟨g1, _⟩ := c.glo hg
  have hm : X.mg "range" = none := c.blt hd (by decide)
  have hst := chkL_star _ _ _ hl
  obtain ⟨x, rfl⟩ := List.length_eq_one_iff.mp hz
  simp only [List.all_cons, Bool.and_eq_true] at hst
  refine pih_imp (L2H.pi_range1H g1 hm ha (star_of hst.1)) fun σ H R ⟨m, ρ, S, re, rs, q⟩ => ?_
  simp only [evW] at q
  have q2 : tL G W (evL C l) σ H fun vs H1 => vs.length = [x].length ∧ ((vs.length = 1 → ∃ j : Int, vs = [.int j] ∧ -(2 ^ 62) ≤ j ∧ j < 2 ^ 62 ∧ R (Itr 0 j.toNat) H1)) := by
    refine len_of hl (tX.go re rs q fun ds S1 m1 H1 vs x1 re1 rs1 r1 q1 => fun h1 => ?_)
    have hl1 : ds.length = 1 := by rw [r1.length]; exact h1
    rcases rng_cases q1 with ⟨j, rfl, b1, b2, q2⟩ | ⟨i, j, rfl, _⟩ | ⟨i, j, rfl, _⟩
    · obtain ⟨v, rfl, rv⟩ := one_inv r1
      unfold LIM at b1 b2
      exact ⟨j, by rw [rv.int_inv], by omega, by omega, q2 m1 H1 _ Ext.refl rs1 ry_rng⟩
    · cases hl1
    · cases hl1
  obtain ⟨m, ρ, S, re, rs, q3⟩ := q2
  exact ⟨m, ρ, S, re, rs, q3.imp fun _ _ _ _ vs _ _ _ h => h.2 h.1⟩
theorem guard_nil {S : Store} : gOk [] S = true := by
  unfold gOk
  simp
theorem w_enm (hd : Hd G) (c : Ctx G n X s W) {elts : List Expr} {kk : Nat} {tpos : Pos} (hg : gloB s "enumerate" = true) (ha : PE X x (tE G W (evE C a))) (hx : noStar x = true) : PI X (.Tuple elts kk tpos) (.Call (.Name "enumerate" p) [x] [] pos) (tW G W (evW C (.enm a))) := by
  obtain ⟨g1, g2, g3, g4, g5⟩ := c.glo hg
  have hm : X.mg "enumerate" = none := c.blt hd (by decide)
  refine pi_imp (pi_enumA g1 hm (pa_cons ha pa_nil (star_of hx)) (star_of hx)) fun σ H R ⟨m, ρ, S, re, rs, q⟩ => ?_
  simp only [evW] at q
  refine tX.go re rs q fun d S1 m1 H1 v1 x1 re1 rs1 r1 q1 => ?_
  unfold enmIt at q1
  split at q1
  · rename_i l e
    have viaL : lstOf d S1 = some l → ∃ a_1, [v1] = [V.ref a_1] ∧ ((∃ xs, SqL X.K H1 a_1 xs ∧ R (Ite X.K a_1) H1) ∨ ∃ xs, SqT X.K H1 a_1 xs ∧ R (Itet X.K a_1) H1) := fun e => by
      obtain ⟨A, rfl, h⟩ := lstAt_of (g := guard d S1) (fun _ q => q) rs1 r1 e
      obtain ⟨A', vs, eA, hv, rl⟩ := lstOf_sq rs1 r1 e
      cases eA
      exact ⟨A, rfl, .inl ⟨vs, by rw [c.K]; exact sq_of hv, by rw [c.K]; exact q1 m1 H1 _ Ext.refl rs1 (ry_enm h)⟩⟩
    cases d with
    | tup k =>
      cases e
      obtain ⟨A, rfl, h⟩ := tupAt_of r1
      obtain ⟨vs, hv, rl⟩ := h m1 H1 Ext.refl
      exact ⟨A, rfl, .inr ⟨vs, by rw [c.K]; exact hv, by rw [c.K]; exact q1 m1 H1 _ Ext.refl rs1 (ry_enmT h)⟩⟩
    | lst k => exact viaL e
    | ref k => exact viaL e
    | _ => cases e
  · exact q1.elim
theorem w_zip (hd : Hd G) (c : Ctx G n X s W) {elts : List Expr} {kk : Nat} {tpos : Pos} (hg : gloB s "zip" = true) (ha : PE X x (tE G W (evE C a))) (hx : noStar x = true) (hb : PE X y (tE G W (evE C b))) (hy : noStar y = true) : PI X (.Tuple elts kk tpos) (.Call (.Name "zip" p) [x, y] [] pos) (tW G W (evW C (.zip a b))) := by
  obtain ⟨g1, g2, g3, g4, g5⟩ := c.glo hg
  have hm : X.mg "zip" = none := c.blt hd (by decide)
  refine pi_imp (RZ.pi_zipA g1 hm (pa_cons ha (pa_cons hb pa_nil (star_of hy)) (star_of hx)) (star_of hx) (any_star (by simp [hy]))) fun σ H R ⟨m, ρ, S, re, rs, q⟩ => ?_
  simp only [evW] at q
  refine tX.go re rs q fun d S1 m1 H1 v1 x1 re1 rs1 r1 q1 => ?_
  refine tX.go re1 rs1 q1 fun d2 S2 m2 H2 v2 x2 re2 rs2 r2 q2 => ?_
  have r1' := Rep.mono x2 _ _ r1
  rw [c.K]
  unfold zipIt at q2
  split at q2
  · obtain ⟨A, rfl, h1⟩ := tupAt_of r1'
    obtain ⟨B, rfl, h2⟩ := tupAt_of r2
    obtain ⟨vs, hv, _⟩ := h1 m2 H2 Ext.refl
    obtain ⟨us, hu, _⟩ := h2 m2 H2 Ext.refl
    exact ⟨A, B, vs, us, rfl, .inr ⟨hv, hu, q2 m2 H2 _ Ext.refl rs2 (ry_zipT h1 h2)⟩⟩
  · split at q2
    · rename_i l r e1 e2
      obtain ⟨A, rfl, h1⟩ := lstAt_of (g := guard d S2 ++ guard d2 S2) (fun _ q => (gOk_app.mp q).1) rs2 r1' e1
      obtain ⟨B, rfl, h2⟩ := lstAt_of (g := guard d S2 ++ guard d2 S2) (fun _ q => (gOk_app.mp q).2) rs2 r2 e2
      obtain ⟨A', vs, eA, hv, _⟩ := lstOf_sq rs2 r1' e1
      obtain ⟨B', us, eB, hu, _⟩ := lstOf_sq rs2 r2 e2
      cases eA; cases eB
      exact ⟨A, B, vs, us, rfl, .inl ⟨sq_of hv, sq_of hu, q2 m2 H2 _ Ext.refl rs2 (ry_zip h1 h2)⟩⟩
    · exact q2.elim
theorem w_rev (hd : Hd G) (c : Ctx G n X s W) (hg : gloB s "reversed" = true) (ha : PE X x (tE G W (evE C a))) (hx : noStar x = true) : PI X tg (.Call (.Name "reversed" p) [x] [] pos) (tW G W (evW C (.rev a))) := by
  obtain ⟨g1, g2, g3, g4, g5⟩ := c.glo hg
  have hm : X.mg "reversed" = none := c.blt hd (by decide)
  refine pi_imp (RT.pi_revA g1 hm ha (star_of hx)) fun σ H R ⟨m, ρ, S, re, rs, q⟩ => ?_
  simp only [evW] at q
  refine tX.go re rs q fun d S1 m1 H1 v1 x1 re1 rs1 r1 q1 => ?_
  rw [c.K]
  unfold revIt at q1
  split at q1
  · rename_i l e
    have viaL : ∀ {d : D}, Rep G m1 H1 d v1 → lstOf d S1 = some l → (Fin G W σ (RY G) m1 H1 (.ok (l.reverse, guard d S1) S1) fun _ _ _ H' v => R v H') → ∃ (a : Addr) (xs : List V), v1 = .ref a ∧ ((SqL G.K H1 a xs ∧ R (Itv G.K a xs.length) H1) ∨ (SqT G.K H1 a xs ∧ R (RT.ItvT G.K a xs.length) H1)) := fun {d} r1 e q1 => by
      obtain ⟨A, rfl, h⟩ := lstAt_of (g := guard d S1) (fun _ q => q) rs1 r1 e
      obtain ⟨A', vs, eA, hv, rl⟩ := lstOf_sq rs1 r1 e
      cases eA
      exact ⟨A, vs, rfl, .inl ⟨sq_of hv, by rw [← rl.length]; exact q1 m1 H1 _ Ext.refl rs1 (ry_rev h)⟩⟩
    cases d with
    | tup k =>
      cases e
      obtain ⟨A, rfl, h⟩ := tupAt_of r1
      obtain ⟨vs, hv, rl⟩ := h m1 H1 Ext.refl
      exact ⟨A, vs, rfl, .inr ⟨hv, by rw [← rl.length]; exact q1 m1 H1 _ Ext.refl rs1 (ry_revT h)⟩⟩
    | lst k => exact viaL r1 e q1
    | ref k => exact viaL r1 e q1
    | _ => cases e
  · exact q1.elim
/-! #### targets -/
def idxs : Tg → List Nat
  | .nm i => [i]
  | .tp is => is
/-- what a target leaves as it was -/
def Same (is : List Nat) (σ σ' : L2.St) : Prop := σ'.length = σ.length ∧ ∀ j, j ∉ is → σ'[j]? = σ[j]?
def gT (G : Pg) (tg : Tg) : TG := fun v σ H Q => ∃ m ρ S d ρ', RE G m H ρ σ ∧ RS G m H S ∧ Rep G m H d v ∧ setT tg d ρ S = some ρ' ∧ ∀ σ', RE G m H ρ' σ' → Same (idxs tg) σ σ' → Q σ' H
def gAll : List Nat → TGs
  | [] => gNil
  | i :: is => gCons (gName i) (gAll is)
theorem pgs_all (c : Ctx G n X s W) : ∀ {is : List Nat} {es : List Expr}, tgsB s is es = true → PGs X es (gAll is) ∧ (assignEach es X.env).length = es.length ∧ (assignEach es X.env).findIdx? (·.1) = none ∧ es.length = is.length
  | [], [], _ => ⟨pgs_nil, rfl, rfl, rfl⟩
  | i :: is, e :: es, h => by
    simp only [tgsB, Bool.and_eq_true] at h
    obtain ⟨h1, h2⟩ := h
    obtain ⟨q1, q2, q3, q4⟩ := pgs_all c h2
    split at h1
    · obtain ⟨p1, p2, p3⟩ := c.put h1
      refine ⟨pgs_cons (pg_name c.nN p1 p2 p3) q1 rfl, congrArg Nat.succ q2, ?_, congrArg Nat.succ q4⟩
      show (List.findIdx? (·.1) ((false, _) :: assignEach es X.env)) = none
      rw [List.findIdx?_cons]
      simp only [Bool.false_eq_true, if_false, q3, Option.map_none]
    · cases h1
  | [], _ :: _, h => by simp [tgsB] at h
  | _ :: _, [], h => by simp [tgsB] at h
theorem all_set {m : List Addr} {H : Hp} {Q : L2.St → Hp → Prop} : ∀ {is : List Nat} {ds : List D} {vs : List V} {ρ ρ' : Fr} {σ : L2.St}, RE G m H ρ σ → RepL G m H ds vs → setAll is ds ρ = some ρ' → (∀ σ', RE G m H ρ' σ' → Same is σ σ' → Q σ' H) → gAll is vs σ H Q
  | [], [], vs, ρ, ρ', σ, re, r, e, q => by
    simp only [setAll] at e
    cases e
    simp only [RepL] at r
    exact ⟨r, q σ re ⟨rfl, fun _ _ => rfl⟩⟩
  | i :: is, d :: ds, vs, ρ, ρ', σ, re, r, e, q => by
    simp only [setAll] at e
    simp only [RepL] at r
    obtain ⟨v, us, rfl, r1, r2⟩ := r
    refine ⟨v, us, rfl, ?_⟩
    refine all_set (re.set r1) r2 e fun σ' re' sm => q σ' re' ⟨by rw [sm.1]; simp, fun j hj => ?_⟩
    rw [sm.2 j (fun z => hj (List.mem_cons_of_mem _ z)), List.getElem?_set_ne]
    exact fun z => hj (by rw [z]; exact List.mem_cons_self ..)
  | [], _ :: _, _, _, _, _, _, _, e, _ => by simp [setAll] at e
  | _ :: _, [], _, _, _, _, _, _, e, _ => by simp [setAll] at e
theorem pg_imp {t t' : TG} (h : PG X tg t) (i : ∀ v σ H Q, t' v σ H Q → t v σ H Q) : PG X tg t' := ⟨fun pins s σ H v u Q I r q => h.run pins s σ H v u Q I r (i v σ H Q q)⟩
theorem r_tg (c : Ctx G n X s W) {t : Tg} (h : tgB s t tg = true) : PG X tg (gT G t) := by
  unfold tgB at h
  split at h
  · split at h
    · obtain ⟨p1, p2, p3⟩ := c.put h
      refine pg_imp (pg_name c.nN p1 p2 p3) fun v σ H Q ⟨m, ρ, S, d, ρ', re, rs, r, e, q⟩ => ?_
      simp only [setT] at e
      cases e
      refine q _ (re.set r) ⟨by simp, fun j hj => ?_⟩
      rw [List.getElem?_set_ne]
      exact fun z => hj (by rw [z]; exact List.mem_cons_self ..)
    · cases h
  · split at h
    · rename_i elts _ _
      simp only [Bool.and_eq_true, Bool.not_eq_true'] at h
      obtain ⟨hcm, h⟩ := h
      obtain ⟨h1, h2, h3, h4⟩ := pgs_all c h
      refine ⟨fun pins st σ H v u Q I rv ⟨m, ρ, S, d, ρ', re, rs, r, e, q⟩ => ?_⟩
      simp only [setT] at e
      split at e
      · rename_i k ek
        obtain ⟨A, vs, rfl, hp, rl⟩ := seqOf_sq rs r ek
        have fin := all_set re rl e q
        have hlen : vs.length = (assignEach elts X.env).length := by
          rw [h2, h4, ← rl.length]
          have : ∀ {is : List Nat} {ds : List D} {ρ ρ' : Fr}, setAll is ds ρ = some ρ' → ds.length = is.length := fun {is} => by
            induction is with
            | nil => intro ds ρ ρ' e; cases ds with
              | nil => rfl
              | cons _ _ => simp [setAll] at e
            | cons i is ih => intro ds ρ ρ' e; cases ds with
              | nil => simp [setAll] at e
              | cons _ _ => simp only [setAll] at e; simp only [List.length_cons, ih e]
          exact this e
        rcases hp with hp | hp
        · exact (pg_lst (c.calm hcm) h1 rfl h3).run pins st σ H _ u Q I rv ⟨A, vs, rfl, sq_of hp, hlen, fin⟩
        · exact (pg_tup (c.calm hcm) h1 rfl h3).run pins st σ H _ u Q I rv ⟨A, vs, rfl, by rw [c.K]; exact hp, hlen, fin⟩
      · cases e
    · cases h
/-! #### comprehensions -/
theorem wipe_get : ∀ (is : List Nat) (σ : L2.St) (j : Nat), (L2.wipe σ is)[j]? = if j ∈ is ∧ j < σ.length then some none else σ[j]?
  | [], σ, j => by simp [L2.wipe]
  | i :: is, σ, j => by
    simp only [L2.wipe]
    by_cases hij : i = j
    · subst hij
      rw [List.getElem?_set]
      simp only [if_true, L2.wipe_length, List.mem_cons, true_or, true_and]
      split
      · rfl
      · rename_i h
        rw [List.getElem?_eq_none (by omega)]
    · rw [List.getElem?_set_ne hij, wipe_get is σ j]
      simp only [List.mem_cons, show (j = i) = False from eq_false (Ne.symm hij), false_or]
theorem wipe_same {is own : List Nat} {σ σ' : L2.St} (h : Same is (L2.wipe σ own) σ') (hs : ∀ i ∈ is, i ∈ own) : L2.wipe σ' own = L2.wipe σ own := by
  apply List.ext_getElem?
  intro j
  have hl : σ'.length = σ.length := by rw [h.1, L2.wipe_length]
  rw [wipe_get, wipe_get, hl]
  by_cases hj : j ∈ own ∧ j < σ.length
  · rw [if_pos hj, if_pos hj]
  · rw [if_neg hj, if_neg hj]
    by_cases hj2 : j ∈ own
    · have : ¬ j < σ.length := fun z => hj ⟨hj2, z⟩
      rw [List.getElem?_eq_none (by omega), List.getElem?_eq_none (by omega)]
    · rw [h.2 j (fun z => hj2 (hs j z)), wipe_get, if_neg (fun z => hj2 z.1)]
/-- no exception -/
def noW : WX := fun _ _ _ _ => False
theorem takesN : L2N.Takes X noW := fun _ _ ⟨_, _, _, _, _, _, _, _, _, _, _, _, _, _, _, _, z⟩ => z.elim
theorem fin_nox {σ : L2.St} {m : List Addr} {H : Hp} {α γ δ : Type} {R' : List Addr → Hp → γ → δ → Prop} {r : Rs α} {k : α → Store → Rs γ} {t : Tag k} {K : γ → Store → List Addr → Hp → δ → Prop} (h : Fin G W σ R' m H (r.nox.th k t) K) : ∃ a S', r = .ok a S' ∧ Fin G W σ R' m H (k a S') K := by
  cases r with
  | ok a S' => exact ⟨a, S', rfl, h⟩
  | ex _ _ _ => exact h.elim
  | bad => exact h.elim
/-- a result that is reached: its reading, whatever is asked of exceptions -/
theorem fin_ok {σ σ' : L2.St} {W' : WX} {m : List Addr} {H : Hp} {α β γ : Type} {R : List Addr → Hp → α → β → Prop} {r : Rs α} {k : α → Store → Rs γ} {t : Tag k} {c : γ} {S' : Store} {K : α → Store → List Addr → Hp → β → Prop} (h : r.th k t = .ok c S')
    (q : ∀ a S1 m' H' v, k a S1 = .ok c S' → r = .ok a S1 → Ext m H m' H' → RS G m' H' S1 → R m' H' a v → K a S1 m' H' v) : Fin G W' σ' R m H r K := by
  cases r with
  | ok a S1 => exact fun m' H' v x rs' r => q a S1 m' H' v h rfl x rs' r
  | ex _ _ _ => cases h
  | bad => cases h
theorem fin_th {α γ : Type} {r : Rs α} {k : α → Store → Rs γ} {t : Tag k} {c : γ} {S' : Store} (h : r.th k t = .ok c S') : ∃ a S1, r = .ok a S1 ∧ k a S1 = .ok c S' := by
  cases r with
  | ok a S1 => exact ⟨a, S1, rfl, h⟩
  | ex _ _ _ => cases h
  | bad => cases h
/-- a reading that ends well, exceptions or no -/
theorem tX.okk {α β : Type} {R : List Addr → Hp → α → β → Prop} {ev : Fr → Store → Rs α} {σ : L2.St} {m : List Addr} {H : Hp} {ρ : Fr} {S S' : Store} {a : α} {Q : β → Hp → Prop} (re : RE G m H ρ σ) (rs : RS G m H S) (e : ev ρ S = .ok a S')
    (q : ∀ m' H' v, Ext m H m' H' → RE G m' H' ρ σ → RS G m' H' S' → R m' H' a v → Q v H') : tX G W R ev σ H Q :=
  ⟨m, ρ, S, re, rs, by rw [e]; exact fun m' H' v x rs' r => q m' H' v x (re.mono x) rs' r⟩
theorem lc_run {t : Tg} {cnd : Exo} {e0 : Ex} {ρ : Fr} {g : Gd} {k : Nat} {D : Addr} {J : It} {ds0 : List Ev.D} {m0 : List Addr} {H0 : Hp} {own : List Nat} {σ : L2.St} {Sf : Store} {Q : Hp → Prop} (ry : RY G m0 H0 (ds0, g) J) (hs : ∀ i ∈ idxs t, i ∈ own) (re0 : RE G m0 H0 ρ (L2.wipe σ own))
    (fin : ∀ m H, Ext m0 H0 m H → RS G m H Sf → m[k]? = some D → Q H) :
    ∃ W : Nat → Nat → Hp → Prop, (∀ m H S, Ext m0 H0 m H → RS G m H S → m[k]? = some D → lcL t (fun ρ S => evC C cnd ρ S) (fun ρ S => evE C e0 ρ S) ρ g k ds0 S = .ok () Sf → W 0 ds0.length H) ∧ ∀ i m H, W i m H →
      (J.stop i H ∧ Q H) ∨ (J.go i H ∧ ∃ Nx : Hp → Prop, (∀ H', Nx H' → ∃ m', m' < m ∧ W (i + 1) m' H') ∧ ∀ x H', J.yld i H x H' → gT G t x (L2.wipe σ own) H' fun σ2 H2 => L2.wipe σ2 own = L2.wipe σ own ∧ tT G noW (evC C cnd) σ2 H2 fun b H3 =>
        if b = true then tE G noW (evE C e0) σ2 H3 fun y H4 => ∃ acc, H4 D = some (.lst acc) ∧ acc.length < sizeLine ∧ Nx (upd H4 D (.lst (acc ++ [y]))) else Nx H3) := by
  refine ⟨fun i j H => ∃ m S, j = ds0.length - i ∧ i ≤ ds0.length ∧ Ext m0 H0 m H ∧ RS G m H S ∧ m[k]? = some D ∧ lcL t (fun ρ S => evC C cnd ρ S) (fun ρ S => evE C e0 ρ S) ρ g k (ds0.drop i) S = .ok () Sf, fun m H S x rs hm e => ⟨m, S, rfl, Nat.zero_le _, x, rs, hm, e⟩, ?_⟩
  rintro i j H ⟨m, S, rfl, hi, x, rs, hm, e⟩
  by_cases hlt : i < ds0.length
  · have hd : ds0.drop i = ds0[i] :: ds0.drop (i + 1) := List.drop_eq_getElem_cons hlt
    rw [hd] at e
    simp only [lcL] at e
    split at e
    · rename_i hg
      obtain ⟨go, yl⟩ := (ry m H S x rs hg i).1 ds0[i] (List.getElem?_eq_getElem hlt)
      split at e
      · rename_i ρ1 et
        refine .inr ⟨go, fun H' => ∃ m' S', Ext m0 H0 m' H' ∧ RS G m' H' S' ∧ m'[k]? = some D ∧ lcL t (fun ρ S => evC C cnd ρ S) (fun ρ S => evE C e0 ρ S) ρ g k (ds0.drop (i + 1)) S' = .ok () Sf, ?_, ?_⟩
        · rintro H' ⟨m', S', x', rs', hm', e'⟩
          exact ⟨ds0.length - (i + 1), by omega, m', S', rfl, hlt, x', rs', hm', e'⟩
        · intro v H1 hy
          obtain ⟨x1, rs1, r1⟩ := yl v H1 hy
          refine ⟨m, ρ, S, ds0[i], ρ1, (re0.mono x).mono x1, rs1, r1, et, fun σ2 re2 sm => ⟨wipe_same sm hs, ?_⟩⟩
          obtain ⟨b, S2, eb, e3⟩ := fin_th e
          refine tX.okk re2 rs1 eb fun m2 H2 b' x2 re3 rs2 rb => ?_
          have eb' : b = b' := rb
          subst eb'
          cases b with
          | false => exact ⟨m2, S2, (x.trans x1).trans x2, rs2, pre_get x2.pre hm, e3⟩
          | true =>
            simp only [if_true] at e3 ⊢
            obtain ⟨d, S3, ed, e4⟩ := fin_th e3
            refine tX.okk re3 rs2 ed fun m3 H3 y x3 re4 rs3 ry3 => ?_
            have hm3 := pre_get (x2.trans x3).pre hm
            split at e4
            · rename_i acc ea
              split at e4
              · rename_i hz
                obtain ⟨p, hp, vs, hv, rl⟩ := rs3.cel _ _ ea
                rw [hm3] at hp
                cases hp
                refine ⟨vs, hv, by rw [← rl.length, ← lim]; exact hz, ?_⟩
                have xw : Ext m3 H3 m3 (upd H3 D (.lst (vs ++ [y]))) := Ext.write (List.mem_of_getElem? hm3) (NF.of hv fun _ _ z => nomatch z)
                exact ⟨m3, _, ((x.trans x1).trans (x2.trans x3)).trans xw, rs3.write (c := .lst (acc ++ [d])) (NF.of hv fun _ _ z => nomatch z) hm3 ⟨_, upd_same, RepL.mono xw _ _ (rl.append (RepL.cons ry3 RepL.nil))⟩, hm3, e4⟩
              · cases e4
            · cases e4
      · cases e
    · cases e
  · have e1 : i = ds0.length := by omega
    have hd : ds0.drop i = [] := List.drop_eq_nil_of_le (by omega)
    rw [hd] at e
    simp only [lcL] at e
    split at e
    · rename_i hg
      cases e
      exact .inl ⟨(ry m H _ x rs hg i).2 e1.symm, fin m H x rs hm⟩
    · cases e
theorem blk_ctx (c : Ctx G n X s W) (hcm : s.hot = false) {sc : Scope} (st : Shared) (H : Hp) (Ca : Addr) (cl : List (Str × Addr)) (fp : List Addr) : Ctx G n (X.blk st H sc (compEnvC sc cl Ca X.env) fp) ⟨s.N, L2.relS sc s.sc, some sc, s.hot⟩ noW where
  prog := c.prog
  w := c.w
  K := c.K
  mg := c.mg
  base := c.base
  N := c.N
  nd := c.nd
  sc := by
    show L2.relS sc X.env.scope = _
    rw [c.sc]
  fn := fun x hx hbk => by
    have := hbk sc rfl
    show (sc.names.lookup x == some .cell) = true
    rw [this]; rfl
  tk := takesN
  cm := fun _ => ⟨(c.cm hcm).1, ⟨(c.cm hcm).2.1.hd, c.rm.dp, c.rm.un⟩, (c.cm hcm).2.2.1, (c.cm hcm).2.2.2⟩
  ht := fun (h : s.hot = true) => by rw [hcm] at h; cases h
  lvh := c.lvh
  rm := ⟨c.rm.dp, c.rm.un⟩
theorem hblk_ctx (c : Ctx G n X s W) (hh : s.hot = true) {sc : Scope} (st : Shared) (H : Hp) (Ca : Addr) (cl : List (Str × Addr)) (fp : List Addr) : Ctx G n (hblk X st H sc (compEnvC sc cl Ca X.env) fp) ⟨s.N, L2.relS sc s.sc, some sc, s.hot⟩ noW where
  prog := c.prog
  w := c.w
  K := c.K
  mg := c.mg
  base := c.base
  N := c.N
  nd := c.nd
  sc := (congrArg (L2.relS sc) c.sc : _)
  fn := fun x _ hbk => show (sc.names.lookup x == some .cell) = true by
    rw [hbk sc rfl]
    rfl
  tk := takesN
  cm := fun (h : s.hot = false) => by rw [hh] at h; cases h
  ht := fun _ => c.ht hh
  lvh := c.lvh
  rm := ⟨c.rm.dp, c.rm.un⟩
theorem own_map {N : List Str} (own : List Nat) : (own.map fun j => (N.getD j "", j)).map (fun x => x.2) = own := by
  rw [List.map_map]
  show own.map id = own
  exact List.map_id _
theorem lc_read {k : Bool} {own : List Nat} {t : Tg} {it : Iter} {cnd : Exo} {e0 : Ex} (hs : ∀ i ∈ idxs t, i ∈ own) (σ : L2.St) (H : Hp) (Q : VK) (h : tE G W (evE C (.lc k own t it cnd e0)) σ H Q) : tLc (tW G W (evW C it)) (gT G t) (tT G noW (evC C cnd)) (tE G noW (evE C e0)) own σ H Q := by
  obtain ⟨m, ρ, S, re, rs, q⟩ := h
  simp only [evE] at q
  refine tX.go re rs q fun p S1 m1 H1 J x1 re1 rs1 ry q1 => ?_
  obtain ⟨_, S2, e2, q2⟩ := fin_nox q1
  intro D hD
  have xc : Ext m1 H1 (m1 ++ [D]) (upd H1 D (.lst [])) := Ext.cell hD
  have rsc : RS G (m1 ++ [D]) (upd H1 D (.lst [])) (S1 ++ [.lst []]) := rs1.cell hD ⟨[], upd_same, RepL.nil⟩
  have hk : (m1 ++ [D])[S1.length]? = some D := by rw [← rs1.len]; simp
  have hDm : D ∉ m1 := rs1.fresh hD
  obtain ⟨Wd, w0, wn⟩ := lc_run (C := C) (cnd := cnd) (e0 := e0) (k := S1.length) (D := D) (Sf := S2) (Q := Q (.ref D)) (g := p.2) (ds0 := p.1) (t := t) (own := own) (σ := σ) (ρ := Ev.wipe ρ own) ry hs (re1.wipe own) fun m' H' x' rs' hm' => by
    unfold lcE at q2
    split at q2
    · rename_i l el
      obtain ⟨p', hp', vs, hv, rl⟩ := rs'.cel _ _ el
      rw [hm'] at hp'
      cases hp'
      split at q2
      · exact q2 m' H' _ x' rs' (rep_ref hm')
      · split at q2
        · rename_i hcut
          rw [Bool.and_eq_true] at hcut
          obtain ⟨rs4, x4⟩ := rs'.drop x' rs1 hcut.1
          exact q2 m1 H' _ x4 rs4 (rep_lst ⟨hDm, .inl hv⟩ (RepL.less x'.pre _ _ (by rw [rs1.len]; exact hcut.2) rl))
        · exact q2 m' H' _ x' rs' (rep_ref hm')
    · exact q2.elim
  exact ⟨Wd, ⟨_, w0 _ _ _ xc rsc hk e2⟩, wn⟩
theorem r_lc (c : Ctx G n X s W) {k : Bool} {own : List Nat} {t : Tg} {it : Iter} {cnd : Exo} {e0 : Ex} {elt tgE iter : Expr} {ifs : List Expr} {sc : Scope} (hi : (s.hot = false → PI X tgE iter (tW G W (evW C it))) ∧ (s.hot = true → L2H.PIH X tgE iter (tW G W (evW C it)))) (hns : noSet iter = true)
    (hb : L2.blkC s.N s.sc sc (own.map fun j => (s.N.getD j "", j)) = true) (hs : ∀ i ∈ idxs t, i ∈ own)
    (ht : ∀ X', Ctx G n X' ⟨s.N, L2.relS sc s.sc, some sc, s.hot⟩ noW → PG X' tgE (gT G t) ∧ PTs X' ifs (tT G noW (evC C cnd)) ∧ PE X' elt (tE G noW (evE C e0))) :
    PE X (.ListComp elt [⟨tgE, iter, ifs, 0⟩] sc pos) (tE G W (evE C (.lc k own t it cnd e0))) := by
  cases hh : s.hot with
  | false =>
    have q0 := pe_lc (pos := pos) (c.calm hh) c.nN (hi.1 hh) (blkOk_by (by rw [c.N, c.sc]; exact hb)) (fun st H Ca cl fp => (ht _ (blk_ctx c hh st H Ca cl fp)).1) (fun st H Ca cl fp => (ht _ (blk_ctx c hh st H Ca cl fp)).2.1) (fun st H Ca cl fp => (ht _ (blk_ctx c hh st H Ca cl fp)).2.2) (folded_of hns)
    rw [own_map] at q0
    exact pe_imp q0 (lc_read hs)
  | true =>
    have q0 := pe_lcH (pos := pos) (c.ht hh) c.nN (hi.2 hh) (blkOk_by (by rw [c.N, c.sc]; exact hb)) (fun st H Ca cl fp => ht _ (hblk_ctx c hh st H Ca cl fp)) (folded_of hns)
    rw [own_map] at q0
    exact pe_imp q0 (lc_read hs)
theorem idxs_eq (t : Tg) : tgIx t = idxs t := by cases t <;> rfl
theorem lc2_run {t t2 : Tg} {cnd cnd2 : Exo} {it2 : Iter} {e0 : Ex} {ρ : Fr} {g : Gd} {k : Nat} {D : Addr} {J : It} {ds0 : List Ev.D} {m0 : List Addr} {H0 : Hp} {own : List Nat} {σ : L2.St} {Sf : Store} {Q : Hp → Prop} (ry : RY G m0 H0 (ds0, g) J) (hs : ∀ i ∈ idxs t, i ∈ own) (re0 : RE G m0 H0 ρ (L2.wipe σ own))
    (fin : ∀ m H, Ext m0 H0 m H → RS G m H Sf → m[k]? = some D → Q H) :
    ∃ W : Nat → Nat → Hp → Prop, (∀ m H S, Ext m0 H0 m H → RS G m H S → m[k]? = some D → lcL2 t (fun ρ S => evC C cnd ρ S) (fun ρ S => evW C it2 ρ S) t2 (fun ρ S => evC C cnd2 ρ S) (fun ρ S => evE C e0 ρ S) ρ g k ds0 S = .ok () Sf → W 0 ds0.length H) ∧ ∀ i m H, W i m H →
      (J.stop i H ∧ Q H) ∨ (J.go i H ∧ ∃ Nx : Hp → Prop, (∀ H', Nx H' → ∃ m', m' < m ∧ W (i + 1) m' H') ∧ ∀ x H', J.yld i H x H' → gT G t x (L2.wipe σ own) H' fun σ2 H2 => L2.wipe σ2 own = L2.wipe σ own ∧ tT G noW (evC C cnd) σ2 H2 fun b H3 =>
        if b = true then tW G noW (evW C it2) σ2 H3 fun J1 H4 => ∃ W1 : Nat → Nat → Hp → Prop, (∃ m, W1 0 m H4) ∧ ∀ j k H, W1 j k H →
          (J1.stop j H ∧ Nx H) ∨ (J1.go j H ∧ ∃ Nx1 : Hp → Prop, (∀ H', Nx1 H' → ∃ k', k' < k ∧ W1 (j + 1) k' H') ∧ ∀ x H', J1.yld j H x H' → gT G t2 x (L2.wipe σ2 (idxs t2)) H' fun σ3 H5 => L2.wipe σ3 (idxs t2) = L2.wipe σ2 (idxs t2) ∧ tT G noW (evC C cnd2) σ3 H5 fun b H6 =>
            if b = true then tE G noW (evE C e0) σ3 H6 fun y H7 => ∃ acc, H7 D = some (.lst acc) ∧ acc.length < sizeLine ∧ Nx1 (upd H7 D (.lst (acc ++ [y]))) else Nx1 H6)
        else Nx H3) := by
  refine ⟨fun i j H => ∃ m S, j = ds0.length - i ∧ i ≤ ds0.length ∧ Ext m0 H0 m H ∧ RS G m H S ∧ m[k]? = some D ∧ lcL2 t (fun ρ S => evC C cnd ρ S) (fun ρ S => evW C it2 ρ S) t2 (fun ρ S => evC C cnd2 ρ S) (fun ρ S => evE C e0 ρ S) ρ g k (ds0.drop i) S = .ok () Sf, fun m H S x rs hm e => ⟨m, S, rfl, Nat.zero_le _, x, rs, hm, e⟩, ?_⟩
  rintro i j H ⟨m, S, rfl, hi, x, rs, hm, e⟩
  by_cases hlt : i < ds0.length
  · have hd : ds0.drop i = ds0[i] :: ds0.drop (i + 1) := List.drop_eq_getElem_cons hlt
    rw [hd] at e
    simp only [lcL2] at e
    split at e
    · rename_i hg
      obtain ⟨go, yl⟩ := (ry m H S x rs hg i).1 ds0[i] (List.getElem?_eq_getElem hlt)
      split at e
      · rename_i ρ1 et
        refine .inr ⟨go, fun H' => ∃ m' S', Ext m0 H0 m' H' ∧ RS G m' H' S' ∧ m'[k]? = some D ∧ lcL2 t (fun ρ S => evC C cnd ρ S) (fun ρ S => evW C it2 ρ S) t2 (fun ρ S => evC C cnd2 ρ S) (fun ρ S => evE C e0 ρ S) ρ g k (ds0.drop (i + 1)) S' = .ok () Sf, ?_, ?_⟩
        · rintro H' ⟨m', S', x', rs', hm', e'⟩
          exact ⟨ds0.length - (i + 1), by omega, m', S', rfl, hlt, x', rs', hm', e'⟩
        · intro v H1 hy
          obtain ⟨x1, rs1, r1⟩ := yl v H1 hy
          refine ⟨m, ρ, S, ds0[i], ρ1, (re0.mono x).mono x1, rs1, r1, et, fun σ2 re2 sm => ⟨wipe_same sm hs, ?_⟩⟩
          obtain ⟨b, S2, eb, e3⟩ := fin_th e
          refine tX.okk re2 rs1 eb fun m2 H2 b' x2 re3 rs2 rb => ?_
          have eb' : b = b' := rb
          subst eb'
          cases b with
          | false => exact ⟨m2, S2, (x.trans x1).trans x2, rs2, pre_get x2.pre hm, e3⟩
          | true =>
            simp only [if_true] at e3 ⊢
            obtain ⟨p, S3, ed, e4⟩ := fin_th e3
            obtain ⟨_, S4, e5, e6⟩ := fin_th e4
            refine tX.okk re3 rs2 ed fun m3 H3 J1 x3 re4 rs3 ry3 => ?_
            have hm3 := pre_get (x2.trans x3).pre hm
            obtain ⟨W1, w1, w2⟩ := lc_run (C := C) (cnd := cnd2) (e0 := e0) (k := k) (D := D) (Sf := S4) (Q := fun H' => ∃ m' S', Ext m0 H0 m' H' ∧ RS G m' H' S' ∧ m'[k]? = some D ∧ lcL2 t (fun ρ S => evC C cnd ρ S) (fun ρ S => evW C it2 ρ S) t2 (fun ρ S => evC C cnd2 ρ S) (fun ρ S => evE C e0 ρ S) ρ g k (ds0.drop (i + 1)) S' = .ok () Sf) (g := p.2) (ds0 := p.1) (t := t2) (own := idxs t2) (σ := σ2) (ρ := Ev.wipe ρ1 (tgIx t2)) ry3 (fun _ h => h) (by rw [idxs_eq]; exact re4.wipe _) fun m' H' x' rs' hm' => ⟨m', S4, ((x.trans x1).trans (x2.trans x3)).trans x', rs', hm', e6⟩
            exact ⟨W1, ⟨_, w1 _ _ _ Ext.refl rs3 hm3 e5⟩, w2⟩
      · cases e
    · cases e
  · have e1 : i = ds0.length := by omega
    have hd : ds0.drop i = [] := List.drop_eq_nil_of_le (by omega)
    rw [hd] at e
    simp only [lcL2] at e
    split at e
    · rename_i hg
      cases e
      exact .inl ⟨(ry m H _ x rs hg i).2 e1.symm, fin m H x rs hm⟩
    · cases e
theorem lc2_read {k : Bool} {own : List Nat} {t t2 : Tg} {it it2 : Iter} {cnd cnd2 : Exo} {e0 : Ex} (hs : ∀ i ∈ idxs t, i ∈ own) (σ : L2.St) (H : Hp) (Q : VK) (h : tE G W (evE C (.lc2 k own t it cnd t2 it2 cnd2 e0)) σ H Q) : tLc2 (tW G W (evW C it)) (gT G t) (tT G noW (evC C cnd)) (tW G noW (evW C it2)) (gT G t2) (tT G noW (evC C cnd2)) (tE G noW (evE C e0)) own (idxs t2) σ H Q := by
  obtain ⟨m, ρ, S, re, rs, q⟩ := h
  simp only [evE] at q
  refine tX.go re rs q fun p S1 m1 H1 J x1 re1 rs1 ry q1 => ?_
  obtain ⟨_, S2, e2, q2⟩ := fin_nox q1
  intro D hD
  have xc : Ext m1 H1 (m1 ++ [D]) (upd H1 D (.lst [])) := Ext.cell hD
  have rsc : RS G (m1 ++ [D]) (upd H1 D (.lst [])) (S1 ++ [.lst []]) := rs1.cell hD ⟨[], upd_same, RepL.nil⟩
  have hk : (m1 ++ [D])[S1.length]? = some D := by rw [← rs1.len]; simp
  have hDm : D ∉ m1 := rs1.fresh hD
  obtain ⟨Wd, w0, wn⟩ := lc2_run (C := C) (cnd := cnd) (it2 := it2) (t2 := t2) (cnd2 := cnd2) (e0 := e0) (k := S1.length) (D := D) (Sf := S2) (Q := Q (.ref D)) (g := p.2) (ds0 := p.1) (t := t) (own := own) (σ := σ) (ρ := Ev.wipe ρ own) ry hs (re1.wipe own) fun m' H' x' rs' hm' => by
    unfold lcE at q2
    split at q2
    · rename_i l el
      obtain ⟨p', hp', vs, hv, rl⟩ := rs'.cel _ _ el
      rw [hm'] at hp'
      cases hp'
      split at q2
      · exact q2 m' H' _ x' rs' (rep_ref hm')
      · split at q2
        · rename_i hcut
          rw [Bool.and_eq_true] at hcut
          obtain ⟨rs4, x4⟩ := rs'.drop x' rs1 hcut.1
          exact q2 m1 H' _ x4 rs4 (rep_lst ⟨hDm, .inl hv⟩ (RepL.less x'.pre _ _ (by rw [rs1.len]; exact hcut.2) rl))
        · exact q2 m' H' _ x' rs' (rep_ref hm')
    · exact q2.elim
  exact ⟨Wd, ⟨_, w0 _ _ _ xc rsc hk e2⟩, wn⟩
theorem r_lc2 (c : Ctx G n X s W) (hcm : s.hot = false) {k : Bool} {own : List Nat} {t t2 : Tg} {it it2 : Iter} {cnd cnd2 : Exo} {e0 : Ex} {elt tgE iter tgE2 iter2 : Expr} {ifs ifs2 : List Expr} {sc : Scope} (hi : PI X tgE iter (tW G W (evW C it))) (hns : noSet iter = true) (hns2 : noSet iter2 = true)
    (hb : L2.blkC s.N s.sc sc (own.map fun j => (s.N.getD j "", j)) = true) (hs : ∀ i ∈ idxs t, i ∈ own) (hs2 : ∀ i ∈ idxs t2, i ∈ own)
    (ht : ∀ X', Ctx G n X' ⟨s.N, L2.relS sc s.sc, some sc, s.hot⟩ noW → PG X' tgE (gT G t) ∧ PTs X' ifs (tT G noW (evC C cnd)) ∧ PI X' tgE2 iter2 (tW G noW (evW C it2)) ∧ PG X' tgE2 (gT G t2) ∧ PTs X' ifs2 (tT G noW (evC C cnd2)) ∧ PE X' elt (tE G noW (evE C e0))) :
    PE X (.ListComp elt [⟨tgE, iter, ifs, 0⟩, ⟨tgE2, iter2, ifs2, 0⟩] sc pos) (tE G W (evE C (.lc2 k own t it cnd t2 it2 cnd2 e0))) := by
  have q0 := pe_lc2 (pos := pos) (vs1 := idxs t2) (c.calm hcm) c.nN hi (blkOk_by (by rw [c.N, c.sc]; exact hb)) (by rw [own_map]; exact hs2) (fun st H Ca cl fp => (ht _ (blk_ctx c hcm st H Ca cl fp)).1) (fun st H Ca cl fp => (ht _ (blk_ctx c hcm st H Ca cl fp)).2.1) (fun st H Ca cl fp => (ht _ (blk_ctx c hcm st H Ca cl fp)).2.2.1) (fun st H Ca cl fp => (ht _ (blk_ctx c hcm st H Ca cl fp)).2.2.2.1) (fun st H Ca cl fp => (ht _ (blk_ctx c hcm st H Ca cl fp)).2.2.2.2.1) (fun st H Ca cl fp => (ht _ (blk_ctx c hcm st H Ca cl fp)).2.2.2.2.2) (folded_of hns) (fun _ => folded_of hns2)
  rw [own_map] at q0
  exact pe_imp q0 (lc2_read hs)
end
end Ev
end
section
set_option maxRecDepth 100000
set_option maxHeartbeats 4000000
/-! Ev: t[::-1] of a tuple, len and == of own instances, methods with keywords. -/
namespace Ev
open PySem PySem.Spec PyProof.Rows L2
/-! #### t[::-1] -/
section
variable {prog : Program} {w : World} {A : Around} {E : Value → Shared → Prop} {s : Shared}
theorem rev_places (n : Nat) : Builtin.Slice.slicePlaces ((n : Int) - 1) (-1) (-1) = n := by
  unfold Builtin.Slice.slicePlaces
  rw [if_neg (by decide)]
  split <;> (first | omega | (rw [show -(-1 : Int) = 1 from rfl, Int.ediv_one]; omega))
theorem rev_items (l : List Value) : ((List.range l.length).filterMap fun (k : Nat) => l.toArray[((l.length : Int) - 1 + (k : Int) * -1).toNat]?).toArray = l.reverse.toArray := by
  have main : ∀ (ks : List Nat), (∀ k ∈ ks, k < l.length) → (ks.filterMap fun (k : Nat) => l.toArray[((l.length : Int) - 1 + (k : Int) * -1).toNat]?) = ks.map fun k => l.reverse.getD k .none := by
    intro ks
    induction ks with
    | nil => intro _; rfl
    | cons k ks ih =>
      intro h
      have hk := h k List.mem_cons_self
      have e1 : ((l.length : Int) - 1 + (k : Int) * -1).toNat = l.length - 1 - k := by omega
      have e2 : l.toArray[l.length - 1 - k]? = some (l.reverse.getD k .none) := by
        rw [List.getD_eq_getElem?_getD, List.getElem?_reverse hk, List.getElem?_toArray, List.getElem?_eq_getElem (show l.length - 1 - k < l.length by omega)]
        rfl
      rw [List.filterMap_cons, e1, e2, List.map_cons, ih fun x hx => h x (List.mem_cons_of_mem _ hx)]
  rw [main _ fun k hk => List.mem_range.mp hk]
  congr 1
  apply List.ext_getElem
  · simp
  · intro i h1 h2
    rw [List.length_map, List.length_range] at h1
    simp [h1]
theorem getItem_rev {t sl : Addr} {l : List Value} {vs : Value} {Q : Value → Shared → Prop} (ht : IsTup s.heap t l.toArray) (hs : s.heap.IsSliceOf sl .none .none vs) (ps : IsPart vs (some (-1)))
    (h : Q (.ref s.heap.objs.size) { s with heap := s.heap.push { cls := .type "tuple", data := .seq l.reverse.toArray } }) (hz : l.length ≤ sizeLine) : wpAny (model prog w) A (getItem (.ref t) (.ref sl)) Q E s := by
  have small : sizeOk (.seq l.reverse.toArray) := by
    show l.reverse.toArray.size ≤ sizeLine
    rw [List.size_toArray, List.length_reverse]
    exact hz
  obtain ⟨os, o1, o2, o3⟩ := id hs
  have isSl : s.TypeIs (.ref sl) "slice" := ⟨os, o1, o2⟩
  unfold getItem
  try with_reducible refine wpAny_holding ?_
  first | refine wpAny_bind (wpAny_pure ?_) | skip
  refine wpAny_bind (wpAny_sequenceKey ht.typeIs (by decide) (wpAny_bind (wpAny_callSpecial?_slot (name := Str.ofString "__getitem__") ht.typeIs slot_tuple_getitem (wpAny_call_entry slot_tuple_getitem ht.typeIs entry_tuple_getitem ?_ (args_tuple_getitem _ _)))))
  show wpAny _ _ (Builtin.Tuple.tupleItemsOf (.ref t) >>= _) _ _ s
  refine wpAny_bind (tupleItemsOf_ ht (wpAny_bind (wpAny_typeOf isSl ?_)))
  rw [if_pos (by decide)]
  have app : ∀ {Q' : Int × Int × Nat → Shared → Prop}, Q' ((l.length : Int) - 1, -1, l.length) s → ∀ {B : Around} {E' : Value → Shared → Prop}, wpAny (model prog w) B (Builtin.Slice.sliceApplied (.ref sl) (pure (l.toArray.size : Int))) Q' E' s := fun {Q'} q {B E'} => by
    unfold Builtin.Slice.sliceApplied Builtin.Slice.sliceFields
    refine wpAny_bind (wpAny_bind (wpAny_field o1 o3 (x := .none) rfl (wpAny_bind (wpAny_field o1 o3 (x := .none) rfl (wpAny_bind (wpAny_field o1 o3 (x := vs) rfl (wpAny_pure ?_)))))))
    refine wpAny_bind (HT.slicePart_ ps ?_)
    show wpAny _ _ (if ((-1 : Int) == 0) = true then _ else _) _ _ s
    rw [if_neg (by decide)]
    refine wpAny_bind (slicePart_none (wpAny_bind (slicePart_none (wpAny_bind (wpAny_pure ?_)))))
    show wpAny _ _ (match Builtin.Slice.sliceAdjust none none (-1) (l.toArray.size : Int) with | (lo, hi) => pure (lo, (-1 : Int), Builtin.Slice.slicePlaces lo hi (-1))) _ _ s
    have e : Builtin.Slice.sliceAdjust none none (-1) (l.toArray.size : Int) = ((l.length : Int) - 1, -1) := by
      unfold Builtin.Slice.sliceAdjust
      rw [List.size_toArray]
      rfl
    rw [e]
    show wpAny _ _ (pure ((l.length : Int) - 1, (-1 : Int), Builtin.Slice.slicePlaces ((l.length : Int) - 1) (-1) (-1))) _ _ s
    rw [rev_places]
    exact wpAny_pure q
  refine wpAny_bind (app ?_)
  show wpAny _ _ (if (((l.length : Int) - 1 == 0) && ((-1 : Int) == 1) && (l.length == l.toArray.size)) = true then _ else _) _ _ s
  rw [if_neg (by simp), rev_items]
  first
    | exact wpAny_bind (m := Builtin.Tuple.tupleExact _) (wpAny_newObj_type (wpAny_pure ⟨_, rfl, wpAny_pure h⟩) small)
    | exact wpAny_bind (wpAny_bind (m := Builtin.Tuple.tupleExact _) (wpAny_newObj_type (wpAny_pure (wpAny_pure ⟨_, rfl, wpAny_pure h⟩)) small))
    | exact wpAny_bind (m := Builtin.Tuple.tupleExact _) (wpAny_newObj_type (wpAny_bind (wpAny_pure (wpAny_pure ⟨_, rfl, wpAny_pure h⟩))) small)
end
/-- t[::-1] -/
def tRevT (K : PySem.W.Frag) (te : TE) : TE := fun σ H Q => te σ H fun x H1 => ∃ a xs, x = .ref a ∧ SqT K H1 a xs ∧ ∀ p, H1 p = none → Q (.ref p) (upd H1 p (.tup xs.reverse))
theorem pe_revT {X : Cx} {e : Expr} {te : TE} {k : Nat} {p1 p2 p3 pos : Pos} (he : PE X e te) : PE X (.Subscript e (.Slice none none (some (.UnaryOp .USub (.Constant (.int 1) k p1) p2)) p3) pos) (tRevT X.K te) := by
  refine ⟨fun pins s σ H Q I h => Subscript_ (thn (he.run pins s σ H _ I h) fun v s1 ⟨x, H1, I1, r1, a, xs, ex, hx, q⟩ => ?_)⟩
  subst ex
  cases r1
  have hst : PO X (some (.UnaryOp .USub (.Constant (.int 1) k p1) p2)) (tPart (tUn (rU fun i => .int (-i)) (tC (.int 1)))) := po_some (pe_un un_neg pe_int)
  refine wpAny_Slice (thn (po_none.run pins s1 σ H1 (fun o H2 => o = none ∧ H2 = H1) I1 ⟨rfl, rfl⟩) fun v1 s2 b1 => ?_)
  obtain ⟨o1, H2, I2, c1, rfl, rfl⟩ := b1
  refine thn (po_none.run pins s2 σ _ (fun o H3 => o = none ∧ H3 = H2) I2 ⟨rfl, rfl⟩) fun v2 s3 b2 => ?_
  obtain ⟨o2, H3, I3, c2, rfl, rfl⟩ := b2
  refine thn (hst.run pins s3 σ _ (fun o H4 => o = some (-1) ∧ H4 = H3) I3 ⟨1, rfl, -1, rfl, rfl, rfl⟩) fun v3 s4 b3 => ?_
  obtain ⟨o3, H4, I4, c3, rfl, rfl⟩ := b3
  cases c1
  cases c2
  have I5 : L2.Inv X pins σ H4 { s4 with heap := s4.heap.push { cls := .type "slice", data := .fields #[.none, .none, v3] } } := I4.kept (t' := s4.toks) fun b ob z => Heap.get?_push_of_some _ z
  obtain ⟨its, r, ht, hz⟩ := I5.tuple hx
  have hl := r.length
  show wpAny (model X.prog X.w) X.A (subscriptTail e (.Slice none none (some (.UnaryOp .USub (.Constant (.int 1) k p1) p2)) p3) (.ref a) (.ref s4.heap.objs.size)) (EP X pins σ Q) X.xe { s4 with heap := s4.heap.push { cls := .type "slice", data := .fields #[.none, .none, v3] } }
  have ht' : IsTup ({ s4 with heap := s4.heap.push { cls := .type "slice", data := .fields #[.none, .none, v3] } } : Shared).heap a its.toArray := ht
  refine tail_any (ops := [.ref a, .ref s4.heap.objs.size]) ht'.typeIs slot_tuple_getitem.lookup (getItem_rev ht' (Heap.IsSliceOf.new _ .none .none v3) c3 ?_ (by rw [← hl]; exact hz)) (by with_unfolding_all rfl)
  refine ⟨.ref _, _, I5.laid (t' := s4.toks) (o := .tup xs.reverse) (fun b ob z => Heap.get?_push_of_some _ z) (Nat.le_refl _) ?_, rfl, q _ (I5.hok.fresh (Nat.le_refl _))⟩
  exact ⟨by rw [List.length_reverse]; exact hz, its.reverse, r.reverse, ⟨_, Heap.get?_push_size _ rfl, rfl, _, rfl⟩⟩
section
variable {G : Pg} {n : Nat} {X : Cx} {s : Sx} {W : WX} {C : Cs} {e x y z : Expr} {p pos apos : Pos} {a b : Ex} {es : List Expr} {l l2 : Exs}
theorem r_slr (c : Ctx G n X s W) {k : Nat} {p1 p2 p3 : Pos} (ha : PE X x (tE G W (evE C a))) : PE X (.Subscript x (.Slice none none (some (.UnaryOp .USub (.Constant (.int 1) k p1) p2)) p3) pos) (tE G W (evE C (.slr a))) :=
  pe_imp (pe_revT ha) fun σ H Q ⟨m, ρ, S, re, rs, q⟩ => by
    simp only [evE] at q
    refine tX.go re rs q fun d S1 m1 H1 v1 x1 re1 rs1 r1 q1 => ?_
    unfold revR at q1
    split at q1
    · split at q1
      · obtain ⟨A, vs, rfl, f, rl⟩ := r1.tup_inv
        exact ⟨A, vs, rfl, by rw [c.K]; exact f.sq, fun p hp => fin_tup rs1 (RepL.reverse rl) hp (q1.toV (by intro _ _ _ z; cases z))⟩
      · exact q1.elim
    · exact q1.elim
/-- an instance whose class has the method -/
theorem inst_mth (hd : Hd G) {m : List Addr} {H : Hp} {S : Store} {d : D} {v : V} {f g : Nat} (rs : RS G m H S) (r : Rep G m H d v) (eg : mthOf G.T d f S = some g) :
    ∃ A k dx fs, v = .ref A ∧ H A = some (.ins (G.ca k) dx fs) ∧ k < G.T.cls.length ∧ clsD d S = some k ∧ g < G.T.fns.length ∧ Meth G.K (G.ca k) (G.att f) (G.fa g) ∧ fs.lookup (G.att f) = none := by
  have fin : ∀ k, mthC G.T k f = some g → k < G.T.cls.length ∧ g < G.T.fns.length ∧ Meth G.K (G.ca k) (G.att f) (G.fa g) := fun k h => by
    unfold mthC at h
    split at h
    · rename_i Cc hc
      obtain ⟨h1, h2⟩ := hd.mth k Cc f g hc h
      exact ⟨(List.getElem?_eq_some_iff.mp hc).1, h1, h2⟩
    · cases h
  unfold mthOf at eg
  split at eg
  · rename_i k l
    split at eg
    · cases eg
    · rename_i hc
      obtain ⟨A, vs, rfl, ⟨_, dx, hA⟩, r⟩ := r.obj_inv
      obtain ⟨h1, h2, h3⟩ := fin k eg
      exact ⟨A, k, dx, _, rfl, hA, h1, rfl, h2, h3, look_none hd (by simpa using hc)⟩
  · rename_i i
    split at eg
    · rename_i k fs es
      split at eg
      · cases eg
      · rename_i hc
        obtain ⟨A, rfl, hA⟩ := r.ref_inv
        obtain ⟨A', hA', dx, vs, hv, r⟩ := rs.cel _ _ es
        rw [hA] at hA'; cases hA'
        have hno := look_none hd (vs := vs) (show (fs.map (·.1)).contains f = false by simpa using hc)
        rw [List.map_map] at hno
        obtain ⟨h1, h2, h3⟩ := fin k eg
        exact ⟨A, k, dx, _, rfl, hv, h1, by simp only [clsD, es], h2, h3, hno⟩
    · cases eg
  · cases eg
theorem cls_ins (hd : Hd G) {m : List Addr} {H : Hp} {S : Store} {d : D} {v : V} {k : Nat} (rs : RS G m H S) (r : Rep G m H d v) (e : clsD d S = some k) : ∃ A dx fs, v = .ref A ∧ H A = some (.ins (G.ca k) dx fs) := by
  unfold clsD at e
  split at e
  · cases e
    obtain ⟨A, vs, rfl, ⟨_, dx, hA⟩, r⟩ := r.obj_inv
    exact ⟨A, dx, _, rfl, hA⟩
  · split at e
    · rename_i es
      cases e
      obtain ⟨A, rfl, hA⟩ := r.ref_inv
      obtain ⟨A', hA', dx, vs, hv, r⟩ := rs.cel _ _ es
      rw [hA] at hA'; cases hA'
      exact ⟨A, dx, _, rfl, hv⟩
    · cases e
  · cases e
/-- a def is run below the body -/
theorem run_at (np : NpOk G) (c : Ctx G n X s W) {k f : Nat} {B : Around} (hB : B.frames = X.A.frames) {pins : List (Addr × Obj)} {σ : L2.St} {H : Hp} {st : Shared} {Q : VK} {us zs : List Value} {kw : List (Str × Value)} {vs : List V} {m : List Addr} {S : Store} {ds : List D} (hk : LvOk G k) (hr : Room k B) (hf : f < G.T.fns.length)
    (b : BindsTo st (G.fd f) ⟨us, kw⟩ ((G.ps f).zip zs)) (I : L2.Inv X pins σ H st) (rv : Vals vs zs) (rs : RS G m H S) (r : RepL G m H ds vs) (h : Fin G noW σ (Rep G) m H (run G.T k f ds S) fun _ _ _ H' v => Q v H') :
    wpAny (model X.prog X.w) B (call (.ref (G.fa f)) us kw) (EP X pins σ Q) X.xe st := by
  have F := hk f hf
  rw [← c.prog, ← c.w, ← c.K, ← c.mg, ← c.base] at F
  have px := L2N.passAt (X := X) (W := noW) takesN σ
  have e0 := I.env0
  have e1 : Env0 X.prog X.w X.K X.mg X.base B X.stack st H := ⟨by rw [hB]; exact e0.frames, e0.mod, e0.bs, e0.bsz, e0.funs, e0.frf, e0.hok, e0.bare⟩
  refine wpAny_call (codeAny_mono (F.run B X.stack st H ⟨us, kw⟩ zs vs Q (WE noW σ) hr e1 b rv (spF_of np rs r h)) fun q s' hq => ?_)
  cases q with
  | error e => exact px pins H st e s' I hq
  | ok fl => cases fl <;> first | exact I.after hq | exact False.elim hq
theorem fin_noxR {σ : L2.St} {m : List Addr} {H : Hp} {r : Rs D} {K : D → Store → List Addr → Hp → V → Prop} (h : Fin G noW σ (Rep G) m H r.nox K) : Fin G noW σ (Rep G) m H r K := by
  cases r with
  | ok a S => exact h
  | ex c l S => exact h.elim
  | bad => exact h
theorem fin_nox2 {σ : L2.St} {m : List Addr} {H : Hp} {r : Rs D} {γ : Type} {k : D → Store → Rs γ} {t : Tag k} {δ : Type} {R' : List Addr → Hp → γ → δ → Prop} {K : γ → Store → List Addr → Hp → δ → Prop} (h : Fin G W σ R' m H ((r.nox).th k t) K) : Fin G noW σ (Rep G) m H r fun a S' m' H' v => Fin G W σ R' m' H' (k a S') K := by
  cases r with
  | ok a S => exact fun m' H' v x rs' r' => Fin.ext x h
  | ex c l S => exact h.elim
  | bad => exact h
def rLno (G : Pg) (j : Nat) (f : Nat) : List V → Hp → VK → Prop := fun vs H Q => ∃ m S d v k, RS G m H S ∧ vs = [v] ∧ Rep G m H d v ∧ mthOf G.T d f S = some k ∧ ∀ σ, Fin G noW σ (Rep G) m H (run G.T j k [d] S) fun r S' m' H' v => ∃ i : Int, r = .int i ∧ 0 ≤ i ∧ i < 2 ^ 62 ∧ Q (.int i) H'
theorem call_lno (hd : Hd G) (np : NpOk G) {j : Nat} (c : Ctx G (j + 1) X s W) (hcm : s.hot = false) {f : Nat} (hn : G.M.atts[f]? = some "__len__") : CallR X (.builtin "len") (rLno G j f) := by
  rintro pins st σ H xs us Q I r ⟨m, S, d, v, k, rs, rfl, rd, ek, h⟩
  cases r with
  | cons rx rr =>
    cases rr
    obtain ⟨A, kk, dx, fs, rfl, hA, hk, _, hg, M, hno⟩ := inst_mth hd rs rd ek
    cases rx
    rw [att_of hn] at M
    have h0 := h σ
    have hb : run G.T j k [d] S ≠ .bad := fun e => by rw [e] at h0; exact h0.elim
    obtain ⟨F, eF, hlF⟩ := run_len hb
    obtain ⟨mA, O, _⟩ := ins_get I.hok hA
    obtain ⟨od, J, _⟩ := O.look
    obtain ⟨mm, hF⟩ := I.fr
    have b := hd.pos k hg st [.ref A] (by rw [← c.K]; exact I.kIn) (by rw [app_nil, np k F eF, ← hlF]; rfl)
    rw [app_nil] at b
    rw [← c.K] at M
    refine PySem.W.len_K hF I.ok.mod.kin J M.at_ M.fn ?_
    refine wpAny_mono (run_at (B := X.A.in1) (us := [.ref A]) (kw := []) np c rfl ((c.cm hcm).2.2.2 j rfl) (c.cm hcm).2.1.in1 hg b I (show Vals [V.ref A] [Value.ref A] from .cons rfl .nil) rs (RepL.cons rd RepL.nil) (Q := fun v H' => ∃ i : Int, v = .int i ∧ 0 ≤ i ∧ i < 2 ^ 62 ∧ Q (.int i) H') (h0.imp fun r S' m' H' v _ _ rv hh => ?_)) (fun u s' hu => ?_) fun _ _ z => z
    · obtain ⟨i, rfl, h1, h2, h3⟩ := hh
      exact ⟨i, rv.int_inv, h1, h2, h3⟩
    · obtain ⟨v, H', I', rv, i, rfl, h1, h2, h3⟩ := hu
      obtain ⟨t, rfl⟩ := rv
      exact ⟨⟨h1, by omega⟩, .int i, H', I'.tok _, ⟨_, rfl⟩, h3⟩
theorem r_lno (hd : Hd G) (np : NpOk G) (c : Ctx G n X s W) (hcm : s.hot = false) (hC : C = csOf G.T n) {f : Nat} (hg : gloB s "len" = true) (hn : G.M.atts[f]? = some "__len__") (ha : PE X x (tE G W (evE C a))) (hx : noStar x = true) : PE X (.Call (.Name "len" p) [x] [] pos) (tE G W (evE C (.lno a f))) := by
  obtain ⟨g1, g2, g3, g4, g5⟩ := c.glo hg
  cases n with
  | zero =>
    subst hC
    refine pe_imp (pe_callB (id := "len") (r := fun _ _ _ => False) (fun _ _ _ _ _ _ _ _ _ z => z.elim) g1 (c.blt hd (by decide)) (by rfl) (pa_cons ha pa_nil (star_of hx)) g3 g2 (star_of hx) rfl) fun σ H Q ⟨m, ρ, S, re, rs, q⟩ => ?_
    simp only [evE] at q
    refine tX.go re rs q fun d S1 m1 H1 v1 x1 re1 rs1 r1 q1 => ?_
    obtain ⟨k, ek, q2⟩ := q1.at_o
    exact q2.elim
  | succ j =>
    subst hC
    refine pe_imp (pe_callB (call_lno hd np c hcm hn) g1 (c.blt hd (by decide)) (by rfl) (pa_cons ha pa_nil (star_of hx)) g3 g2 (star_of hx) rfl) fun σ H Q ⟨m, ρ, S, re, rs, q⟩ => ?_
    simp only [evE, csOf_T, csOf_fn1] at q
    refine tX.go re rs q fun d S1 m1 H1 v1 x1 re1 rs1 r1 q1 => ?_
    obtain ⟨k, ek, q2⟩ := q1.at_o
    rw [csOf_T] at ek
    refine ⟨m1, S1, d, v1, k, rs1, rfl, r1, ek, fun σ' => ?_⟩
    have q3 := fin_nox2 q2
    have q4 : Fin G noW σ' (Rep G) m1 H1 (run G.T j k [d] S1) fun a S' m' H' v => Fin G W σ (Rep G) m' H' (lenR a S') fun _ _ _ H' v => Q v H' := by
      cases e : run G.T j k [d] S1 with
      | ok a S' => rw [e] at q3; exact q3
      | ex c l S' => rw [e] at q3; exact q3
      | bad => rw [e] at q3; exact q3
    refine q4.imp fun r S' m' H' v x' rs' rv hh => ?_
    unfold lenR at hh
    split at hh
    · split at hh
      · rename_i i hi
        exact ⟨i, rfl, hi.1, hi.2, hh m' H' _ Ext.refl rs' rep_int⟩
      · exact hh.elim
    · exact hh.elim
section
open PySem.W
variable {prog : Program} {w : World} {A A₀ : Around} {E : Value → Shared → Prop} {s : Shared} {K : Frag} {x C L f : Addr} {h₀ : Heap} {m : Str → Option Value} {ox : Obj} {od : Option Obj} {name : Str} {b tb : Value}
theorem one_bind (self : Value) : bindSpecial (.builtin "object.__ne__") self = pure (.builtin "object.__ne__", [self]) := PySem.F.cmp_object.ne.bind self
theorem ifBound_B {M : Model} {id : String} {args : List Value} {Q : Option Value → Shared → Prop} (X : K.In s.heap) (I : InstAt s.heap x ox C od) (hs : findIn K (.ref C) name = some (some (.builtin id))) (hb : ∀ self, bindSpecial (.builtin id) self = pure (.builtin id, [self]))
    (h : wpAny M A (call (.builtin id) (.ref x :: args)) (fun v => Q (some v)) E s) : wpAny M A (callSpecialIfBound? (.ref x) name args) Q E s := by
  simp only [callSpecialIfBound?, bindSpecialIfBound?]
  refine wpAny_holding (wpAny_bind (wpAny_bind (wpAny_bind (I.type.here ((looks_findIn X hs).here ?_)))))
  simp only [hb]
  refine wpAny_bind (wpAny_askSetting (wpAny_ite ?_))
  have fin : wpAny M A (call (.builtin id) ([.ref x] ++ args) >>= fun v => pure (some v)) Q E s := wpAny_bind (wpAny_mono h (fun v s' h' => wpAny_pure h') fun _ _ h' => h')
  split
  · exact wpAny_bind (wpAny_pure (wpAny_pure fin))
  · exact wpAny_tryCatch (wpAny_bind (wpAny_pure (wpAny_pure fin)))
theorem ne_K {Q : Value → Shared → Prop} (hu : A.units + 1 < cLine) (F : PyProof.Rows.Fr h₀ L s.heap m) (X₀ : K.In h₀) (I : InstAt s.heap x ox C od) (hb : Looks (model prog w) s.heap (typeOf b) tb) (hn : notFirst K C tb = true)
    (hz : findIn K (.ref C) "__ne__" = some (some (.builtin "object.__ne__"))) (hmr : mroIn K C (.type "object") = some true)
    (hs : findIn K (.ref C) "__eq__" = some (some (.ref f))) (hf : isFn K (.ref f) = true)
    (h : wpAny (model prog w) A.in1 (call (.ref f) [.ref x, b]) (fun v s' => ∃ q, v = .bool q ∧ Q (.bool (!q)) s') E s) : wpAny (model prog w) A (richCompare .NotEq (.ref x) b) Q E s := by
  have X := X₀.keeps F.keep
  have hu0 : A.units < cLine := Nat.lt_of_succ_lt hu
  have sub : Looks (model prog w) s.heap (isInstance (.ref x) (.type "object")) true := I.type.andThen (looks_mroIn X hmr)
  have one : wpAny (model prog w) A (tryCompare (.ref x) "__ne__" b) (fun r s' => ∃ v, r = some v ∧ Q v s') E s := by
    unfold tryCompare
    refine wpAny_bind (ifBound_B X I hz one_bind (wpAny_call (codeAny_call_builtin PySem.F.cmp_object.ne.plain PySem.F.cmpEntry_ne
      (check_slot PySem.F.cmpKind_ne PySem.F.cmpSplit_ne sub (PySem.F.cmpArgs_ne _ _) ?_))))
    unfold Builtin.«object.__ne__»
    have hin : A.in1.units < cLine := hu
    have eqc : ∀ {Q' : Option Value → Shared → Prop}, (∀ q s', Q (.bool (!q)) s' → Q' (some (.bool q)) s') → ∀ {E' : Value → Shared → Prop}, (∀ v s', E v s' → E' v s') → wpAny (model prog w) A.in1 (callSpecialIfBound? (.ref x) "__eq__" [b]) Q' E' s := fun hq _ he => ifBound_K X I hs hf (wpAny_mono h (fun v s' hv => by
      obtain ⟨q, rfl, z⟩ := hv
      exact hq q s' z) he)
    repeat (first | with_reducible refine wpAny_cRoomFor hin ?_ | with_reducible refine eqc ?_ ?_ | wp_step)
    · intro q s' hq
      cases q with
      | true =>
        show wpAny (model prog w) A.in1 (truthy (.bool true) >>= fun t => ret (.bool (!t))) _ _ s'
        refine wpAny_bind (wpAny_pure ?_)
        exact wpAny_pure (wpAny_pure ⟨_, rfl, hq⟩)
      | false =>
        show wpAny (model prog w) A.in1 (truthy (.bool false) >>= fun t => ret (.bool (!t))) _ _ s'
        refine wpAny_bind (wpAny_pure ?_)
        exact wpAny_pure (wpAny_pure ⟨_, rfl, hq⟩)
    · exact fun _ _ z => z
  unfold richCompare
  simp only [oneThing_ref]
  refine wpAny_holding (wpAny_bind (wpAny_cRoomFor hu0 ?_))
  refine wpAny_bind (I.type.here (wpAny_bind (hb.here ?_)))
  split
  · rename_i q
    have e : subIn K tb (.ref C) = some false := by
      rcases Bool.or_eq_true_iff.mp hn with e | e
      · rw [beq_iff_eq.mp e] at q; simp at q
      · exact beq_iff_eq.mp e
    refine wpAny_bind ((looks_subIn X e).here ?_)
    simp only [Bool.false_eq_true, if_false]
    refine wpAny_bind (wpAny_mono one (fun r s' z => ?_) fun _ _ e => e)
    obtain ⟨v, rfl, hq⟩ := z
    exact wpAny_pure hq
  · refine wpAny_bind (wpAny_pure ?_)
    simp only [Bool.false_eq_true, if_false]
    refine wpAny_bind (wpAny_mono one (fun r s' z => ?_) fun _ _ e => e)
    obtain ⟨v, rfl, hq⟩ := z
    exact wpAny_pure hq
end

theorem plK_ty {d : D} {S : Store} (h : plK d S = true) : ∃ n, tyN d S = some n ∧ n ∈ ["NoneType", "bool", "int", "str", "tuple", "list", "dict"] := by
  cases d with
  | obj c l => exact absurd h (by simp [plK])
  | ref k =>
    simp only [plK] at h
    split at h
    · rename_i l e
      exact ⟨"list", by simp only [tyN, e], by decide⟩
    · exact absurd h (by simp)
  | non => exact ⟨"NoneType", rfl, by decide⟩
  | bl b => exact ⟨"bool", rfl, by decide⟩
  | int i => exact ⟨"int", rfl, by decide⟩
  | str s => exact ⟨"str", rfl, by decide⟩
  | tup l => exact ⟨"tuple", rfl, by decide⟩
  | lst l => exact ⟨"list", rfl, by decide⟩
theorem notF {K : PySem.W.Frag} {C : Addr} {n : String} (h : PySem.W.kitOne K (.type n) (.ref C) = some false) : PySem.W.notFirst K C (.type n) = true := by
  unfold PySem.W.kitOne at h
  by_cases h1 : (Value.type n == Value.ref C) = true
  · rw [if_pos h1] at h
    exact absurd h (by simp)
  · rw [if_neg h1] at h
    simp only [PySem.W.kitCls] at h
    split at h
    · unfold PySem.W.notFirst
      rw [h]
      simp
    · exact absurd h (by simp)
/-- the other one's type -/
theorem other_ty (hd : Hd G) {pins : List (Addr × Obj)} {σ : L2.St} {H : Hp} {st : Shared} {m : List Addr} {S : Store} {e : D} {v : V} {u : Value} {cc : Nat} (hk : X.K = G.K) (I : L2.Inv X pins σ H st) (rx : RelV v u) (rs : RS G m H S) (re : Rep G m H e v) (hcc : cc < G.T.cls.length) (h : clsD e S = some cc ∨ plK e S = true) :
    ∃ tb, (∀ M : Model, PySem.W.Looks M st.heap (typeOf u) tb) ∧ PySem.W.notFirst G.K (G.ca cc) tb = true := by
  rcases h with h | h
  · obtain ⟨B, dy, gs, rfl, hB⟩ := cls_ins hd rs re h
    cases rx
    obtain ⟨mB, O2, _⟩ := ins_get I.hok hB
    obtain ⟨od2, J2, _⟩ := O2.look
    exact ⟨.ref (G.ca cc), fun M => J2.type, by simp [PySem.W.notFirst]⟩
  · obtain ⟨n, hn, hm⟩ := plK_ty h
    have t := tyN_tyx rs re hn
    rw [← hk] at t
    obtain ⟨P, kx, hP, _⟩ := kit_of I rx t
    exact ⟨.type n, fun M => kx.ty M _ I.kIn hP, notF ((hd.cls cc hcc).ty n hm)⟩
def rEqo (G : Pg) (n f : Nat) : V → V → Hp → VK → Prop := fun v u H Q => ∃ m S d e k, RS G m H S ∧ Rep G m H d v ∧ Rep G m H e u ∧ mthOf G.T d f S = some k ∧ (∃ c, clsD d S = some c ∧ (clsD e S = some c ∨ plK e S = true)) ∧ ∀ σ, Fin G noW σ (Rep G) m H (run G.T n k [d, e] S) fun _ _ _ H' v => Q v H'
theorem op_eqo (hd : Hd G) (np : NpOk G) (c : Ctx G n X s W) (hcm : s.hot = false) {f : Nat} (hn : G.M.atts[f]? = some "__eq__") : OpR X (compareOp .Eq) (rEqo G n f) := by
  rintro pins st σ H v1 v2 u1 u2 Q I rx ry ⟨m, S, d, e, k, rs, rd, re, ek, ⟨cc, hc1, hc2⟩, h⟩
  obtain ⟨A, kk, dx, fs, rfl, hA, hk, hkc, hg, M, hno⟩ := inst_mth hd rs rd ek
  rw [hkc] at hc1
  cases hc1
  obtain ⟨tb, hb1, hb2⟩ := other_ty hd c.K I ry rs re hk hc2
  cases rx
  rw [att_of hn] at M
  rw [← c.K] at M hb2
  have h0 := h σ
  have hb : run G.T n k [d, e] S ≠ .bad := fun z => by rw [z] at h0; exact h0.elim
  obtain ⟨F, eF, hlF⟩ := run_len hb
  obtain ⟨mA, O, _⟩ := ins_get I.hok hA
  obtain ⟨od, J, _⟩ := O.look
  obtain ⟨mm, hF⟩ := I.fr
  have b := hd.pos k hg st [.ref A, u2] (by rw [← c.K]; exact I.kIn) (by rw [app_nil, np k F eF, ← hlF]; rfl)
  rw [app_nil] at b
  show wpAny (model X.prog X.w) X.A (richCompare .Eq (.ref A) u2) (EP X pins σ Q) X.xe st
  refine PySem.W.cmp_K (op := .Eq) (tb := tb) (c.cm hcm).2.1.units0 hF I.ok.mod.kin J (hb1 _) hb2 M.at_ M.fn ?_
  refine wpAny_mono (run_at (B := X.A) (us := [.ref A, u2]) (kw := []) np c rfl (c.cm hcm).2.2.1 (c.cm hcm).2.1 hg b I (show Vals [V.ref A, v2] [Value.ref A, u2] from .cons rfl (.cons ry .nil)) rs (RepL.cons rd (RepL.cons re RepL.nil)) h0) (fun u s' hu => ?_) fun _ _ z => z
  obtain ⟨v, H', I', rv, hq⟩ := hu
  have : u ≠ .notImplemented := fun z => by
    subst z
    cases v <;> first | (cases rv; done) | (obtain ⟨_, rv⟩ := rv; cases rv)
  cases u <;> first | exact absurd rfl this | exact ⟨v, H', I', rv, hq⟩
theorem cc_of {d e : D} {S : Store} (h : ((clsD d S).isSome && (decide (clsD e S = clsD d S) || plK e S)) = true) : ∃ c, clsD d S = some c ∧ (clsD e S = some c ∨ plK e S = true) := by
  simp only [Bool.and_eq_true, Bool.or_eq_true, decide_eq_true_eq, Option.isSome_iff_exists] at h
  obtain ⟨⟨cc, hc1⟩, hc2⟩ := h
  refine ⟨cc, hc1, ?_⟩
  rcases hc2 with hc2 | hc2
  · exact .inl (by rw [hc2, hc1])
  · exact .inr hc2
theorem r_eqo (hd : Hd G) (np : NpOk G) (c : Ctx G n X s W) (hcm : s.hot = false) (hC : C = csOf G.T n) {f : Nat} (hn : G.M.atts[f]? = some "__eq__") (ha : PE X x (tE G W (evE C a))) (hb : PE X y (tE G W (evE C b))) (hy : noSet y = true) : PE X (.Compare x [.Eq] [y] pos) (tE G W (evE C (.eqo a b f))) := by
  subst hC
  refine pe_imp (pe_cmpR (op_eqo hd np c hcm hn) ha hb (marks_of hy)) fun σ H Q ⟨m, ρ, S, re, rs, q⟩ => ?_
  simp only [evE, csOf_T, csOf_fn] at q
  refine tX.go re rs q fun d S1 m1 H1 v1 x1 re1 rs1 r1 q1 => ?_
  refine tX.go re1 rs1 q1 fun d2 S2 m2 H2 v2 x2 re2 rs2 r2 q2 => ?_
  obtain ⟨k, ek, q3⟩ := q2.at_o
  rw [csOf_T] at ek
  split at q3
  · rename_i hc
    refine ⟨m2, S2, d, d2, k, rs2, Rep.mono x2 _ _ r1, r2, ek, cc_of hc, fun σ' => ?_⟩
    cases e : run G.T n k [d, d2] S2 with
    | ok a S' => rw [e] at q3; exact q3
    | ex c l S' => rw [e] at q3; exact q3.elim
    | bad => rw [e] at q3; exact q3
  · exact q3.elim
def rNeo (G : Pg) (j f : Nat) : V → V → Hp → VK → Prop := fun v u H Q => ∃ m S d e k, RS G m H S ∧ Rep G m H d v ∧ Rep G m H e u ∧ mthOf G.T d f S = some k ∧ (∃ c, clsD d S = some c ∧ (clsD e S = some c ∨ plK e S = true)) ∧ ∀ σ, Fin G noW σ (Rep G) m H (run G.T j k [d, e] S) fun r S' m' H' v => ∃ q, r = .bl q ∧ Q (.bl (!q)) H'
theorem op_neo (hd : Hd G) (np : NpOk G) {j : Nat} (c : Ctx G (j + 1) X s W) (hcm : s.hot = false) {f : Nat} (hn : G.M.atts[f]? = some "__eq__") : OpR X (compareOp .NotEq) (rNeo G j f) := by
  rintro pins st σ H v1 v2 u1 u2 Q I rx ry ⟨m, S, d, e, k, rs, rd, re, ek, ⟨cc, hc1, hc2⟩, h⟩
  obtain ⟨A, kk, dx, fs, rfl, hA, hk, hkc, hg, M, hno⟩ := inst_mth hd rs rd ek
  rw [hkc] at hc1
  cases hc1
  obtain ⟨tb, hb1, hb2⟩ := other_ty hd c.K I ry rs re hk hc2
  cases rx
  rw [att_of hn] at M
  rw [← c.K] at M hb2
  have h0 := h σ
  have hb : run G.T j k [d, e] S ≠ .bad := fun z => by rw [z] at h0; exact h0.elim
  obtain ⟨F, eF, hlF⟩ := run_len hb
  obtain ⟨mA, O, _⟩ := ins_get I.hok hA
  obtain ⟨od, J, _⟩ := O.look
  obtain ⟨mm, hF⟩ := I.fr
  have b := hd.pos k hg st [.ref A, u2] (by rw [← c.K]; exact I.kIn) (by rw [app_nil, np k F eF, ← hlF]; rfl)
  rw [app_nil] at b
  have co := hd.cls cc hk
  show wpAny (model X.prog X.w) X.A (richCompare .NotEq (.ref A) u2) (EP X pins σ Q) X.xe st
  refine ne_K (tb := tb) (by have := c.units; omega) hF I.ok.mod.kin J (hb1 _) hb2 (by rw [c.K]; exact co.neq) (by rw [c.K]; exact co.mo) M.at_ M.fn ?_
  refine wpAny_mono (run_at (B := X.A.in1) (us := [.ref A, u2]) (kw := []) np c rfl ((c.cm hcm).2.2.2 j rfl) (c.cm hcm).2.1.in1 hg b I (show Vals [V.ref A, v2] [Value.ref A, u2] from .cons rfl (.cons ry .nil)) rs (RepL.cons rd (RepL.cons re RepL.nil)) (Q := fun v H' => ∃ q, v = .bl q ∧ Q (.bl (!q)) H') (h0.imp fun r S' m' H' v _ _ rv hh => ?_)) (fun u s' hu => ?_) fun _ _ z => z
  · obtain ⟨q, rfl, hq⟩ := hh
    exact ⟨q, rv.bl_inv, hq⟩
  · obtain ⟨v, H', I', rv, q, rfl, hq⟩ := hu
    cases (show u = Value.bool q from rv)
    exact ⟨q, rfl, .bl (!q), H', I', rfl, hq⟩
theorem r_neo (hd : Hd G) (np : NpOk G) (c : Ctx G n X s W) (hcm : s.hot = false) (hC : C = csOf G.T n) {f : Nat} (hn : G.M.atts[f]? = some "__eq__") (ha : PE X x (tE G W (evE C a))) (hb : PE X y (tE G W (evE C b))) (hy : noSet y = true) : PE X (.Compare x [.NotEq] [y] pos) (tE G W (evE C (.neo a b f))) := by
  cases n with
  | zero =>
    subst hC
    refine pe_imp (pe_cmpR (r := fun _ _ _ _ => False) (fun _ _ _ _ _ _ _ _ _ _ _ _ z => z.elim) ha hb (marks_of hy)) fun σ H Q ⟨m, ρ, S, re, rs, q⟩ => ?_
    simp only [evE] at q
    refine tX.go re rs q fun d S1 m1 H1 v1 x1 re1 rs1 r1 q1 => ?_
    refine tX.go re1 rs1 q1 fun d2 S2 m2 H2 v2 x2 re2 rs2 r2 q2 => ?_
    obtain ⟨k, ek, q3⟩ := q2.at_o
    split at q3
    · exact q3.elim
    · exact q3.elim
  | succ j =>
    subst hC
    refine pe_imp (pe_cmpR (op_neo hd np c hcm hn) ha hb (marks_of hy)) fun σ H Q ⟨m, ρ, S, re, rs, q⟩ => ?_
    simp only [evE, csOf_T, csOf_fn1] at q
    refine tX.go re rs q fun d S1 m1 H1 v1 x1 re1 rs1 r1 q1 => ?_
    refine tX.go re1 rs1 q1 fun d2 S2 m2 H2 v2 x2 re2 rs2 r2 q2 => ?_
    obtain ⟨k, ek, q3⟩ := q2.at_o
    rw [csOf_T] at ek
    split at q3
    · rename_i hc
      refine ⟨m2, S2, d, d2, k, rs2, Rep.mono x2 _ _ r1, r2, ek, cc_of hc, fun σ' => ?_⟩
      have q4 := fin_nox2 q3
      have q5 : Fin G noW σ' (Rep G) m2 H2 (run G.T j k [d, d2] S2) fun a S' m' H' v => Fin G W σ (Rep G) m' H' (notR a S') fun _ _ _ H' v => Q v H' := by
        cases e : run G.T j k [d, d2] S2 with
        | ok a S' => rw [e] at q4; exact q4
        | ex c l S' => rw [e] at q4; exact q4
        | bad => rw [e] at q4; exact q4
      refine q5.imp fun r S' m' H' v x' rs' rv hh => ?_
      unfold notR at hh
      split at hh
      · rename_i q0
        exact ⟨q0, rfl, hh m' H' _ Ext.refl rs' rep_bl⟩
      · exact hh.elim
    · exact q3.elim
/-! #### o.m(.., k=..) -/
theorem meth_treeK {o : Expr} {nm : Str} {env : Env} {qs : List Keyword} (hb : noSup o = true) (hst : es.all noStar = true) (hq : kwAll qs = true) (hl : es.length + qs.length < 20) (hp : (apos.endLine == pos.line) = true) :
    ∃ pl, eval (.Call (.Attribute o nm apos) es qs pos) env = (do
      let ov ← eval o env
      standAt apos.atName
      let (f, first) ← holding [ov] (getMethod ov nm pl)
      callWith pos f first (backTo pos (starEach es env)) (backToKw pos (keywordEach qs env))) := by
  refine ⟨(do return (← importBound o env).getD true), mcall_of (base_of hb) fun ov => ?_⟩
  have plain : (backTo pos (starEach es env)).all (fun x => !x.1) = true := by
    have h := any_star (env := env) (pos := pos) hst
    generalize backTo pos (starEach es env) = l at h
    induction l with
    | nil => rfl
    | cons a l ih =>
      simp only [List.any_cons, Bool.or_eq_false_iff] at h
      simp only [List.all_cons, Bool.and_eq_true, Bool.not_eq_true']
      exact ⟨h.1, ih h.2⟩
  have few : methodCallForm (es.length + qs.length) (backTo pos (starEach es env)) (backToKw pos (keywordEach qs env)) = true := by
    unfold methodCallForm
    rw [plain, kw_all hq, Bool.true_and, Bool.true_and, decide_eq_true_eq]
    split <;> omega
  unfold methodCall
  rw [few]
  unfold methodCallPos calleeOf
  simp only [hp, Bool.not_true, Bool.false_or, if_true, pure_bind]
theorem r_mthk (hd : Hd G) (np : NpOk G) (c : Ctx G n X s W) (hcm : s.hot = false) (hC : C = csOf G.T n) {f g : Nat} {nm : Str} {qs : List Keyword} {pm : List Nat} (hn : G.M.atts[f]? = some nm) (hl : chkL G.M l s es = true) (ho : PE X x (tE G W (evE C a))) (hs : noSup x = true) (ha : PA X es (tL G W (evL C l)))
    (hq : kwAll qs = true) (hk : PK X qs (tL G W (evL C l2))) (hk2 : chkL G.M l2 s (kwE qs) = true) (hm : (g, es.length, kwN qs, pm) ∈ G.M.mkw) (hz : es.length + qs.length < 20) (hp : (apos.endLine == pos.line) = true) : PE X (.Call (.Attribute x nm apos) es qs pos) (tE G W (evE C (.mthk a f g l l2 pm))) := by
  subst hC
  obtain ⟨pl, tree⟩ := meth_treeK (es := es) (env := X.env) (nm := nm) (qs := qs) hs (chkL_star _ _ _ hl) hq hz hp
  obtain ⟨hfg, kw⟩ := hd.mkw _ _ _ _ hm
  refine ⟨fun pins st σ H Q I h => PySem.W.methodCall_KW (pl := pl) (thn (ho.run pins st σ H (fun v H1 => ∃ A k dx fs d S1 m1 ρ, v = .ref A ∧ H1 A = some (.ins (G.ca k) dx fs) ∧ k < G.T.cls.length ∧ Meth G.K (G.ca k) nm (G.fa g) ∧ fs.lookup nm = none ∧ Rep G m1 H1 d (.ref A) ∧ RE G m1 H1 ρ σ ∧ RS G m1 H1 S1 ∧
      Fin G W σ (Rep G) m1 H1 ((evL (csOf G.T n) l ρ S1).th fun ds S3 => (evL (csOf G.T n) l2 ρ S3).th fun zs S4 => (ofO (pick (ds ++ zs) pm) S4).th fun ws S5 => run G.T n g (d :: ws) S5) fun _ _ _ H' v => Q v H') I ?_) fun u s1 hu => ?_) tree⟩
  · obtain ⟨m, ρ, S, re, rs, q⟩ := h
    simp only [evE, csOf_T, csOf_fn] at q
    refine tX.go re rs q fun d S1 m1 H1 v1 x1 re1 rs1 r1 q1 => ?_
    obtain ⟨g', eg, q2⟩ := q1.at_o
    rw [csOf_T] at eg
    split at q2
    · rename_i hgg
      subst hgg
      obtain ⟨A, k, dx, fs, rfl, hA, hkl, _, _, M, hno⟩ := inst_mth hd rs1 r1 eg
      rw [att_of hn] at M hno
      exact ⟨A, k, dx, fs, d, S1, m1, ρ, rfl, hA, hkl, M, hno, r1, re1, rs1, q2⟩
    · exact q2.elim
  · obtain ⟨v, H1, I1, rv, A, k, dx, fs, d, S1, m1, ρ, rfl, hA, hkl, M, hno, r1, re1, rs1, q2⟩ := hu
    obtain rfl : u = Value.ref A := rv
    have hkp : PySem.W.keepIn X.K (.ref (G.fa g)) = true := by rw [c.K]; exact M.kp
    refine getmeth_ok I1 hA (by rw [c.K]; exact (hd.cls k hkl).cls) (by rw [c.K]; exact M) hno ?_
    have hall := kw_all (env := X.env) (pos := pos) hq
    have hnm := kw_names (env := X.env) (pos := pos) hq
    -- the arguments, the keywords, the call
    have fin : ∀ (s3 : Shared) (us ws : List Value) (vs zs : List V) (m3 : List Addr) (H3 : Hp) (S3 : Store) (ds ks : List D), L2.Inv X pins σ H3 s3 → Vals vs us → Vals zs ws → us.length = es.length → ws.length = (kwN qs).length → Ext m1 H1 m3 H3 → RS G m3 H3 S3 → RepL G m3 H3 (ds ++ ks) (vs ++ zs) →
        (Fin G W σ (Rep G) m3 H3 ((ofO (pick (ds ++ ks) pm) S3).th fun ws S5 => run G.T n g (d :: ws) S5) fun _ _ _ H' v => Q v H') → wpAny (model X.prog X.w) X.A (call (.ref (G.fa g)) (.ref A :: us) ((kwN qs).zip ws)) (EP X pins σ Q) X.xe s3 := by
      intro s3 us ws vs zs m3 H3 S3 ds ks I3 rv rz lu lw x3 rs3 r3 q5
      obtain ⟨xs, ep, q6⟩ := q5.at_o
      obtain ⟨xv, ex, rx⟩ := r3.pick pm ep
      obtain ⟨xu, eu, ru⟩ := vals_pick (rv.append rz) pm ex
      obtain ⟨xu', eu', b⟩ := kw s3 (.ref A) us ws (by rw [← c.K]; exact I3.kIn) lu lw
      rw [eu] at eu'; cases eu'
      exact run_ev np c (c.cm hcm).2.2.1 (c.cm hcm).2.1 hfg b I3 (show Vals (V.ref A :: xv) (Value.ref A :: xu) from .cons rfl ru) rs3 (RepL.cons (Rep.mono x3 _ _ r1) rx) q6
    have kws : ∀ (s2 : Shared) (us : List Value) (vs : List V) (m2 : List Addr) (H2 : Hp) (S2 : Store) (ds : List D), L2.Inv X pins σ H2 s2 → Vals vs us → us.length = es.length → Ext m1 H1 m2 H2 → RE G m2 H2 ρ σ → RS G m2 H2 S2 → RepL G m2 H2 ds vs →
        (Fin G W σ (Rep G) m2 H2 ((evL (csOf G.T n) l2 ρ S2).th fun zs S4 => (ofO (pick (ds ++ zs) pm) S4).th fun ws S5 => run G.T n g (d :: ws) S5) fun _ _ _ H' v => Q v H') →
        wpAny (model X.prog X.w) X.A (evalAll ((backToKw pos (keywordEach qs X.env)).map (·.2))) (fun ks s₂ => X.K.In s₂.heap ∧ wpAny (model X.prog X.w) X.A (call (.ref (G.fa g)) ([.ref A] ++ us) (((backToKw pos (keywordEach qs X.env)).filterMap (·.1)).zip ks)) (EP X pins σ Q) X.xe s₂) X.xe s2 := by
      intro s2 us vs m2 H2 S2 ds I2 rv lu x2 re2 rs2 r2 q4
      refine thn (hk.run pos pins s2 σ H2 (fun zs H3 => ∃ m3 S3 ks, zs.length = (kwN qs).length ∧ Ext m1 H1 m3 H3 ∧ RS G m3 H3 S3 ∧ RepL G m3 H3 (ds ++ ks) (vs ++ zs) ∧ Fin G W σ (Rep G) m3 H3 ((ofO (pick (ds ++ ks) pm) S3).th fun ws S5 => run G.T n g (d :: ws) S5) fun _ _ _ H' v => Q v H') I2 ?_) fun ws s3 hw => ?_
      · refine tX.goe re2 rs2 q4 fun zs S3 m3 H3 ws e3 x3 re3 rs3 r3 q5 => ?_
        exact ⟨m3, S3, zs, by rw [← r3.length, evL_len l2 e3, chkL_len l2 _ hk2, kwN_length], x2.trans x3, rs3, (RepL.mono x3 _ _ r2).append r3, q5⟩
      · obtain ⟨zs, H3, I3, rz, m3, S3, ks, lz, x3, rs3, r3, q5⟩ := hw
        refine ⟨I3.kIn, ?_⟩
        rw [hnm]
        exact fin s3 us ws vs zs m3 H3 S3 ds ks I3 rv rz lu (by rw [← rz.length]; exact lz) x3 rs3 r3 q5
    have hany : (backToKw pos (keywordEach qs X.env)).any (·.1.isNone) = false := kw_any (qs := qs) (env := X.env) (pos := pos) hall
    cases es with
    | nil =>
      have q0 : tL G W (evL (csOf G.T n) l) σ H1 fun vs H2 => vs = [] → ∃ m2 S2 ds, Ext m1 H1 m2 H2 ∧ RE G m2 H2 ρ σ ∧ RS G m2 H2 S2 ∧ RepL G m2 H2 ds vs ∧ Fin G W σ (Rep G) m2 H2 ((evL (csOf G.T n) l2 ρ S2).th fun zs S4 => (ofO (pick (ds ++ zs) pm) S4).th fun ws S5 => run G.T n g (d :: ws) S5) fun _ _ _ H' v => Q v H' :=
        tX.go re1 rs1 q2 fun ds S2 m2 H2 vs x2 re2 rs2 r2 q3 => fun _ => ⟨m2, S2, ds, x2, re2, rs2, r2, q3⟩
      obtain ⟨m2, S2, ds, x2, re2, rs2, r2, q3⟩ := nil_of hl rfl q0 rfl
      exact PySem.W.callWith_KW0 (h₀ := X.base) (first := [.ref A]) I1.ok.mod.kin hkp hall (kws s1 [] [] m2 H1 S2 ds I1 .nil rfl x2 re2 rs2 r2 q3) (by rw [hany]; rfl)
    | cons e0 es0 =>
      have hst := chkL_star _ _ _ hl
      have hs0 := hst
      simp only [List.all_cons, Bool.and_eq_true] at hs0
      refine PySem.W.callWith_KW (h₀ := X.base) (first := [.ref A]) I1.ok.mod.kin hkp hall (thn (ha.run pos pins s1 σ H1 (fun vs H2 => ∃ m2 S2 ds, vs.length = (e0 :: es0).length ∧ Ext m1 H1 m2 H2 ∧ RE G m2 H2 ρ σ ∧ RS G m2 H2 S2 ∧ RepL G m2 H2 ds vs ∧ Fin G W σ (Rep G) m2 H2 ((evL (csOf G.T n) l2 ρ S2).th fun zs S4 => (ofO (pick (ds ++ zs) pm) S4).th fun ws S5 => run G.T n g (d :: ws) S5) fun _ _ _ H' v => Q v H') I1 ?_) fun us s2 hu => ?_) (by rw [any_star hst, hany]; rfl) (star_of hs0.1)
      · exact tX.goe re1 rs1 q2 fun ds S2 m2 H2 vs e2 x2 re2 rs2 r2 q3 => ⟨m2, S2, ds, by rw [← r2.length, evL_len l e2, chkL_len l _ hl], x2, re2, rs2, r2, q3⟩
      · obtain ⟨vs, H2, I2, rv, m2, S2, ds, lv, x2, re2, rs2, r2, q3⟩ := hu
        exact kws s2 us vs m2 H2 S2 ds I2 rv (by rw [← rv.length]; exact lv) x2 re2 rs2 r2 q3
end
end Ev
end
section
set_option maxRecDepth 100000
set_option maxHeartbeats 8000000
/-! Ev, part 14b: dicts whose keys are tuples of ints. -/
namespace Ev
open PySem PySem.Spec PyProof.Rows L2
/-! #### keys -/
theorem iK_inj {i j : Int} (h : iK i = iK j) : i = j := Sum.inl.inj h
theorem iKs_inj : ∀ {k l : List Int}, k.map iK = l.map iK → k = l
  | [], [], _ => rfl
  | [], _ :: _, h => by cases h
  | _ :: _, [], h => by cases h
  | x :: k, y :: l, h => by
    rw [List.map_cons, List.map_cons] at h
    injection h with h1 h2
    rw [iK_inj h1, iKs_inj h2]
theorem kVs (k : List Int) : (k.map iK).map kV = k.map V.int := by
  rw [List.map_map]
  rfl
section
variable {G : Pg} {m : List Addr} {H : Hp} {S : Store}
theorem allInt_rep : ∀ {l : List D} {vs : List V} {k : List Int}, RepL G m H l vs → allInt l = some k → vs = k.map V.int
  | [], _, _, r, e => by
    cases e
    simp only [RepL] at r
    exact r
  | d :: l, vs, k, r, e => by
    simp only [RepL] at r
    obtain ⟨v, us, rfl, r1, r2⟩ := r
    cases d <;> simp only [allInt] at e <;> try (cases e; done)
    split at e
    · rename_i k2 e2
      cases e
      rw [allInt_rep r2 e2, r1.int_inv]
      rfl
    · cases e
theorem ints_rep : ∀ (k : List Int), RepL G m H (k.map .int) (k.map V.int)
  | [] => RepL.nil
  | i :: k => RepL.cons rep_int (ints_rep k)
abbrev zK (kvs : List (List Int × D)) (vs : List V) : List (List Key × V) := (kvs.map fun q => q.1.map iK).zip vs
theorem getK_rep {k : List Int} : ∀ {kvs : List (List Int × D)} {vs : List V}, RepL G m H (kvs.map (·.2)) vs →
    match getK k kvs with
    | some d => ∃ v, valV (zK kvs vs) (k.map iK) = some v ∧ Rep G m H d v
    | none => valV (zK kvs vs) (k.map iK) = none
  | [], vs, _ => rfl
  | (j, d) :: kvs, vs, r => by
    simp only [List.map_cons, RepL] at r
    obtain ⟨v, us, rfl, r1, r2⟩ := r
    unfold getK
    by_cases h : j = k
    · rw [if_pos h]
      exact ⟨v, valV_pos (p := (j.map iK, v)) (by rw [h]), r1⟩
    · rw [if_neg h]
      have e : valV (zK ((j, d) :: kvs) (v :: us)) (k.map iK) = valV (zK kvs us) (k.map iK) := valV_neg (p := (j.map iK, v)) fun z => h (iKs_inj z)
      rw [e]
      exact getK_rep r2
theorem any_rep {k : List Int} : ∀ {kvs : List (List Int × D)} {vs : List V}, RepL G m H (kvs.map (·.2)) vs → ((zK kvs vs).any fun q => decide (q.1 = k.map iK)) = kvs.any fun q => decide (q.1 = k)
  | [], vs, _ => rfl
  | (j, d) :: kvs, vs, r => by
    simp only [List.map_cons, RepL] at r
    obtain ⟨v, us, rfl, _, r2⟩ := r
    show (decide (j.map iK = k.map iK) || (zK kvs us).any _) = (decide (j = k) || kvs.any _)
    rw [any_rep r2]
    congr 1
    by_cases h : j = k
    · rw [decide_eq_true h, decide_eq_true (by rw [h])]
    · rw [decide_eq_false h, decide_eq_false fun z => h (iKs_inj z)]
theorem map_rep {k : List Int} {x : D} {y : V} (ry : Rep G m H x y) : ∀ {kvs : List (List Int × D)} {vs : List V}, RepL G m H (kvs.map (·.2)) vs →
    ∃ us, ((zK kvs vs).map fun q => if q.1 = k.map iK then (q.1, y) else q) = zK (kvs.map fun q => if q.1 = k then (q.1, x) else q) us ∧ RepL G m H ((kvs.map fun q => if q.1 = k then (q.1, x) else q).map (·.2)) us
  | [], vs, _ => ⟨[], rfl, RepL.nil⟩
  | (j, d) :: kvs, vs, r => by
    simp only [List.map_cons, RepL] at r
    obtain ⟨v, us, rfl, r1, r2⟩ := r
    obtain ⟨ws, e, rw'⟩ := map_rep (k := k) ry r2
    by_cases h : j = k
    · refine ⟨y :: ws, ?_, ?_⟩
      · show (if j.map iK = k.map iK then (j.map iK, y) else (j.map iK, v)) :: (zK kvs us).map (fun q => if q.1 = k.map iK then (q.1, y) else q) = _
        rw [if_pos (by rw [h]), e]
        simp only [List.map_cons, if_pos h]
        rfl
      · simp only [List.map_cons, if_pos h]
        exact RepL.cons ry rw'
    · refine ⟨v :: ws, ?_, ?_⟩
      · show (if j.map iK = k.map iK then (j.map iK, y) else (j.map iK, v)) :: (zK kvs us).map (fun q => if q.1 = k.map iK then (q.1, y) else q) = _
        rw [if_neg (fun z => h (iKs_inj z)), e]
        simp only [List.map_cons, if_neg h]
        rfl
      · simp only [List.map_cons, if_neg h]
        exact RepL.cons r1 rw'
theorem zK_len {kvs : List (List Int × D)} {vs : List V} (r : RepL G m H (kvs.map (·.2)) vs) : (zK kvs vs).length = kvs.length := by
  have := r.length
  rw [List.length_map] at this
  rw [List.length_zip, List.length_map, ← this, Nat.min_self]
theorem putD_rep {k : List Int} {x : D} {y : V} (ry : Rep G m H x y) {kvs : List (List Int × D)} {vs : List V} (r : RepL G m H (kvs.map (·.2)) vs) :
    ∃ us, putK (zK kvs vs) (k.map iK) y = zK (putD k x kvs) us ∧ RepL G m H ((putD k x kvs).map (·.2)) us := by
  unfold putK putD
  rw [any_rep r]
  split
  · exact map_rep ry r
  · refine ⟨vs ++ [y], ?_, ?_⟩
    · show zK kvs vs ++ [(k.map iK, y)] = ((kvs ++ [(k, x)]).map fun q => q.1.map iK).zip (vs ++ [y])
      rw [List.map_append, List.zip_append (by rw [List.length_map, ← r.length, List.length_map])]
      rfl
    · rw [List.map_append]
      exact r.append (RepL.cons ry RepL.nil)
end
/-! #### the hand layer's rules, for keys that may be constants -/
section
variable {X : Cx} {pins : List (Addr × Obj)} {σ : L2.St} {H : Hp} {s : Shared}
theorem key_sq {b : Addr} {ks : List Key} (I : Inv X pins σ H s) (h : SqT X.K H b (ks.map kV)) : (tupleKind (mixKind X.prog X.w)).is s.heap ks b := by
  obtain ⟨its, r, ⟨o, h1, h2, n, h3⟩, _⟩ := I.tuple h
  have q := items_are (P := X.prog) (w := X.w) r
  exact ⟨o, its.toArray, n, h1, h2, h3, by rw [List.toList_toArray]; exact q⟩
theorem get_sq {a b : Addr} {kvs : List (List Key × V)} {ks : List Key} {d : V} {r : Value} {Q : Value → Shared → Prop} (hu : X.A.units + 1 < cLine) (I : Inv X pins σ H s) (ha : Rd H a (.dT kvs)) (hb : SqT X.K H b (ks.map kV)) (rd : RelV d r)
    (h : ∀ w' s', Inv X pins σ H s' → RelV ((valV kvs ks).getD d) w' → Q w' s') : wpAny (model X.prog X.w) X.A (call (.builtin "dict.get") [.ref a, .ref b, r]) Q X.xe s := by
  obtain ⟨_, hm, xs, rel, dd⟩ := dt_rd I.hok ha
  have mt := meetsH_dict_get_default (prog := X.prog) (w := X.w) (tupleKind (mixKind X.prog X.w)) a b hm r
  have fin : ∀ tk, RelV ((valV kvs ks).getD d) (((atKey xs ks).map (·.2)).getD r) → Q (((atKey xs ks).map (·.2)).getD r) { s with toks := tk } := fun tk z => h _ _ (I.tok tk) z
  exact call_meetsIn F.slot_dict_get dd.typeIs F.entry_dict_get (F.args_dict_get_3 _ _ _) mt
    ⟨tupleKind_room_in1 hu, ks, xs, key_sq I hb, dd, fin _ ((rel.val ks).getD rd)⟩
theorem two_trees {e f : Expr} {pos : Pos} {env : Env} (he : noStar e = true) (hf : noStar f = true) : backTo pos (starEach [e, f] env) = [(false, eval e env), (false, eval f env)] := by
  rw [star_of he, star_of hf]
  rfl
theorem m2_of {o e f : Expr} {x : Str} {p q : Pos} (ho : noSup o = true) (he : noStar e = true) (hf : noStar f = true) (hl : (p.endLine == q.line) = true) : M2 X o x p e f q :=
  ⟨base_of ho, by rw [two_trees he hf]; rfl, hl, two_trees he hf⟩
/-- d.get(k, x) -/
def tGetS (K : PySem.W.Frag) (td tk tx : TE) : TE := fun σ H Q => td σ H fun x H1 => ∃ a kvs0, x = .ref a ∧ Rd H1 a (.dT kvs0) ∧ tk σ H1 fun y H2 => tx σ H2 fun z H3 =>
  ∃ b kvs ks, y = .ref b ∧ Rd H3 a (.dT kvs) ∧ SqT K H3 b (ks.map kV) ∧ Q ((valV kvs ks).getD z) H3
theorem pe_getS {o e f : Expr} {p q : Pos} {td tk tx : TE} (hu : X.A.units + 1 < cLine) (ho : PE X o td) (he : PE X e tk) (hf : PE X f tx) (mm : M2 X o "get" p e f q) : PE X (.Call (.Attribute o "get" p) [e, f] [] q) (tGetS X.K td tk tx) := by
  refine ⟨fun pins s σ H Q I h => ?_⟩
  have start := ho.run pins s σ H _ I h
  refine wpAny_Call_method mm.base mm.few mm.line F.plainAttrs_dict F.slot_dict_get F.type_dict_get (thn start fun u s1 ⟨x, H1, I1, rx, a, kvs0, ex, ra, q1⟩ => ?_)
  subst ex
  obtain rfl : u = .ref a := rx
  obtain ⟨t1, t2, _⟩ := isD_at I1 (.inr ⟨kvs0, ra⟩)
  refine ⟨t1, t2, ?_⟩
  rw [mm.trees]
  refine Calls.callWith_builtin rfl (Calls.evalArgs_plain ?_)
  refine Calls.spliced_cons (thn (he.run pins s1 σ H1 _ I1 q1) fun v1 s2 ⟨y, H2, I2, ry, q2⟩ => ?_)
  refine Calls.spliced_cons (thn (hf.run pins s2 σ H2 _ I2 q2) fun v2 s3 ⟨z, H3, I3, rz, b, kvs, ks, ey, rk, sk, q3⟩ => Calls.spliced_nil ?_)
  subst ey
  obtain rfl : v1 = .ref b := ry
  exact get_sq hu I3 rk sk rz fun w' s4 I4 rw' => ⟨_, H3, I4, rw', q3⟩
/-- {k: x} -/
def tOneT (tk tx : TE) : TE := fun σ H Q => ∀ p, H p = none → tk σ (upd H p (.dT [])) fun x H1 => tx σ H1 fun y H2 => ∃ b ks, x = .ref b ∧ H2 p = some (.dT []) ∧ H2 b = some (.tup (ks.map kV)) ∧ Q (.ref p) (upd H2 p (.dT [(ks, y)]))
theorem pe_oneT {e f : Expr} {pos : Pos} {tk tx : TE} (hu : X.A.units + 1 < cLine) (he : PE X e tk) (hf : PE X f tx) : PE X (.Dict [some e] [f] pos) (tOneT tk tx) := by
  refine ⟨fun pins s σ H Q I h => ?_⟩
  have hn := I.hok.fresh (Nat.le_refl s.heap.objs.size)
  have I0 := I.laid (a := s.heap.objs.size) (o := .dT []) (t' := s.toks) (fun _ _ z => Heap.get?_push_of_some _ z) (Nat.le_refl _) (dt_empty s.heap I.big)
  refine wpAny_Dict_any rfl rfl (by simp) (by show 1 ≤ 15; decide) ?_
  refine pairTrees_cons_walk (thn (he.run pins _ σ _ _ I0 (h _ hn)) fun v1 s1 ⟨x, H1, I1, rx, q1⟩ => ?_)
  refine thn (hf.run pins s1 σ H1 _ I1 q1) fun v2 s2 ⟨y, H2, I2, ry, b, ks, ex, e2, eb, q2⟩ => pairTrees_nil_walk ?_
  subst ex
  obtain rfl : v1 = .ref b := rx
  show wpAny _ _ (storeAll s.heap.objs.size [(.ref b, v2)]) _ _ s2
  unfold storeAll
  rw [List.forIn_cons]
  obtain ⟨z, hd, xs, rel, dd⟩ := dt_of I2.hok e2
  have hx : xs = [] := List.eq_nil_of_length_eq_zero (by rw [← Paired.length rel]; rfl)
  subst hx
  have rel0 : L2.KT H2 [] [] := .nil
  refine wpAny_bind (wpAny_bind ?_)
  refine wpAny_dictSet_heap (hsz := Nat.zero_le _) (knd := tupleKind (mixKind X.prog X.w)) (show X.A.units < cLine by omega) (key_of I2.hok eb) dd fun h' dd' hs => wpAny_pure ?_
  show wpAny _ _ (forIn [] _ _) _ _ _
  rw [List.forIn_nil]
  refine wpAny_pure ?_
  obtain ⟨o, es, ep, g1, g2, g3, g4, _, g5⟩ := dd'
  have keepT : ∀ c ys, H2 c = some (.tup ys) → upd H2 s.heap.objs.size (.dT [(ks, y)]) c = some (.tup ys) := fun c ys ec => by
    rw [upd_ne (ne_of ec e2 (fun z => nomatch z))]
    exact ec
  have new : ObjOk X.prog X.w (upd H2 s.heap.objs.size (.dT [(ks, y)])) h' s.heap.objs.size (.dT [(ks, y)]) :=
    ⟨by show 1 ≤ sizeLine; decide, hd, _, (rel0.put ks eb ry).keeps keepT, o, es, ep, g1, g2, g3, g4, g5⟩
  exact ⟨.ref s.heap.objs.size, _, d_write I2 (by rw [e2]; exact True.intro) hs ⟨o, g1⟩ new, rfl, q2⟩
end
/-! #### the rules -/
section
variable {G : Pg} {n : Nat} {X : Cx} {s : Sx} {W : WX} {C : Cs} {e x y z : Expr} {p pos apos : Pos} {a b k : Ex} {m : List Addr} {H : Hp} {S : Store}
theorem Lk.rd {lk : Bool} {p : Addr} {u : HO} (h : Lk lk H p u) : Rd H p u := by
  cases lk with
  | true => exact .inr h
  | false => exact .inl h
theorem dct_rd {d : D} {v : V} {kvs : List (List Int × D)} (rs : RS G m H S) (r : Rep G m H d v) (h : dctOf d S = some kvs) : ∃ p vs, v = .ref p ∧ Rd H p (.dT (zK kvs vs)) ∧ RepL G m H (kvs.map (·.2)) vs := by
  unfold dctOf at h
  split at h
  · split at h
    · rename_i lk l el
      cases h
      obtain ⟨p, rfl, hp⟩ := r.ref_inv
      obtain ⟨p', hp', vs, hv, rl⟩ := rs.cel _ _ el
      rw [hp] at hp'; cases hp'
      exact ⟨p, vs, rfl, hv.rd, rl⟩
    · cases h
  · cases h
theorem key_rd {d : D} {v : V} {k : List Int} (r : Rep G m H d v) (h : keyD d = some k) : ∃ b, v = .ref b ∧ SqT G.K H b ((k.map iK).map kV) := by
  unfold keyD at h
  split at h
  · obtain ⟨p, vs, rfl, f, rl⟩ := r.tup_inv
    refine ⟨p, rfl, ?_⟩
    rw [kVs, ← allInt_rep rl h]
    exact f.sq
  · cases h
theorem lstI_sq {d : D} {v : V} {k : List Int} (rs : RS G m H S) (r : Rep G m H d v) (h : lstI d S = some k) : ∃ p, v = .ref p ∧ Rd H p (.lst (k.map V.int)) := by
  unfold lstI at h
  split at h
  · rename_i l el
    obtain ⟨p, vs, rfl, rd, rl⟩ := lstOf_sq rs r el
    exact ⟨p, rfl, by rw [← allInt_rep rl h]; exact rd⟩
  · cases h
/-- tuple(e) of a list -/
def rTupC : List V → Hp → VK → Prop := fun us H Q => ∃ p xs, us = [.ref p] ∧ Rd H p (.lst xs) ∧ ∀ q, H q = none → Q (.ref q) (upd H q (.tup xs))
theorem call_tupC : CallR X (.type "tuple") rTupC := by
  rintro pins s σ H us ws Q I r ⟨p, xs, eu, rd, h⟩
  exact call_tuple_of pins s σ H us ws Q I r ⟨p, xs, eu, .inl ⟨sq_of rd, h⟩⟩
def tTupC (te : TE) : TE := fun σ H Q => te σ H fun v H1 => rTupC [v] H1 Q
theorem pe_tupC (hd : Hd G) (c : Ctx G n X s W) {te : TE} (hg : gloB s "tuple" = true) (ha : PE X y te) (hy : noStar y = true) : PE X (.Call (.Name "tuple" p) [y] [] pos) (tTupC te) := by
  obtain ⟨g1, g2, g3, g4, g5⟩ := c.glo hg
  have pa : PA X [y] (tCons te tNil) := pa_cons ha pa_nil (star_of hy)
  exact pe_imp (pe_callTy call_tupC g1 (c.blt hd (by decide)) (by rfl) pa g3 g2 (star_of hy) (any_star (by rfl))) fun σ H Q q => q
theorem r_dnew : PE X (.Dict [] [] pos) (tE G W (evE C .dnew)) := pe_imp pe_dnewT fun σ H Q ⟨m, ρ, S, re, rs, q⟩ => by
  simp only [evE] at q
  intro p hp
  exact q (m ++ [p]) _ _ (Ext.cell hp) (rs.cell hp ⟨[], upd_same, RepL.nil⟩) (rep_ref (by rw [← rs.len]; simp))
theorem r_dget (c : Ctx G n X s W) (ho : PE X x (tE G W (evE C a))) (hs : noSup x = true) (hk : PE X y (tE G W (evE C k))) (hy : noStar y = true) (hv : PE X z (tE G W (evE C b))) (hz : noStar z = true) (hp : (apos.endLine == pos.line) = true) :
    PE X (.Call (.Attribute x "get" apos) [y, z] [] pos) (tE G W (evE C (.dget a k b))) := by
  have hu : X.A.units + 1 < cLine := by have := c.units; omega
  refine pe_imp (pe_getS hu ho hk hv (m2_of hs hy hz hp)) fun σ H Q ⟨m, ρ, S, re, rs, q⟩ => ?_
  simp only [evE] at q
  refine tX.go re rs q fun d S1 m1 H1 v1 x1 re1 rs1 r1 q1 => ?_
  split at q1
  · rename_i ok
    obtain ⟨kvs0, ek⟩ := Option.isSome_iff_exists.mp ok
    obtain ⟨q0, vs0, rfl, rd0, _⟩ := dct_rd rs1 r1 ek
    refine ⟨q0, _, rfl, rd0, tX.go re1 rs1 q1 fun d2 S2 m2 H2 v2 x2 re2 rs2 r2 q2 => tX.go re2 rs2 q2 fun d3 S3 m3 H3 v3 x3 re3 rs3 r3 q3 => ?_⟩
    obtain ⟨u, eu, q4⟩ := q3.at_oe
    unfold dgetD at eu
    split at eu
    · rename_i kvs kk e1 e2
      obtain ⟨p1, vs, ep, rd, rl⟩ := dct_rd rs3 (Rep.mono x3 _ _ (Rep.mono x2 _ _ r1)) e1
      cases ep
      obtain ⟨b1, rfl, sq⟩ := key_rd (Rep.mono x3 _ _ r2) e2
      refine ⟨b1, _, _, rfl, rd, by rw [c.K]; exact sq, ?_⟩
      have g := getK_rep (k := kk) rl
      cases eg : getK kk kvs with
      | some d' =>
        rw [eg] at g eu
        obtain ⟨w', ew, rw'⟩ := g
        cases eu
        rw [ew]
        exact q4.at_ok rs3 rw'
      | none =>
        rw [eg] at g eu
        cases eu
        have g' : valV (zK kvs vs) (kk.map iK) = none := g
        rw [g']
        exact q4.at_ok rs3 r3
    · cases eu
  · exact q1.elim
theorem r_dlit (hd : Hd G) (c : Ctx G n X s W) (hg : gloB s "tuple" = true) (hk : PE X y (tE G W (evE C k))) (hy : noStar y = true) (hv : PE X z (tE G W (evE C b))) :
    PE X (.Dict [some (.Call (.Name "tuple" p) [y] [] apos)] [z] pos) (tE G W (evE C (.dlit k b))) := by
  have hu : X.A.units + 1 < cLine := by have := c.units; omega
  refine pe_imp (pe_oneT hu (pe_tupC hd c hg hk hy) hv) fun σ H Q ⟨m, ρ, S, re, rs, q⟩ => ?_
  simp only [evE] at q
  intro p hp
  have x0 : Ext m H (m ++ [p]) (upd H p (.dT [])) := Ext.cell hp
  have rs0 : RS G (m ++ [p]) (upd H p (.dT [])) (S ++ [.dct false []]) := rs.cell hp ⟨[], upd_same, RepL.nil⟩
  refine tX.go (re.mono x0) rs0 (Fin.ext x0 q) fun d S1 m1 H1 v1 x1 re1 rs1 r1 q1 => ?_
  obtain ⟨kk, ek, q2⟩ := q1.at_o
  obtain ⟨b1, rfl, rb⟩ := lstI_sq rs1 r1 ek
  refine ⟨b1, _, rfl, rb, fun t ht => ?_⟩
  have xt : Ext m1 H1 m1 (upd H1 t (.tup (kk.map V.int))) := Ext.new ht
  refine tX.go (re1.mono xt) (rs1.new ht) (Fin.ext xt q2) fun d3 S3 m3 H3 v3 x3 re3 rs3 r3 q3 => ?_
  unfold dnewD at q3
  split at q3
  · rename_i es
    obtain ⟨p', hp', vs, hv', _⟩ := rs3.cel _ _ es
    have h3 : m3[S.length]? = some p := pre_get (x1.trans (xt.trans x3)).pre (by rw [← rs.len]; simp)
    rw [h3] at hp'
    cases hp'
    have e3 : H3 p = some (.dT []) := hv'
    have nf : NF H3 p := NF.of e3 fun _ _ z => nomatch z
    have xw : Ext m3 H3 m3 (upd H3 p (.dT [(kk.map iK, v3)])) := Ext.write (List.mem_of_getElem? h3) nf
    refine ⟨t, kk.map iK, rfl, e3, ?_, ?_⟩
    · rw [kVs]
      exact (x3.keep t _ upd_same (rs1.fresh ht)).1
    · exact q3 m3 _ _ xw (rs3.write (c := .dct false [(kk, d3)]) nf h3 ⟨[v3], upd_same, RepL.cons (Rep.mono xw _ _ r3) RepL.nil⟩) (rep_ref h3)
  · exact q3.elim
end
end Ev
end
section
set_option maxRecDepth 100000
set_option maxHeartbeats 8000000
/-! Ev, part 15: every checked expression does what the evaluator says. -/
namespace Ev
open PySem PySem.Spec PyProof.Rows L2
theorem hot_of {b : Bool} (h : (!b) = true) : b = false := by simpa using h
theorem cold {b : Bool} (h : (!b) = true) (q : b = true) : False := by rw [q] at h; cases h
theorem opB_of {o : Op} {p : Operator} (h : opB o p = true) : p = o.of := by
  cases o <;> cases p <;> first | rfl | (cases h; done)
theorem cpB_of {o : Cp} {p : CmpOp} (h : cpB o p = true) : p = o.of := by
  cases o <;> cases p <;> first | rfl | (cases h; done)
section
variable {G : Pg} {n : Nat}
/-- what of a test is shown: whatever stands around it, if it is and, or -/
structure TOk (X : Cx) (e : Expr) (t : TT) : Prop where
  pt : PT X e t
  pw : ∀ op es pos, e = .BoolOp op es pos → PW X e t
theorem TOk.of {X : Cx} {e : Expr} {t : TT} (h : PT X e t) (ne : ∀ op es pos, e ≠ .BoolOp op es pos) : TOk X e t := ⟨h, fun op es pos e => absurd e (ne op es pos)⟩
theorem TOk.bad {X : Cx} {e : Expr} {W : WX} {C : Cs} {a : Ex} (h : ∀ ρ S, evT C a ρ S = .bad) : TOk X e (tT G W (evT C a)) := by
  have h0 : ∀ σ H Q, ¬ tT G W (evT C a) σ H Q := fun σ H Q ⟨m, ρ, S, re, rs, q⟩ => by rw [h] at q; exact q.elim
  exact ⟨pt_bad h0, fun _ _ _ _ => ⟨fun _ _ _ σ H Q _ q => (h0 σ H Q q).elim⟩⟩
theorem th_as {α β γ : Type} (r : Rs α) {k : α → Store → Rs β} {j : β → Store → Rs γ} {k' : α → Store → Rs γ} {t : Tag k} {t2 : Tag j} {t3 : Tag k'} (h : ∀ a S, k' a S = (k a S).th j t2) : r.th k' t3 = (r.th k t).th j t2 := by
  cases r with
  | ok a S => exact h a S
  | ex _ _ _ => rfl
  | bad => rfl
section
variable {C : Cs} (ρ : Fr) (S : Store)
theorem tr_var {i : Nat} : evT C (.var i) ρ S = (evE C (.var i) ρ S).th fun d S1 => ofO (truD d S1) S1 := by
  simp only [evE, evT]
  split <;> rfl
theorem tr_bl {b : Bool} : evT C (.bl b) ρ S = (evE C (.bl b) ρ S).th fun d S1 => ofO (truD d S1) S1 := by
  simp only [evE, evT]
  rfl
theorem tr_call {f : Nat} {es : Exs} : evT C (.call f es) ρ S = (evE C (.call f es) ρ S).th fun d S1 => ofO (truD d S1) S1 := by
  simp only [evE, evT]
  exact th_as _ fun _ _ => rfl
theorem tr_calk {f : Nat} {es ks : Exs} {pm : List Nat} : evT C (.calk f es ks pm) ρ S = (evE C (.calk f es ks pm) ρ S).th fun d S1 => ofO (truD d S1) S1 := by
  simp only [evE, evT]
  refine th_as _ fun ds S1 => ?_
  refine th_as _ fun zs S2 => ?_
  exact th_as _ fun _ _ => rfl
theorem tr_mth {f : Nat} {a : Ex} {es : Exs} : evT C (.mth a f es) ρ S = (evE C (.mth a f es) ρ S).th fun d S1 => ofO (truD d S1) S1 := by
  simp only [evE, evT]
  refine th_as _ fun ds S1 => ?_
  refine th_as _ fun zs S2 => ?_
  exact th_as _ fun _ _ => rfl
theorem tr_bi {b : Bi} {m : Bool} {es : Exs} : evT C (.bi b m es) ρ S = (evE C (.bi b m es) ρ S).th fun d S1 => ofO (truD d S1) S1 := by
  simp only [evE, evT]
  exact th_as _ fun _ _ => rfl
theorem tr_isI {a : Ex} {ts : List Ty} {p : Bool} : evT C (.isI a ts p) ρ S = (evE C (.isI a ts p) ρ S).th fun d S1 => ofO (truD d S1) S1 := by
  simp only [evE, evT]
  refine th_as _ fun ds S1 => ?_
  cases isAny C.T ds S1 ts <;> rfl
theorem tr_idx {a b : Ex} : evT C (.idx a b) ρ S = (evE C (.idx a b) ρ S).th fun d S1 => ofO (truD d S1) S1 := by
  simp only [evE, evT]
  refine th_as _ fun ds S1 => ?_
  exact th_as _ fun _ _ => rfl
theorem tr_att {a : Ex} {f : Nat} : evT C (.att a f) ρ S = (evE C (.att a f) ρ S).th fun d S1 => ofO (truD d S1) S1 := by
  simp only [evE, evT]
  exact th_as _ fun _ _ => rfl
theorem tr_bin {op : Op} {m : Bool} {a b : Ex} : evT C (.bin op m a b) ρ S = (evE C (.bin op m a b) ρ S).th fun d S1 => ofO (truD d S1) S1 := by
  simp only [evE, evT]
  refine th_as _ fun ds S1 => ?_
  exact th_as _ fun _ _ => rfl
end
theorem both {X : Cx} {e : Expr} {t : TE} {u : TT} (h : PE X e t) (g : PE X e t → TOk X e u) : PE X e t ∧ TOk X e u := ⟨h, g h⟩
variable (hd : Hd G) (np : NpOk G) {C : Cs} (hC : C = csOf G.T n)
include hd np hC
mutual
theorem okE : ∀ (a : Ex) (s : Sx) (W : WX) (X : Cx) (e : Expr), Ctx G n X s W → chkE G.M a s e = true → PE X e (tE G W (evE C a)) ∧ TOk X e (tT G W (evT C a))
  | .var i, s, W, X, e, c, h => by
    simp only [chkE] at h
    split at h
    · rename_i nm pp
      have q : PE X (.Name nm pp) (tE G W (evE C (.var i))) := r_var c h
      exact ⟨q, TOk.of (r_truth c q (fun ρ S => tr_var ρ S) fun _ => rfl) (by intro _ _ _ z; cases z)⟩
    · cases h
  | .non, s, W, X, e, c, h => by
    simp only [chkE] at h
    split at h
    · exact ⟨r_const pe_non (fun ρ S => by simp only [evE]) fun _ _ => rep_non, TOk.bad fun _ _ => by simp only [evT]⟩
    · cases h
  | .bl b, s, W, X, e, c, h => by
    simp only [chkE] at h
    split at h
    · rename_i d jj pp
      simp only [beq_iff_eq] at h
      subst h
      have q : PE X (.Constant (.bool b) jj pp) (tE G W (evE C (.bl b))) := r_const (d := .bl b) (v := .bl b) pe_bl (fun ρ S => by simp only [evE]) fun _ _ => rep_bl
      exact ⟨q, TOk.of (r_truth c q (fun ρ S => tr_bl ρ S) fun _ => rfl) (by intro _ _ _ z; cases z)⟩
    · cases h
  | .int i, s, W, X, e, c, h => by
    simp only [chkE] at h
    split at h
    · simp only [decide_eq_true_eq] at h
      subst h
      exact ⟨r_const pe_int (fun ρ S => by simp only [evE]) fun _ _ => rep_int, TOk.bad fun _ _ => by simp only [evT]⟩
    · cases h
  | .str t, s, W, X, e, c, h => by
    simp only [chkE] at h
    split at h
    · simp only [decide_eq_true_eq] at h
      subst h
      exact ⟨r_const pe_str (fun ρ S => by simp only [evE]) fun _ _ => rep_str, TOk.bad fun _ _ => by simp only [evT]⟩
    · cases h
  | .glb g, s, W, X, e, c, h => by
    simp only [chkE] at h
    split at h
    · simp only [Bool.and_eq_true, decide_eq_true_eq] at h
      exact ⟨r_glb hd c (by rw [hC, csOf_T]) h.1 h.2, TOk.bad fun _ _ => by simp only [evT]⟩
    · cases h
  | .bin op m a b, s, W, X, e, c, h => by
    simp only [chkE] at h
    split at h
    · simp only [Bool.and_eq_true] at h
      rw [opB_of h.1]
      exact both (r_bin c (okE a s W X _ c h.2.1).1 (okE b s W X _ c h.2.2).1) fun q => TOk.of (r_truth c q (fun ρ S => tr_bin ρ S) fun _ => rfl) (by intro _ _ _ z; cases z)
    · cases h
  | .neg a, s, W, X, e, c, h => by
    simp only [chkE] at h
    split at h
    · exact ⟨r_neg (okE a s W X _ c h).1, TOk.bad fun _ _ => by simp only [evT]⟩
    · cases h
  | .cmp op a b, s, W, X, e, c, h => by
    simp only [chkE] at h
    split at h
    · simp only [Bool.and_eq_true] at h
      rw [cpB_of h.1]
      exact ⟨r_cmp c op (okE a s W X _ c h.2.1).1 (okE b s W X _ c h.2.2).1 (noSet_of h.2.2), TOk.of (r_cmpT c op (okE a s W X _ c h.2.1).1 (okE b s W X _ c h.2.2).1 (noSet_of h.2.2)) (by intro _ _ _ z; cases z)⟩
    · cases h
  | .chn o1 o2 a b d, s, W, X, e, c, h => by
    simp only [chkE] at h
    split at h
    · simp only [Bool.and_eq_true] at h
      rw [cpB_of h.1, cpB_of h.2.1]
      exact ⟨r_chn c o1 o2 (okE a s W X _ c h.2.2.1).1 (okE b s W X _ c h.2.2.2.1).1 (okE d s W X _ c h.2.2.2.2).1 (noSet_of h.2.2.2.2), TOk.of (r_chnT c o1 o2 (okE a s W X _ c h.2.2.1).1 (okE b s W X _ c h.2.2.2.1).1 (okE d s W X _ c h.2.2.2.2).1 (noSet_of h.2.2.2.2)) (by intro _ _ _ z; cases z)⟩
    · cases h
  | .isN k a, s, W, X, e, c, h => by
    simp only [chkE] at h
    split at h
    · simp only [Bool.and_eq_true] at h
      have ha := (okE a s W X _ c h.2).1
      rename_i x0 p0 _ _ _
      have ho : p0 = if k then CmpOp.IsNot else CmpOp.Is := by
        obtain ⟨h, _⟩ := h
        split at h
        · exact rfl
        · exact rfl
        · cases h
      exact ⟨r_isN k (j := 0) (p2 := default) (kd := none) ha ho pe_non rfl, TOk.of (r_isNT k ha ho pe_non rfl) (by intro _ _ _ z; cases z)⟩
    · cases h
  | .and a b, s, W, X, e, c, h => by
    simp only [chkE] at h
    split at h
    · rename_i x y r pos
      simp only [Bool.and_eq_true] at h
      have h2' := okE b s W X _ c h.2
      have h2 := h2'.1
      have h1 := okE a s W X _ c h.1
      have qw : PW X (.BoolOp .And (x :: y :: r) pos) (tT G W (evT C (.and a b))) := by
        cases r with
        | nil => exact pw_imp (pw_and h1.2.pt (pw_and1 h2'.2.pt)) (t_and fun _ _ _ q => q)
        | cons z r => exact pw_imp (pw_and h1.2.pt (h2'.2.pw _ _ _ rfl)) (t_and fun _ _ _ q => q)
      refine ⟨r_and c h1.1 ?_, ⟨qw.pt, fun op es p' e => by cases e; exact qw⟩⟩
      cases r with
      | nil => exact pe_one h2
      | cons z r => exact h2
    · cases h
  | .or a b, s, W, X, e, c, h => by
    simp only [chkE] at h
    split at h
    · rename_i x y r pos
      simp only [Bool.and_eq_true] at h
      have h2' := okE b s W X _ c h.2
      have h2 := h2'.1
      have h1 := okE a s W X _ c h.1
      have qw : PW X (.BoolOp .Or (x :: y :: r) pos) (tT G W (evT C (.or a b))) := by
        cases r with
        | nil => exact pw_imp (pw_or h1.2.pt (pw_or1 h2'.2.pt)) (t_or fun _ _ _ q => q)
        | cons z r => exact pw_imp (pw_or h1.2.pt (h2'.2.pw _ _ _ rfl)) (t_or fun _ _ _ q => q)
      refine ⟨r_or c h1.1 ?_, ⟨qw.pt, fun op es p' e => by cases e; exact qw⟩⟩
      cases r with
      | nil => exact pe_one h2
      | cons z r => exact h2
    · cases h
  | .not a, s, W, X, e, c, h => by
    simp only [chkE] at h
    split at h
    · exact ⟨r_not c (okE a s W X _ c h).1, TOk.of (r_notT (okE a s W X _ c h).2.pt) (by intro _ _ _ z; cases z)⟩
    · cases h
  | .ife d a b, s, W, X, e, c, h => by
    simp only [chkE] at h
    split at h
    · simp only [Bool.and_eq_true] at h
      exact ⟨r_ife (okE d s W X _ c h.1).2.pt (okE a s W X _ c h.2.1).1 (okE b s W X _ c h.2.2).1, TOk.bad fun _ _ => by simp only [evT]⟩
    · cases h
  | .tup es, s, W, X, e, c, h => by
    simp only [chkE] at h
    split at h
    · simp only [Bool.and_eq_true, decide_eq_true_eq] at h
      exact ⟨r_tup (okL es s W X _ c h.2) (by rw [← lim]; exact h.1) (len_of h.2), TOk.bad fun _ _ => by simp only [evT]⟩
    · cases h
  | .lst m es, s, W, X, e, c, h => by
    simp only [chkE] at h
    split at h
    · simp only [Bool.and_eq_true, decide_eq_true_eq] at h
      exact ⟨r_lst (okL es s W X _ c h.2) (by rw [← lim]; exact h.1) (len_of h.2), TOk.bad fun _ _ => by simp only [evT]⟩
    · cases h
  | .idx a b, s, W, X, e, c, h => by
    simp only [chkE] at h
    split at h
    · simp only [Bool.and_eq_true] at h
      exact both (r_idx c (okE a s W X _ c h.2.1).1 (okE b s W X _ c h.2.2).1 h.1) fun q => TOk.of (r_truth c q (fun ρ S => tr_idx ρ S) fun _ => rfl) (by intro _ _ _ z; cases z)
    · cases h
  | .slc m a lo hi, s, W, X, e, c, h => by
    simp only [chkE] at h
    split at h
    · simp only [Bool.and_eq_true] at h
      exact ⟨r_slc c (okE a s W X _ c h.1).1 (okI lo s W X _ c h.2.1) (okI hi s W X _ c h.2.2), TOk.bad fun _ _ => by simp only [evT]⟩
    · cases h
  | .att a f, s, W, X, e, c, h => by
    simp only [chkE] at h
    split at h
    · simp only [Bool.and_eq_true, decide_eq_true_eq] at h
      exact both (r_att hd c (by rw [hC, csOf_T]) h.1 (okE a s W X _ c h.2).1 (chk_form _ _ _ h.2).2.2) fun q => TOk.of (r_truth c q (fun ρ S => tr_att ρ S) fun _ => rfl) (by intro _ _ _ z; cases z)
    · cases h
  | .call f es, s, W, X, e, c, h => by
    simp only [chkE] at h
    split at h
    · simp only [Bool.and_eq_true, decide_eq_true_eq] at h
      exact both (r_call hd np c hC h.1 h.2.1 h.2.2.1 (okL es s W X _ c h.2.2.1) (hd.fnl _ (List.getElem?_eq_some_iff.mp h.2.1).1) h.2.2.2) fun q => TOk.of (r_truth c q (fun ρ S => tr_call ρ S) fun _ => rfl) (by intro _ _ _ z; cases z)
    · cases h
  | .calk f es ks pm, s, W, X, e, c, h => by
    simp only [chkE] at h
    split at h
    · simp only [Bool.and_eq_true, decide_eq_true_eq] at h
      obtain ⟨h1, h2, h3, h4, h5, h6, h7⟩ := h
      exact both (r_calk hd np c hC h1 h2 h3 (okL es s W X _ c h3) h5 (okK ks s W X _ c h4) h4 (List.contains_iff_mem.mp h6) h7) fun q => TOk.of (r_truth c q (fun ρ S => tr_calk ρ S) fun _ => rfl) (by intro _ _ _ z; cases z)
    · cases h
  | .mak m k es, s, W, X, e, c, h => by
    simp only [chkE] at h
    split at h
    · simp only [Bool.and_eq_true, decide_eq_true_eq] at h
      exact ⟨r_mak hd np c (hot_of h.2.2.2) hC h.1 h.2.1 h.2.2.1 (okL es s W X _ c h.2.2.1), TOk.bad fun _ _ => by simp only [evT]⟩
    · cases h
  | .makk m k es ks pm, s, W, X, e, c, h => by
    simp only [chkE] at h
    split at h
    · simp only [Bool.and_eq_true, decide_eq_true_eq] at h
      obtain ⟨h1, h2, h3, h4, h5, h6, h7⟩ := h
      exact ⟨r_makk hd np c (hot_of h7) hC h1 h2 h3 (okL es s W X _ c h3) h5 (okK ks s W X _ c h4) h4 (List.contains_iff_mem.mp h6), TOk.bad fun _ _ => by simp only [evT]⟩
    · cases h
  | .mth a f es, s, W, X, e, c, h => by
    simp only [chkE] at h
    split at h
    · simp only [Bool.and_eq_true, decide_eq_true_eq] at h
      obtain ⟨h1, h2, h3, h4, h5, h6⟩ := h
      exact both (r_mth hd np c (hot_of h6) hC h1 h5 (okE a s W X _ c h3).1 (chk_form _ _ _ h3).2.2 (okL es s W X _ c h5) h4 h2) fun q => TOk.of (r_truth c q (fun ρ S => tr_mth ρ S) fun _ => rfl) (by intro _ _ _ z; cases z)
    · cases h
  | .bi b m es, s, W, X, e, c, h => by
    simp only [chkE] at h
    split at h
    · simp only [Bool.and_eq_true, decide_eq_true_eq] at h
      obtain ⟨h1, h2, h3, h4⟩ := h
      subst h2
      exact both (r_bi hd c h4 h1 h3 (okL es s W X _ c h3)) fun q => TOk.of (r_truth c q (fun ρ S => tr_bi ρ S) fun _ => rfl) (by intro _ _ _ z; cases z)
    · cases h
  | .isI a ts p, s, W, X, e, c, h => by
    simp only [chkE] at h
    split at h
    · simp only [Bool.and_eq_true, decide_eq_true_eq] at h
      obtain ⟨h1, h2, h3, h4⟩ := h
      subst h2
      have ha := (okE a s W X _ c h3).1
      have hx := (chk_form _ _ _ h3).1
      refine both ?_ fun q => TOk.of (r_truth c q (fun ρ S => tr_isI ρ S) fun _ => rfl) (by intro _ _ _ z; cases z)
      split at h4
      · split at h4
        · exact r_isI1 hd c (by rw [hC, csOf_T]) h1 ha hx h4
        · cases h4
      · split at h4
        · simp only [Bool.and_eq_true, Bool.not_eq_true', decide_eq_true_eq, List.isEmpty_eq_false_iff] at h4
          exact r_isIT hd c (by rw [hC, csOf_T]) h1 ha hx h4.2.2 (by rw [← lim]; exact h4.2.1) h4.1
        · cases h4
    · cases h
  | .bm b a es, s, W, X, e, c, h => by
    simp only [chkE] at h
    split at h
    · simp only [Bool.and_eq_true, decide_eq_true_eq] at h
      obtain ⟨h1, h2, h3, h4, h5⟩ := h
      subst h1
      exact ⟨r_bm c h5 (okE a s W X _ c h3).1 (chk_form _ _ _ h3).2.2 (okL es s W X _ c h5) h4 h2, TOk.bad fun _ _ => by simp only [evT]⟩
    · cases h
  | .dnew, s, W, X, e, c, h => by
    simp only [chkE] at h
    split at h
    · exact ⟨r_dnew, TOk.bad fun _ _ => by simp only [evT]⟩
    · cases h
  | .dlit e0 v, s, W, X, e, c, h => by
    simp only [chkE] at h
    split at h
    · simp only [Bool.and_eq_true, decide_eq_true_eq] at h
      obtain ⟨h1, h2, h3, h4⟩ := h
      subst h2
      exact ⟨r_dlit hd c h1 (okE e0 s W X _ c h3).1 (chk_form _ _ _ h3).1 (okE v s W X _ c h4).1, TOk.bad fun _ _ => by simp only [evT]⟩
    · cases h
  | .dget a k v, s, W, X, e, c, h => by
    simp only [chkE] at h
    split at h
    · simp only [Bool.and_eq_true, decide_eq_true_eq] at h
      obtain ⟨h1, h2, h3, h4, h5⟩ := h
      subst h1
      exact ⟨r_dget c (okE a s W X _ c h3).1 (chk_form _ _ _ h3).2.2 (okE k s W X _ c h4).1 (chk_form _ _ _ h4).1 (okE v s W X _ c h5).1 (chk_form _ _ _ h5).1 h2, TOk.bad fun _ _ => by simp only [evT]⟩
    · cases h
  | .slr a, s, W, X, e, c, h => by
    simp only [chkE] at h
    split at h
    · simp only [Bool.and_eq_true, decide_eq_true_eq] at h
      obtain ⟨h1, h2⟩ := h
      subst h1
      exact ⟨r_slr c (okE a s W X _ c h2).1, TOk.bad fun _ _ => by simp only [evT]⟩
    · cases h
  | .lno a f, s, W, X, e, c, h => by
    simp only [chkE] at h
    split at h
    · simp only [Bool.and_eq_true, decide_eq_true_eq] at h
      obtain ⟨h1, h2, h3, h4, h5⟩ := h
      subst h2
      exact ⟨r_lno hd np c (hot_of h5) hC h1 h3 (okE a s W X _ c h4).1 (chk_form _ _ _ h4).1, TOk.bad fun _ _ => by simp only [evT]⟩
    · cases h
  | .eqo a b f, s, W, X, e, c, h => by
    simp only [chkE] at h
    split at h
    · simp only [Bool.and_eq_true, decide_eq_true_eq] at h
      obtain ⟨h1, h2, h3, h4⟩ := h
      exact ⟨r_eqo hd np c (hot_of h4) hC h1 (okE a s W X _ c h2).1 (okE b s W X _ c h3).1 (chk_form _ _ _ h3).2.1, TOk.bad fun _ _ => by simp only [evT]⟩
    · cases h
  | .neo a b f, s, W, X, e, c, h => by
    simp only [chkE] at h
    split at h
    · simp only [Bool.and_eq_true, decide_eq_true_eq] at h
      obtain ⟨h1, h2, h3, h4⟩ := h
      exact ⟨r_neo hd np c (hot_of h4) hC h1 (okE a s W X _ c h2).1 (okE b s W X _ c h3).1 (chk_form _ _ _ h3).2.1, TOk.bad fun _ _ => by simp only [evT]⟩
    · cases h
  | .mthk a f g es ks pm, s, W, X, e, c, h => by
    simp only [chkE] at h
    split at h
    · simp only [Bool.and_eq_true, decide_eq_true_eq] at h
      obtain ⟨h1, h2, h3, h4, h5, h6, h7, h8, h9⟩ := h
      exact ⟨r_mthk hd np c (hot_of h9) hC h1 h5 (okE a s W X _ c h3).1 (chk_form _ _ _ h3).2.2 (okL es s W X _ c h5) h7 (okK ks s W X _ c h6) h6 (List.contains_iff_mem.mp h8) h4 h2, TOk.bad fun _ _ => by simp only [evT]⟩
    · cases h
  | .lc m own tg it d e0, s, W, X, e, c, h => by
    simp only [chkE] at h
    split at h
    · simp only [Bool.and_eq_true] at h
      obtain ⟨h1, h2, h3, h4, h5, h6⟩ := h
      refine ⟨?_, TOk.bad fun _ _ => by simp only [evT]⟩
      refine r_lc c (okW it s W X _ _ c h4) (chkW_set _ _ _ _ h4) (by rw [← c.N, ← c.sc] at h1 ⊢; exact h1) ?_ fun X' c' => ⟨r_tg c' h2, okC d _ _ X' _ c' h5, (okE e0 _ _ X' _ c' h6).1⟩
      intro i hi
      cases tg with
      | nm j =>
        simp only [idxs, List.mem_singleton] at hi
        subst hi
        exact List.contains_iff_mem.mp h3
      | tp js => exact List.contains_iff_mem.mp (List.all_eq_true.mp h3 i hi)
    · cases h
  | .lc2 m own tg it d tg2 it2 d2 e0, s, W, X, e, c, h => by
    simp only [chkE] at h
    split at h
    · simp only [Bool.and_eq_true] at h
      obtain ⟨h1, h2, h3, h4, h5, h6, h7, h8, h9, h10, h11⟩ := h
      refine ⟨?_, TOk.bad fun _ _ => by simp only [evT]⟩
      exact r_lc2 c (hot_of h11) ((okW it s W X _ _ c h4).1 (hot_of h11)) (chkW_set _ _ _ _ h4) (chkW_set _ _ _ _ h8) (by rw [← c.N, ← c.sc] at h1 ⊢; exact h1) (fun i hi => List.contains_iff_mem.mp (List.all_eq_true.mp h3 i (by rw [idxs_eq]; exact hi))) (fun i hi => List.contains_iff_mem.mp (List.all_eq_true.mp h7 i (by rw [idxs_eq]; exact hi))) fun X' c' => ⟨r_tg c' h2, okC d _ _ X' _ c' h5, (okW it2 _ _ X' _ _ c' h8).1 (hot_of h11), r_tg c' h6, okC d2 _ _ X' _ c' h9, (okE e0 _ _ X' _ c' h10).1⟩
    · cases h
theorem okL : ∀ (l : Exs) (s : Sx) (W : WX) (X : Cx) (es : List Expr), Ctx G n X s W → chkL G.M l s es = true → PA X es (tL G W (evL C l))
  | .nil, s, W, X, es, c, h => by
    simp only [chkL, List.isEmpty_iff] at h
    subst h
    exact r_nil
  | .cons a l, s, W, X, es, c, h => by
    simp only [chkL] at h
    split at h
    · simp only [Bool.and_eq_true] at h
      exact r_cons ((okE a s W X _ c h.1).1) (chk_form _ _ _ h.1).1 (okL l s W X _ c h.2)
    · cases h
theorem okK : ∀ (l : Exs) (s : Sx) (W : WX) (X : Cx) (qs : List Keyword), Ctx G n X s W → chkL G.M l s (kwE qs) = true → PK X qs (tL G W (evL C l))
  | .nil, s, W, X, qs, c, h => by
    simp only [chkL, List.isEmpty_iff] at h
    cases qs with
    | nil => exact r_knil
    | cons q qs => cases h
  | .cons a l, s, W, X, qs, c, h => by
    cases qs with
    | nil => simp [chkL, kwE] at h
    | cons q qs =>
      simp only [chkL, kwE, Bool.and_eq_true] at h
      obtain ⟨nm, e, kp⟩ := q
      exact r_kcons (okE a s W X _ c h.1).1 (okK l s W X _ c h.2)
theorem okI : ∀ (a : Exo) (s : Sx) (W : WX) (X : Cx) (o : Option Expr), Ctx G n X s W → chkO G.M a s o = true → PO X o (tI G W (evI C a))
  | .no, s, W, X, o, c, h => by
    simp only [chkO, Option.isNone_iff_eq_none] at h
    subst h
    exact r_no
  | .yes a, s, W, X, o, c, h => by
    simp only [chkO] at h
    split at h
    · exact r_yes (okE a s W X _ c h).1
    · cases h
theorem okC : ∀ (a : Exo) (s : Sx) (W : WX) (X : Cx) (es : List Expr), Ctx G n X s W → chkI G.M a s es = true → PTs X es (tT G W (evC C a))
  | .no, s, W, X, es, c, h => by
    simp only [chkI, List.isEmpty_iff] at h
    subst h
    exact ⟨fun pins st σ H Q I ⟨m, ρ, S, re, rs, q⟩ => pts_nil.run pins st σ H Q I (by
      simp only [evC] at q
      exact q.at_ok rs rfl)⟩
  | .yes a, s, W, X, es, c, h => by
    simp only [chkI] at h
    split at h
    · have q := pts_one (okE a s W X _ c h).2.pt
      exact ⟨fun pins st σ H Q I ⟨m, ρ, S, re, rs, q1⟩ => q.run pins st σ H Q I ⟨m, ρ, S, re, rs, by simp only [evC] at q1; exact q1⟩⟩
    · cases h
theorem okW : ∀ (it : Iter) (s : Sx) (W : WX) (X : Cx) (tg e : Expr), Ctx G n X s W → chkW G.M it s tg e = true → (s.hot = false → PI X tg e (tW G W (evW C it))) ∧ (s.hot = true → L2H.PIH X tg e (tW G W (evW C it)))
  | .seq a, s, W, X, tg, e, c, h => by
    simp only [chkW, Bool.and_eq_true] at h
    exact ⟨fun _ => w_seq c (okE a s W X _ c h.2).1, fun q => (cold h.1 q).elim⟩
  | .rng es, s, W, X, tg, e, c, h => by
    simp only [chkW] at h
    split at h
    · simp only [Bool.and_eq_true, Bool.or_eq_true, decide_eq_true_eq] at h
      obtain ⟨h1, h2, h3, h0, h4⟩ := h
      subst h2
      exact ⟨fun _ => w_rng hd c h1 h4 h3 (okL es s W X _ c h4), fun q => w_rngH hd c h1 h4 (h0.elim (fun z => (cold z q).elim) id) (okL es s W X _ c h4)⟩
    · cases h
  | .enm a, s, W, X, tg, e, c, h => by
    simp only [chkW] at h
    split at h
    · simp only [Bool.and_eq_true, Bool.not_eq_true', decide_eq_true_eq] at h
      obtain ⟨⟨h0, h1⟩, h2, hq, h3⟩ := h
      subst h2
      refine ⟨fun _ => ?_, fun q => by rw [hq] at q; cases q⟩
      cases tg <;> first
        | exact w_enm hd c h1 (okE a s W X _ c h3).1 (chk_form _ _ _ h3).1
        | (simp [notTuple] at h0; done)
    · cases h
  | .zip a b, s, W, X, tg, e, c, h => by
    simp only [chkW] at h
    split at h
    · simp only [Bool.and_eq_true, Bool.not_eq_true', decide_eq_true_eq] at h
      obtain ⟨⟨h0, h1⟩, h2, hq, h3, h4⟩ := h
      subst h2
      refine ⟨fun _ => ?_, fun q => by rw [hq] at q; cases q⟩
      cases tg <;> first
        | exact w_zip hd c h1 (okE a s W X _ c h3).1 (chk_form _ _ _ h3).1 (okE b s W X _ c h4).1 (chk_form _ _ _ h4).1
        | (simp [notTuple] at h0; done)
    · cases h
  | .rev a, s, W, X, tg, e, c, h => by
    simp only [chkW] at h
    split at h
    · simp only [Bool.and_eq_true, decide_eq_true_eq] at h
      obtain ⟨h1, h2, hq, h3⟩ := h
      subst h2
      exact ⟨fun _ => w_rev hd c h1 (okE a s W X _ c h3).1 (chk_form _ _ _ h3).1, fun q => (cold hq q).elim⟩
    · cases h
end
end
end Ev
end
section
set_option maxRecDepth 100000
set_option maxHeartbeats 8000000
/-! Ev, part 16: the rules of statements. -/
namespace Ev
open PySem PySem.Spec PyProof.Rows L2
def FinS (G : Pg) (W : WX) (m : List Addr) (H : Hp) (r : Os) (D : Ends) : Prop := match r with
  | .nx ρ' S' => ∀ m' H' σ', Ext m H m' H' → RE G m' H' ρ' σ' → RS G m' H' S' → D.nx σ' H'
  | .rt d S' => ∀ m' H' v, Ext m H m' H' → RS G m' H' S' → Rep G m' H' d v → D.rt v H'
  | .bk ρ' S' => ∀ m' H' σ', Ext m H m' H' → RE G m' H' ρ' σ' → RS G m' H' S' → D.bk σ' H'
  | .ct ρ' S' => ∀ m' H' σ', Ext m H m' H' → RE G m' H' ρ' σ' → RS G m' H' S' → D.ct σ' H'
  | .ex c l ρ' S' => ∀ m' H' dx σ', Ext m H m' H' → RE G m' H' ρ' σ' → RS G m' H' S' → XRep G m' H' c l dx → W (.ref (G.xa c)) (some dx) σ' H'
  | .bad => False
theorem FinS.ext {G : Pg} {W : WX} {m m' : List Addr} {H H' : Hp} {r : Os} {D : Ends} (x : Ext m H m' H') (h : FinS G W m H r D) : FinS G W m' H' r D := by
  cases r with
  | nx ρ S => exact fun m2 H2 σ x2 => h m2 H2 σ (x.trans x2)
  | rt d S => exact fun m2 H2 v x2 => h m2 H2 v (x.trans x2)
  | bk ρ S => exact fun m2 H2 σ x2 => h m2 H2 σ (x.trans x2)
  | ct ρ S => exact fun m2 H2 σ x2 => h m2 H2 σ (x.trans x2)
  | ex c l ρ S => exact fun m2 H2 dx σ x2 => h m2 H2 dx σ (x.trans x2)
  | bad => exact h
def tS (G : Pg) (W : WX) (ex : Fr → Store → Os) : TS := fun D σ H => ∃ m ρ S, RE G m H ρ σ ∧ RS G m H S ∧ FinS G W m H (ex ρ S) D
theorem tS.go {G : Pg} {W : WX} {σ : L2.St} {m : List Addr} {H : Hp} {S : Store} {ρ ρ0 : Fr} {α β : Type} {R : List Addr → Hp → α → β → Prop} {ev : Fr → Store → Rs α} {k : α → Store → Os} {t : Tag k} {D : Ends} {Q' : β → Hp → Prop} (re : RE G m H ρ σ) (re0 : RE G m H ρ0 σ) (rs : RS G m H S)
    (h : FinS G W m H ((ev ρ S).os ρ0 k t) D) (q : ∀ a S' m' H' v, ev ρ S = .ok a S' → Ext m H m' H' → RE G m' H' ρ σ → RE G m' H' ρ0 σ → RS G m' H' S' → R m' H' a v → FinS G W m' H' (k a S') D → Q' v H') : tX G W R ev σ H Q' :=
  ⟨m, ρ, S, re, rs, by
    cases e : ev ρ S with
    | ok a S' =>
      rw [e] at h
      intro m' H' v x rs' r
      exact q a S' m' H' v e x (re.mono x) (re0.mono x) rs' r (FinS.ext x h)
    | ex c l S' =>
      rw [e] at h
      exact fun m' H' dx x rs' xr => h m' H' dx σ x (re0.mono x) rs' xr
    | bad => rw [e] at h; exact h⟩
structure CtxS (G : Pg) (n : Nat) (X : Cx) (s : Sx) (W : WX) : Prop where
  c : Ctx G n X s W
  po : PassesOwn (model X.prog X.w) X.A X.env X.xe
  stk : X.stack = X.env :: X.outer
  fr : X.env.frame = some X.env.locals
  kd : s.sc.kind = .function
theorem CtxS.tr {G : Pg} {n : Nat} {X : Cx} {s : Sx} {W W1 : WX} (c : CtxS G n X s W) (hs : s.hot = false) {pn : List (Addr × Obj)} {xe : Value → Shared → Prop} (tk : L2N.Takes (X.tr pn xe) W1) (po : PassesOwn (model X.prog X.w) X.A X.env xe) : CtxS G n (X.tr pn xe) s W1 :=
  ⟨⟨c.c.prog, c.c.w, c.c.K, c.c.mg, c.c.base, c.c.N, c.c.nd, c.c.sc, c.c.fn, tk, fun h => c.c.cm h, fun (h : s.hot = true) => (by rw [hs] at h; cases h), c.c.lvh, c.c.rm⟩, po, c.stk, c.fr, c.kd⟩
section
variable {X : Cx}
theorem ps_imp {st : Stmt} {t t' : TS} (h : PS X st t) (i : ∀ D σ H, t' D σ H → t D σ H) : PS X st t' := ⟨fun pins s σ H D I q => h.run pins s σ H D I (i D σ H q)⟩
theorem pss_imp {st : List Stmt} {t t' : TS} (h : PSs X st t) (i : ∀ D σ H, t' D σ H → t D σ H) : PSs X st t' := ⟨fun pins s σ H D I q => h.run pins s σ H D I (i D σ H q)⟩
end
section
variable {G : Pg} {n : Nat} {X : Cx} {s : Sx} {W : WX} {C : Cs} {e x y z : Expr} {p pos apos : Pos} {a b : Ex} {es : List Expr} {l l2 : Exs}
theorem s_nil : PSs X [] (tS G W (exSs C .nil)) := pss_imp pss_nil fun D σ H ⟨m, ρ, S, re, rs, q⟩ => by
  simp only [exSs] at q
  exact q m H σ Ext.refl re rs
theorem s_cons {st : Stmt} {sts : List Stmt} {a : Ev.St} {b : Sts} (h1 : PS X st (tS G W (exS C a))) (h2 : PSs X sts (tS G W (exSs C b))) : PSs X (st :: sts) (tS G W (exSs C (.cons a b))) :=
  pss_imp (pss_cons h1 h2) fun D σ H ⟨m, ρ, S, re, rs, q⟩ => by
    simp only [exSs] at q
    refine ⟨m, ρ, S, re, rs, ?_⟩
    cases e : exS C a ρ S with
    | nx ρ1 S1 =>
      rw [e] at q
      exact fun m' H' σ' x re' rs' => ⟨m', ρ1, S1, re', rs', FinS.ext x q⟩
    | rt d S1 => rw [e] at q; exact q
    | bk ρ1 S1 => rw [e] at q; exact q
    | ct ρ1 S1 => rw [e] at q; exact q
    | ex c l ρ1 S1 => rw [e] at q; exact q
    | bad => rw [e] at q; exact q
/-- is a comprehension's value dropped for a store? -/
theorem sw_none {e : Expr} {l : Nat} {t : Option Expr} {env : Env} (h : notComp e = true) : swapsWith e t l env = pure false := by
  cases e <;> first | rfl | (simp [notComp] at h)
theorem sw_other {e t : Expr} {l : Nat} {env : Env} (h : ∀ x p, t ≠ .Name x p) : swapsWith e (some t) l env = pure false := by
  cases e <;> first
    | rfl
    | (cases t <;> first | rfl | exact absurd rfl (h _ _))
theorem sw_sole {e t : Expr} {l : Nat} {env : Env} (h : ∀ x p, t ≠ .Name x p) : swapsWithSole [t] e l env = pure false := by
  show swapsWith e (some t) l env = pure false
  exact sw_other h
theorem set_tree {o i : Expr} {p2 : Pos} {env : Env} (h : notSlice i = true) (v : Value) : assign (.Subscript o i p2) env v = (do
    let ov ← holding [v] (eval o env)
    let iv ← holding [v, ov] (eval i env)
    standAt p2
    holding [v, ov, iv] (setItem ov iv v)
    release [v, ov, iv] []) := by
  cases i <;> first | rfl | (simp [notSlice] at h)
theorem s_ex (ha : PE X x (tE G W (evE C a))) (hn : notComp x = true) : PS X (.Expr x pos) (tS G W (exS C (.ex a))) :=
  ps_imp (ps_expr ha (sw_none hn)) fun D σ H ⟨m, ρ, S, re, rs, q⟩ => by
    simp only [exS] at q
    exact tS.go re re rs q fun d S1 m1 H1 v1 _ x1 re1 _ rs1 r1 q1 => q1 m1 H1 σ Ext.refl re1 rs1
theorem s_ret (ha : PE X x (tE G W (evE C a))) : PS X (.Return (some x) pos) (tS G W (exS C (.ret a))) :=
  ps_imp (ps_ret ha) fun D σ H ⟨m, ρ, S, re, rs, q⟩ => by
    simp only [exS] at q
    exact tS.go re re rs q fun d S1 m1 H1 v1 _ x1 re1 _ rs1 r1 q1 => q1 m1 H1 v1 Ext.refl rs1 r1
theorem s_retN : PS X (.Return none pos) (tS G W (exS C .retN)) :=
  ps_imp ps_retN fun D σ H ⟨m, ρ, S, re, rs, q⟩ => by
    simp only [exS] at q
    exact q m H _ Ext.refl rs rep_non
theorem s_pas : PS X (.Pass pos) (tS G W (exS C .pas)) :=
  ps_imp ps_pass fun D σ H ⟨m, ρ, S, re, rs, q⟩ => by
    simp only [exS] at q
    exact q m H σ Ext.refl re rs
theorem s_brk : PS X (.Break pos) (tS G W (exS C .brk)) :=
  ps_imp ps_break fun D σ H ⟨m, ρ, S, re, rs, q⟩ => by
    simp only [exS] at q
    exact q m H σ Ext.refl re rs
theorem s_cnt : PS X (.Continue pos) (tS G W (exS C .cnt)) :=
  ps_imp ps_continue fun D σ H ⟨m, ρ, S, re, rs, q⟩ => by
    simp only [exS] at q
    exact q m H σ Ext.refl re rs
theorem s_if {c0 : Ex} {A B : Sts} {p q : List Stmt} (hc : PT X x (tT G W (evT C c0))) (ha : PSs X p (tS G W (exSs C A))) (hb : PSs X q (tS G W (exSs C B))) : PS X (.If x p q pos) (tS G W (exS C (.ife c0 A B))) :=
  ps_imp (ps_if hc ha hb) fun D σ H ⟨m, ρ, S, re, rs, q⟩ => by
    simp only [exS] at q
    refine tS.go re re rs q fun k S1 m1 H1 k1 _ x1 re1 _ rs1 r1 q1 => ?_
    have e : k = k1 := r1
    subst e
    cases k with
    | true => exact ⟨m1, ρ, S1, re1, rs1, q1⟩
    | false => exact ⟨m1, ρ, S1, re1, rs1, q1⟩
theorem g_name {i : Nat} {D : Ends} {σ : L2.St} {m : List Addr} {H : Hp} {ρ : Fr} {S : Store} {d : Ev.D} {v : V} (re : RE G m H ρ σ) (rs : RS G m H S) (r : Rep G m H d v) (q : FinS G W m H (.nx (setS ρ i d) S) D) : gName i v σ H D.nx :=
  q m H _ Ext.refl (re.set r) rs
theorem s_asg (c : CtxS G n X s W) {i : Nat} {nm : Str} {px : Pos} (ha : PE X x (tE G W (evE C a))) (hp : putB s i nm = true) (hs : swapsWith x (some (.Name nm px)) pos.line X.env = pure false) : PS X (.Assign [.Name nm px] x pos) (tS G W (exS C (.asg i a))) := by
  obtain ⟨p1, p2, p3⟩ := c.c.put hp
  refine ps_imp (ps_set c.c.nN p1 p2 ha hs p3) fun D σ H ⟨m, ρ, S, re, rs, q⟩ => ?_
  simp only [exS] at q
  exact tS.go re re rs q fun d S1 m1 H1 v1 _ x1 re1 _ rs1 r1 q1 => g_name re1 rs1 r1 q1
theorem s_asgT (c : CtxS G n X s W) (hcm : s.hot = false) {is : List Nat} {ts : List Expr} {k : Nat} {pt : Pos} (ha : PE X x (tE G W (evE C a))) (hp : tgsB s is ts = true) (hw : swappedStores [.Tuple ts k pt] x X.env = pure none) : PS X (.Assign [.Tuple ts k pt] x pos) (tS G W (exS C (.asgT is a))) := by
  have pg := r_tg (tg := .Tuple ts k pt) c.c (t := .tp is) (by simp only [tgB, hcm]; exact hp)
  refine ps_imp (ps_asg ha pg (sw_sole (by intro _ _ h; cases h)) hw rfl) fun D σ H ⟨m, ρ, S, re, rs, q⟩ => ?_
  simp only [exS] at q
  refine tS.go re re rs q fun d S1 m1 H1 v1 _ x1 re1 _ rs1 r1 q1 => ?_
  split at q1
  · rename_i ρ1 e1
    exact ⟨m1, ρ, S1, d, ρ1, re1, rs1, r1, e1, fun σ' re' _ => q1 m1 H1 σ' Ext.refl re' rs1⟩
  · exact q1.elim
theorem s_asgI (c : CtxS G n X s W) {o i0 : Ex} {p2 : Pos} (ho : PE X y (tE G W (evE C o))) (hi : PE X z (tE G W (evE C i0))) (ha : PE X x (tE G W (evE C a))) (hz : notSlice z = true) : PS X (.Assign [.Subscript y z p2] x pos) (tS G W (exS C (.asgI o i0 a))) :=
  ps_imp (ps_asg ha (pg_sub ho hi (set_cell (G := G)) (set_tree hz)) (sw_sole (by intro _ _ h; cases h)) rfl rfl) fun D σ H ⟨m, ρ, S, re, rs, q⟩ => by
    simp only [exS] at q
    refine tS.go re re rs q fun d S1 m1 H1 v1 _ x1 re1 _ rs1 r1 q1 => ?_
    refine tS.go re1 re1 rs1 q1 fun d2 S2 m2 H2 v2 _ x2 re2 _ rs2 r2 q2 => ?_
    refine tS.go re2 re2 rs2 q2 fun d3 S3 m3 H3 v3 _ x3 re3 _ rs3 r3 q3 => ?_
    split at q3
    · rename_i S4 e4
      exact ⟨m3, S3, d2, d3, d, S4, rs3, Rep.mono x3 _ _ r2, r3, Rep.mono (x2.trans x3) _ _ r1, e4, fun H' x' rs' => q3 m3 H' σ x' (re3.mono x') rs'⟩
    · exact q3.elim
/-- xs[i] as it is read ahead of xs[i] += e -/
theorem get_cell : PGet X (fun o i H Q => ∃ p xs j v, o = .ref p ∧ i = .int j ∧ SqL X.K H p xs ∧ atI xs j = some v ∧ Q v H) := by
  intro pins s σ H o i ov iv Q I ro ri h
  obtain ⟨p, xs, j, z, rfl, rfl, hq, he, q⟩ := h
  cases ro
  obtain ⟨t, rfl⟩ := ri
  obtain ⟨its, r, pl, hz⟩ := I.list hq
  obtain ⟨k, h1, h2, h3, h4, h5⟩ := atI_get he
  obtain ⟨w, ew, rw'⟩ := r.get h2
  have hl := r.length
  have hn := line63
  have fin : EP X pins σ Q w s := ⟨z, H, I, rw', q⟩
  by_cases h0 : 0 ≤ j
  · have hj : j.toNat = k := by
      rw [seqIndex_of h0 h5] at h1
      exact Option.some.inj h1
    exact wpAny_getItem_list pl.isList h0 (by omega) (by rw [hj]; simpa using ew) fin
  · have hj : (j + (its.toArray.size : Int)).toNat = k := by
      rw [seqIndex_neg (by omega) h4] at h1
      rw [List.size_toArray, ← hl]
      exact Option.some.inj h1
    exact wpAny_getItem_list_neg pl.isList (by omega) (by rw [List.size_toArray] <;> omega) (by omega) (by rw [hj]; simpa using ew) fin
theorem refIx_at {d e : Ev.D} {z : Ev.D} {m : List Addr} {H : Hp} {S : Store} {v u : V} (rs : RS G m H S) (rd : Rep G m H d v) (re : Rep G m H e u) (h : refIx d e S = some z) : ∃ p xs j w, v = .ref p ∧ u = .int j ∧ Rd H p (.lst xs) ∧ atI xs j = some w ∧ Rep G m H z w := by
  unfold refIx at h
  split at h
  · rename_i n
    split at h
    · rename_i l e1
      split at h
      · rename_i i
        split at h
        · rename_i k hk
          obtain ⟨p, vs, rfl, hp, r⟩ := lstOf_sq (l := l) rs rd (by unfold lstOf; simp only [e1])
          obtain ⟨w, hw, rw'⟩ := r.get h
          refine ⟨p, vs, i, w, rfl, re.int_inv, hp, ?_, rw'⟩
          unfold atI
          rw [← ixN_eq, ← r.length, hk]
          exact hw
        · cases h
      · cases h
    · cases h
  · cases h
theorem augV_at {sb : Bool} {x y z : Ev.D} (h : augV sb x y = some z) : ∃ i j : Int, x = .int i ∧ y = .int j ∧ z = .int (if sb then i - j else i + j) := by
  unfold augV at h
  split at h
  · cases h
    exact ⟨_, _, rfl, rfl, rfl⟩
  · cases h
theorem ip_sb {sb : Bool} {op : Operator} (h : augB sb op = true) : PIp X op (ipI fun i j => if sb then i - j else i + j) := by
  unfold augB at h
  split at h
  · exact ip_add
  · exact ip_sub
  · cases h
theorem s_augN (c : CtxS G n X s W) {i : Nat} {nm : Str} {px : Pos} {sb : Bool} {op : Operator} (ha : PE X x (tE G W (evE C a))) (hp : putB s i nm = true) (ho : augB sb op = true) : PS X (.AugAssign (.Name nm px) op x pos) (tS G W (exS C (.augN i sb a))) := by
  obtain ⟨p1, p2, p3⟩ := c.c.put hp
  refine ps_imp (ps_aug c.c.nN p1 p2 ha (ip_sb ho) p3) fun D σ H ⟨m, ρ, S, re, rs, q⟩ => ?_
  simp only [exS] at q
  cases e : valS ρ i with
  | none => rw [e] at q; exact q.elim
  | some d =>
    rw [e] at q
    have e1 : ρ[i]? = some (some d) := by
      unfold valS at e
      split at e
      · rename_i h
        cases e
        exact h
      · cases e
    obtain ⟨v, hv, rv⟩ := re.at_ i d e1
    replace q : FinS G W m H ((evE C a ρ S).os ρ (fun y S1 => match augV sb d y with
      | some z => .nx (setS ρ i z) S1
      | none => .bad)) D := q
    refine ⟨v, hv, tS.go (ρ0 := ρ) re re rs q fun y S1 m1 H1 v1 _ x1 re1 _ rs1 r1 q1 => ?_⟩
    split at q1
    · rename_i z hz
      obtain ⟨i1, j1, rfl, rfl, rfl⟩ := augV_at hz
      exact ⟨i1, j1, rv.int_inv, r1.int_inv, g_name re1 rs1 rep_int q1⟩
    · exact q1.elim
theorem aug_tree {i : Expr} (h : notSlice i = true) (ov iv new : Value) : augStore i ov iv new = (do holding [new, ov, iv] (setItem ov iv new); release [new, ov, iv] []; pure .next) := by
  cases i <;> first | rfl | (simp [notSlice] at h)
theorem s_augI (c : CtxS G n X s W) {o i0 : Ex} {p2 : Pos} {sb : Bool} {op : Operator} (ho : PE X y (tE G W (evE C o))) (hi : PE X z (tE G W (evE C i0))) (ha : PE X x (tE G W (evE C a))) (hz : notSlice z = true) (hop : augB sb op = true) : PS X (.AugAssign (.Subscript y z p2) op x pos) (tS G W (exS C (.augI o i0 sb a))) := by
  refine ps_imp (ps_augS ho hi get_cell ha (ip_sb hop) (set_cell (G := G)) (aug_tree hz)) fun D σ H ⟨m, ρ, S, re, rs, q⟩ => ?_
  simp only [exS] at q
  refine tS.go re re rs q fun d S1 m1 H1 v1 _ x1 re1 _ rs1 r1 q1 => ?_
  refine tS.go re1 re1 rs1 q1 fun d2 S2 m2 H2 v2 _ x2 re2 _ rs2 r2 q2 => ?_
  have r1' := Rep.mono x2 _ _ r1
  cases e : refIx d d2 S2 with
  | none => rw [e] at q2; exact q2.elim
  | some w0 =>
    rw [e] at q2
    replace q2 : FinS G W m2 H2 ((evE C a ρ S2).os ρ (fun y S4 => match augV sb w0 y with
      | some z => match setI d d2 z S4 with
        | some S5 => .nx ρ S5
        | none => .bad
      | none => .bad)) D := q2
    obtain ⟨p, xs, j, w, rfl, rfl, hp, hw, rw'⟩ := refIx_at rs2 r1' r2 e
    refine ⟨p, xs, j, w, rfl, rfl, sq_of hp, hw, ?_⟩
    refine tS.go (ρ0 := ρ) re2 re2 rs2 q2 fun d3 S3 m3 H3 v3 _ x3 re3 _ rs3 r3 q3 => ?_
    split at q3
    · rename_i zz hzz
      obtain ⟨i1, j1, rfl, rfl, rfl⟩ := augV_at hzz
      refine ⟨i1, j1, rw'.int_inv, r3.int_inv, ?_⟩
      split at q3
      · rename_i S4 e4
        exact ⟨m3, S3, d, d2, _, S4, rs3, Rep.mono x3 _ _ r1', Rep.mono x3 _ _ r2, rep_int, e4, fun H' x' rs' => q3 m3 H' σ x' (re3.mono x') rs'⟩
      · exact q3.elim
    · exact q3.elim
theorem s_asg2 (c : CtxS G n X s W) {i j : Nat} {nm ny : Str} {px py : Pos} (ha : PE X x (tE G W (evE C a))) (hp : putB s i nm = true) (hq : putB s j ny = true) (hw : swappedStores [.Name nm px, .Name ny py] x X.env = pure none) : PS X (.Assign [.Name nm px, .Name ny py] x pos) (tS G W (exS C (.asg2 i j a))) := by
  obtain ⟨p1, p2, p3⟩ := c.c.put hp
  obtain ⟨p4, p5, p6⟩ := c.c.put hq
  refine ps_imp (ps_asg2 ha (pg_name c.c.nN p1 p2 p3) (pg_name c.c.nN p4 p5 p6) rfl hw) fun D σ H ⟨m, ρ, S, re, rs, q⟩ => ?_
  simp only [exS] at q
  exact tS.go re re rs q fun d S1 m1 H1 v1 _ x1 re1 _ rs1 r1 q1 => q1 m1 H1 _ Ext.refl ((re1.set r1).set r1) rs1
theorem s_whl (c : CtxS G n X s W) {c0 : Ex} {B : Sts} {q : List Stmt} (hc : PT X x (tT G W (evT C c0))) (hb : PSs X q (tS G W (exSs C B))) : PS X (.While x q [] pos) (tS G W (exS C (.whl c0 B))) := by
  refine ps_imp (ps_while c.po hc hb) fun D σ H ⟨m, ρ, S, re, rs, q⟩ => ?_
  simp only [exS, whl] at q
  split at q
  · rename_i h
    have hs := h.choose_spec.choose_spec
    generalize h.choose_spec.choose = r at q hs
    generalize h.choose = k at hs
    refine ⟨fun j σ' H' => ∃ m' ρ' S', RE G m' H' ρ' σ' ∧ RS G m' H' S' ∧ Ext m H m' H' ∧ whlN (fun ρ S => evT C c0 ρ S) (fun ρ S => exSs C B ρ S) j ρ' S' = some r, ⟨k, m, ρ, S, re, rs, Ext.refl, hs⟩, ?_⟩
    rintro j σ1 H1 ⟨m1, ρ1, S1, re1, rs1, x1, e⟩
    cases j with
    | zero => simp only [whlN] at e; cases e
    | succ j =>
      simp only [whlN] at e
      refine ⟨m1, ρ1, S1, re1, rs1, ?_⟩
      cases ec : evT C c0 ρ1 S1 with
      | bad =>
        rw [ec] at e
        cases e
        exact q.elim
      | ex xc l S2 =>
        rw [ec] at e
        cases e
        exact fun m' H' dx x' rs' xr => q m' H' dx σ1 (x1.trans x') (re1.mono x') rs' xr
      | ok kb S2 =>
        rw [ec] at e
        intro m2 H2 k2 x2 rs2 rk
        have ek : kb = k2 := rk
        subst ek
        cases kb with
        | false =>
          cases e
          exact q m2 H2 σ1 (x1.trans x2) (re1.mono x2) rs2
        | true =>
          simp only [if_true] at e ⊢
          refine ⟨fun σ' H' => ∃ m' ρ' S', RE G m' H' ρ' σ' ∧ RS G m' H' S' ∧ Ext m H m' H' ∧ whlN (fun ρ S => evT C c0 ρ S) (fun ρ S => exSs C B ρ S) j ρ' S' = some r, fun σ' H' w => ⟨j, Nat.lt_succ_self _, w⟩, ?_⟩
          refine ⟨m2, ρ1, S2, re1.mono x2, rs2, ?_⟩
          cases eb : exSs C B ρ1 S2 with
          | nx ρ3 S3 =>
            rw [eb] at e
            exact fun m' H' σ' x' re' rs' => ⟨m', ρ3, S3, re', rs', (x1.trans x2).trans x', e⟩
          | ct ρ3 S3 =>
            rw [eb] at e
            exact fun m' H' σ' x' re' rs' => ⟨m', ρ3, S3, re', rs', (x1.trans x2).trans x', e⟩
          | bk ρ3 S3 =>
            rw [eb] at e
            cases e
            exact fun m' H' σ' x' re' rs' => q m' H' σ' ((x1.trans x2).trans x') re' rs'
          | rt d S3 =>
            rw [eb] at e
            cases e
            exact fun m' H' v x' rs' r' => q m' H' v ((x1.trans x2).trans x') rs' r'
          | ex xc l ρ3 S3 =>
            rw [eb] at e
            cases e
            exact fun m' H' dx σ' x' re' rs' xr => q m' H' dx σ' ((x1.trans x2).trans x') re' rs' xr
          | bad =>
            rw [eb] at e
            cases e
            exact q.elim
  · exact q.elim
theorem for_fin {t : Tg} {B : Sts} {p : List Ev.D × Gd} {J : It} {m1 : List Addr} {H1 : Hp} {S1 : Store} {ρ : Fr} {σ : L2.St} {D : Ends} (re1 : RE G m1 H1 ρ σ) (rs1 : RS G m1 H1 S1) (ry : RY G m1 H1 p J) (q1 : FinS G W m1 H1 (forL t (fun ρ S => exSs C B ρ S) p.2 p.1 ρ S1) D) :
    ∃ Wt : Nat → Nat → L2.St → Hp → Prop, (∃ k, Wt 0 k σ H1) ∧ ∀ i k σ H, Wt i k σ H →
      (J.stop i H ∧ D.nx σ H) ∨ (J.go i H ∧ ∃ N : L2.St → Hp → Prop, (∀ σ' H', N σ' H' → ∃ k', k' < k ∧ Wt (i + 1) k' σ' H') ∧ ∀ x H', J.yld i H x H' → gT G t x σ H' fun σ2 H2 => tS G W (exSs C B) { D with nx := N, ct := N, bk := D.nx } σ2 H2) := by
  refine ⟨fun i j σ' H' => ∃ m' ρ' S', j = p.1.length - i ∧ i ≤ p.1.length ∧ RE G m' H' ρ' σ' ∧ RS G m' H' S' ∧ Ext m1 H1 m' H' ∧ FinS G W m' H' (forL t (fun ρ S => exSs C B ρ S) p.2 (p.1.drop i) ρ' S') D, ⟨_, m1, ρ, S1, rfl, Nat.zero_le _, re1, rs1, Ext.refl, q1⟩, ?_⟩
  rintro i j σ2 H2 ⟨m2, ρ2, S2, rfl, hi, re2, rs2, x2, f⟩
  by_cases hlt : i < p.1.length
  · have hd : p.1.drop i = p.1[i] :: p.1.drop (i + 1) := List.drop_eq_getElem_cons hlt
    rw [hd] at f
    simp only [forL] at f
    split at f
    · rename_i hg
      obtain ⟨go, yl⟩ := (ry m2 H2 S2 x2 rs2 hg i).1 p.1[i] (List.getElem?_eq_getElem hlt)
      split at f
      · rename_i ρ3 et
        refine .inr ⟨go, fun σ' H' => ∃ m' ρ' S', RE G m' H' ρ' σ' ∧ RS G m' H' S' ∧ Ext m1 H1 m' H' ∧ FinS G W m' H' (forL t (fun ρ S => exSs C B ρ S) p.2 (p.1.drop (i + 1)) ρ' S') D, ?_, ?_⟩
        · rintro σ' H' ⟨m', ρ', S', re', rs', x', f'⟩
          exact ⟨p.1.length - (i + 1), by omega, m', ρ', S', rfl, hlt, re', rs', x', f'⟩
        · intro v H3 hy
          obtain ⟨x3, rs3, r3⟩ := yl v H3 hy
          refine ⟨m2, ρ2, S2, p.1[i], ρ3, re2.mono x3, rs3, r3, et, fun σ4 re4 _ => ⟨m2, ρ3, S2, re4, rs3, ?_⟩⟩
          cases eb : exSs C B ρ3 S2 with
          | nx ρ5 S5 =>
            rw [eb] at f
            exact fun m' H' σ' x' re' rs' => ⟨m', ρ5, S5, re', rs', x2.trans (x3.trans x'), FinS.ext (x3.trans x') f⟩
          | ct ρ5 S5 =>
            rw [eb] at f
            exact fun m' H' σ' x' re' rs' => ⟨m', ρ5, S5, re', rs', x2.trans (x3.trans x'), FinS.ext (x3.trans x') f⟩
          | bk ρ5 S5 =>
            rw [eb] at f
            exact fun m' H' σ' x' re' rs' => f m' H' σ' (x3.trans x') re' rs'
          | rt d S5 =>
            rw [eb] at f
            exact fun m' H' v x' rs' r' => f m' H' v (x3.trans x') rs' r'
          | ex xc l ρ5 S5 =>
            rw [eb] at f
            exact fun m' H' dx σ' x' re' rs' xr => f m' H' dx σ' (x3.trans x') re' rs' xr
          | bad =>
            rw [eb] at f
            exact f.elim
      · exact f.elim
    · exact f.elim
  · have e1 : i = p.1.length := by omega
    have hd : p.1.drop i = [] := List.drop_eq_nil_of_le (by omega)
    rw [hd] at f
    simp only [forL] at f
    split at f
    · rename_i hg
      exact .inl ⟨(ry m2 H2 S2 x2 rs2 hg i).2 e1.symm, f m2 H2 σ2 Ext.refl re2 rs2⟩
    · exact f.elim
theorem s_for (c : CtxS G n X s W) {t : Tg} {it : Iter} {B : Sts} {q : List Stmt} {tgE : Expr} (hw : (s.hot = false → PI X tgE x (tW G W (evW C it))) ∧ (s.hot = true → L2H.PIH X tgE x (tW G W (evW C it)))) (hns : noSet x = true) (hp : tgB s t tgE = true) (hb : PSs X q (tS G W (exSs C B))) : PS X (.For tgE x q [] pos) (tS G W (exS C (.forr t it B))) := by
  have q0 : PS X (.For tgE x q [] pos) (tFor (tW G W (evW C it)) (gT G t) (tS G W (exSs C B))) := by
    cases hh : s.hot with
    | false => exact ps_for c.po (c.c.calm hh) (hw.1 hh) (r_tg c.c hp) hb (folded_of hns)
    | true => exact L2H.ps_forH c.po (c.c.ht hh) (hw.2 hh) (r_tg c.c hp) hb (folded_of hns)
  refine ps_imp q0 fun D σ H ⟨m, ρ, S, re, rs, q⟩ => ?_
  simp only [exS] at q
  refine tS.go re re rs q fun p S1 m1 H1 J _ x1 re1 _ rs1 ry q1 => ?_
  exact for_fin re1 rs1 ry q1
end
end Ev
end
section
set_option maxRecDepth 100000
set_option maxHeartbeats 8000000
/-! Ev, part 17: more rules of statements; exceptions. -/
namespace Ev
open PySem PySem.Spec PyProof.Rows L2
section
variable {G : Pg} {n : Nat} {X : Cx} {s : Sx} {W : WX} {C : Cs} {e x y z : Expr} {p pos apos : Pos} {a b : Ex} {es : List Expr} {l l2 : Exs}
theorem comp_inv {M : Nm} {v : Expr} (h : chkE M a s v = true) (hn : ¬ notComp v = true) : (∃ m own tg it c e0 x t i ifs sc p, a = .lc m own tg it c e0 ∧ v = .ListComp x [⟨t, i, ifs, 0⟩] sc p) ∨ ∃ m own tg it c tg2 it2 c2 e0 x t i ifs t2 i2 ifs2 sc p, a = .lc2 m own tg it c tg2 it2 c2 e0 ∧ v = .ListComp x [⟨t, i, ifs, 0⟩, ⟨t2, i2, ifs2, 0⟩] sc p := by
  cases a <;> (unfold chkE at h; split at h) <;> first
    | (cases h; done)
    | exact absurd rfl hn
    | exact .inl ⟨_, _, _, _, _, _, _, _, _, _, _, _, rfl, rfl⟩
    | exact .inr ⟨_, _, _, _, _, _, _, _, _, _, _, _, _, _, _, _, _, _, rfl, rfl⟩
theorem s_asgLc (hd : Hd G) (np : NpOk G) (hC : C = csOf G.T n) (c : CtxS G n X s W) (hcm : s.hot = false) {i : Nat} {nm : Str} {px : Pos} (h : chkE G.M a s x = true) (hn : ¬ notComp x = true) (hp : putB s i nm = true) : PS X (.Assign [.Name nm px] x pos) (tS G W (exS C (.asg i a))) := by
  have ha := (okE hd np hC a s W X x c.c h).1
  obtain ⟨p1, p2, p3⟩ := c.c.put hp
  rcases comp_inv h hn with ⟨m, own, tg, it, cn, e0, el, t, it0, ifs, sc, lp, rfl, rfl⟩ | ⟨m, own, tg, it, cn, tg2, it2, cn2, e0, el, t, it0, ifs, t2, it20, ifs2, sc, lp, rfl, rfl⟩
  · by_cases hb : (X.env.blockKind == .function && X.env.kindOf nm == some .local && px.line == lp.line && !(sc.names.any fun (n, k) => n == nm && (k == .local || k == .cell))) = true
    · have hsw : swapsWith (.ListComp el [⟨t, it0, ifs, 0⟩] sc lp) (some (.Name nm px)) pos.line X.env = pure true := by
        unfold swapsWith
        simp only [Expr.pos]
        rw [hb]
      simp only [Bool.and_eq_true] at hb
      have hl : X.env.scope.names.lookup nm = some .local := by
        have := hb.1.1.2
        simp only [beq_iff_eq] at this
        exact this
      have h' := h
      simp only [chkE, Bool.and_eq_true] at h'
      obtain ⟨h1, h2, h3, h4, h5, h6⟩ := h'
      have hs : ∀ i ∈ idxs tg, i ∈ own := by
        intro i hi
        cases tg with
        | nm j =>
          simp only [idxs, List.mem_singleton] at hi
          subst hi
          exact List.contains_iff_mem.mp h3
        | tp js => exact List.contains_iff_mem.mp (List.all_eq_true.mp h3 i hi)
      have q0 := ps_setLc (c.c.calm hcm) c.c.nN p1 hl hsw ((okW hd np hC it s W X t it0 c.c h4).1 hcm) (blkOk_by (by rw [c.c.N, c.c.sc]; exact h1)) (fun st H Ca cl fp => r_tg (blk_ctx c.c hcm st H Ca cl fp) h2) (fun st H Ca cl fp => okC hd np hC cn _ _ _ _ (blk_ctx c.c hcm st H Ca cl fp) h5) (fun st H Ca cl fp => (okE hd np hC e0 _ _ _ _ (blk_ctx c.c hcm st H Ca cl fp) h6).1) (folded_of (chkW_set _ _ _ _ h4))
      rw [own_map] at q0
      refine ps_imp q0 fun D σ H ⟨m, ρ, S, re, rs, q⟩ => ?_
      simp only [exS] at q
      exact lc_read hs σ H _ (tS.go re re rs q fun d S1 m1 H1 v1 _ x1 re1 _ rs1 r1 q1 => g_name re1 rs1 r1 q1)
    · refine s_asg c ha hp ?_
      unfold swapsWith
      simp only [Expr.pos]
      rw [Bool.not_eq_true] at hb
      rw [hb]
  · by_cases hb : (X.env.blockKind == .function && X.env.kindOf nm == some .local && px.line == lp.line && !(sc.names.any fun (n, k) => n == nm && (k == .local || k == .cell))) = true
    · have hsw : swapsWith (.ListComp el [⟨t, it0, ifs, 0⟩, ⟨t2, it20, ifs2, 0⟩] sc lp) (some (.Name nm px)) pos.line X.env = pure true := by
        unfold swapsWith
        simp only [Expr.pos]
        rw [hb]
      simp only [Bool.and_eq_true] at hb
      have hl : X.env.scope.names.lookup nm = some .local := by
        have := hb.1.1.2
        simp only [beq_iff_eq] at this
        exact this
      have h' := h
      simp only [chkE, Bool.and_eq_true] at h'
      obtain ⟨h1, h2, h3, h4, h5, h6, h7, h8, h9, h10, _⟩ := h'
      have hs : ∀ i ∈ idxs tg, i ∈ own := fun i hi => List.contains_iff_mem.mp (List.all_eq_true.mp h3 i (by rw [idxs_eq]; exact hi))
      have hs2 : ∀ i ∈ idxs tg2, i ∈ own := fun i hi => List.contains_iff_mem.mp (List.all_eq_true.mp h7 i (by rw [idxs_eq]; exact hi))
      have q0 := ps_setLc2 (vs1 := idxs tg2) (c.c.calm hcm) c.c.nN p1 hl hsw ((okW hd np hC it s W X t it0 c.c h4).1 hcm) (blkOk_by (by rw [c.c.N, c.c.sc]; exact h1)) (by rw [own_map]; exact hs2) (fun st H Ca cl fp => r_tg (blk_ctx c.c hcm st H Ca cl fp) h2) (fun st H Ca cl fp => okC hd np hC cn _ _ _ _ (blk_ctx c.c hcm st H Ca cl fp) h5) (fun st H Ca cl fp => (okW hd np hC it2 _ _ _ _ _ (blk_ctx c.c hcm st H Ca cl fp) h8).1 hcm) (fun st H Ca cl fp => r_tg (blk_ctx c.c hcm st H Ca cl fp) h6) (fun st H Ca cl fp => okC hd np hC cn2 _ _ _ _ (blk_ctx c.c hcm st H Ca cl fp) h9) (fun st H Ca cl fp => (okE hd np hC e0 _ _ _ _ (blk_ctx c.c hcm st H Ca cl fp) h10).1) (folded_of (chkW_set _ _ _ _ h4)) (fun _ => folded_of (chkW_set _ _ _ _ h8))
      rw [own_map] at q0
      refine ps_imp q0 fun D σ H ⟨m, ρ, S, re, rs, q⟩ => ?_
      simp only [exS] at q
      exact lc2_read hs σ H _ (tS.go re re rs q fun d S1 m1 H1 v1 _ x1 re1 _ rs1 r1 q1 => g_name re1 rs1 r1 q1)
    · refine s_asg c ha hp ?_
      unfold swapsWith
      simp only [Expr.pos]
      rw [Bool.not_eq_true] at hb
      rw [hb]
/-! #### a, b = x, y -/
theorem swap_two {nx ny : Str} {px py pt : Pos} {kt k2 : Nat} {p2 : Pos} {v w : Expr} (hk : X.env.scope.kind = .function) (hsc : X.env.scope = s.sc) (h : swpB s nx ny px py [v, w] = true) : swappedStores [.Tuple [.Name nx px, .Name ny py] kt pt] (.Tuple [v, w] k2 p2) X.env = pure (some [nx, ny]) := by
  unfold swpB at h
  simp only [Bool.and_eq_true, Bool.not_eq_true'] at h
  obtain ⟨⟨⟨⟨⟨⟨h1, h2⟩, h3⟩, h4⟩, h5⟩, h6⟩, h7⟩ := h
  have hx : X.env.scope.names.lookup nx = some .local := by
    rw [hsc]
    split at h1
    · assumption
    · cases h1
  have hy : X.env.scope.names.lookup ny = some .local := by
    rw [hsc]
    split at h2
    · assumption
    · cases h2
  have kx : X.env.kindOf nx = some .local := hx
  have ky : X.env.kindOf ny = some .local := hy
  have hb : X.env.blockKind = .function := by unfold Env.blockKind; rw [hk]; rfl
  have e3 : (py.line == px.line) = true := by
    rw [beq_iff_eq] at h3 ⊢
    exact h3.symm
  have e4 : (ny == nx) = false := by
    rw [beq_eq_false_iff_ne] at h4 ⊢
    exact fun z => h4 z.symm
  unfold swappedStores
  simp only [hb, kx, ky, h5, h6, h7, Expr.pos, List.head?_cons, Option.map_some, Option.getD_some, List.filterMap_cons, List.filterMap_nil, e3, beq_self_eq_true, Bool.and_self, Bool.true_and, if_true, List.length_cons, List.length_nil, List.eraseDups_cons, List.filter_cons, e4, h4, List.filter_nil, List.eraseDups_nil]
  rw [if_neg (by decide), if_neg (fun z => by have z2 := h7.symm.trans z; cases z2)]
  have e5 : ([ny] : List Str).eraseDups = [ny] := by simp [List.eraseDups_cons]
  rw [if_neg (by
    rw [if_pos (by rfl), e5]
    simp), if_neg (by decide), if_neg (by decide)]
theorem s_swp (c : CtxS G n X s W) (hcm : s.hot = false) {i j : Nat} {nx ny : Str} {px py pt : Pos} {kt k2 : Nat} {p2 : Pos} {v w : Expr} (h : swpB s nx ny px py [v, w] = true) (hi : putB s i nx = true) (hj : putB s j ny = true) (hij : i ≠ j) (ha : PE X v (tE G W (evE C a))) (hv : noStar v = true) (hb : PE X w (tE G W (evE C b))) (hw : noStar w = true) :
    PS X (.Assign [.Tuple [.Name nx px, .Name ny py] kt pt] (.Tuple [v, w] k2 p2) pos) (tS G W (exS C (.swp i j a b))) := by
  obtain ⟨i1, i2, i3⟩ := c.c.put hi
  obtain ⟨j1, j2, j3⟩ := c.c.put hj
  have hk : X.env.scope.kind = .function := by rw [c.c.sc]; exact c.kd
  have loc : ∀ {z : Str}, (match s.sc.names.lookup z with
      | some .local => true
      | _ => false) = true → X.env.scope.names.lookup z = some .local := fun {z} hz => by
    rw [c.c.sc]
    split at hz
    · assumption
    · cases hz
  have h' := h
  unfold swpB at h'
  simp only [Bool.and_eq_true] at h'
  refine ps_imp (ps_par (c.c.calm hcm) c.c.nN i1 j1 hij (loc h'.1.1.1.1.1.1) (loc h'.1.1.1.1.1.2) (pa_cons ha (pa_cons hb pa_nil (star_of hw)) (star_of hv)) (swap_two hk c.c.sc h) (sw_sole (by intro _ _ h; cases h))) fun D σ H ⟨m, ρ, S, re, rs, q⟩ => ?_
  simp only [exS] at q
  refine tS.go re re rs q fun d S1 m1 H1 v1 _ x1 re1 _ rs1 r1 q1 => ?_
  refine tS.go re1 re1 rs1 q1 fun d2 S2 m2 H2 v2 _ x2 re2 _ rs2 r2 q2 => ?_
  exact ⟨v1, v2, rfl, q2 m2 H2 _ Ext.refl ((re2.set (Rep.mono x2 _ _ r1)).set r2) rs2⟩
theorem no_swap {ts vs : List Expr} {kt k2 : Nat} {pt p2 : Pos} {env : Env} (h : vs.all (foldedForSure 8) = true ∨ (ts.length == 2 || ts.length == 3) = false) : swappedStores [.Tuple ts kt pt] (.Tuple vs k2 p2) env = pure none := by
  unfold swappedStores
  simp only []
  rcases h with h | h
  · simp only [h, if_true]
    repeat' split
    all_goals rfl
  · simp only [h, Bool.not_false, Bool.true_or, if_true]
theorem put_zip (hd : Hd G) {f : Nat} {m : List Addr} {H : Hp} {d : Ev.D} {y : V} (r : Rep G m H d y) : ∀ {fs : List (Nat × Ev.D)} {vs : List V}, RepL G m H (fs.map (·.2)) vs → ∃ us, putF (G.att f) y ((fs.map fun g => G.att g.1).zip vs) = ((putN f d fs).map fun g => G.att g.1).zip us ∧ RepL G m H ((putN f d fs).map (·.2)) us
  | [], vs, q => by
    simp only [List.map_nil, RepL] at q
    subst q
    exact ⟨[y], rfl, RepL.cons r RepL.nil⟩
  | (g, e) :: fs, vs, q => by
    simp only [List.map_cons, RepL] at q
    obtain ⟨v, us, rfl, q1, q2⟩ := q
    simp only [List.map_cons, List.zip_cons_cons, putF, putN]
    by_cases hg : g = f
    · subst hg
      rw [if_pos rfl, if_pos rfl]
      exact ⟨y :: us, rfl, RepL.cons r q2⟩
    · rw [if_neg hg, if_neg (fun z => hg (att_inj hd z))]
      obtain ⟨ws, e1, e2⟩ := put_zip hd r q2
      exact ⟨v :: ws, by rw [e1]; rfl, RepL.cons q1 e2⟩
theorem s_asgA (hd : Hd G) (c : CtxS G n X s W) (hT : C.T = G.T) {o : Ex} {f : Nat} {nm : Str} {p2 : Pos} (hn : G.M.atts[f]? = some nm) (ho : PE X y (tE G W (evE C o))) (ha : PE X x (tE G W (evE C a))) : PS X (.Assign [.Attribute y nm p2] x pos) (tS G W (exS C (.asgA o f a))) := by
  rw [← att_of hn]
  refine ps_imp (ps_fld ho ha (sw_other (by intro _ _ h; cases h))) fun D σ H ⟨m, ρ, S, re, rs, q⟩ => ?_
  simp only [exS] at q
  refine tS.go re re rs q fun d S1 m1 H1 v1 _ x1 re1 _ rs1 r1 q1 => ?_
  refine tS.go re1 re1 rs1 q1 fun d2 S2 m2 H2 v2 _ x2 re2 _ rs2 r2 q2 => ?_
  split at q2
  · rename_i i
    split at q2
    · rename_i k fs es
      split at q2
      · rename_i hk
        rw [hT] at hk
        obtain ⟨A, rfl, hA⟩ := r2.ref_inv
        obtain ⟨A', hA', dx, vs, hv, r⟩ := rs2.cel _ _ es
        rw [hA] at hA'; cases hA'
        obtain ⟨us, e1, e2⟩ := put_zip (f := f) hd (Rep.mono x2 _ _ r1) r
        have hl : fs.length = vs.length := by rw [← r.length, List.length_map]
        refine ⟨A, _, dx, _, rfl, hv, by rw [c.c.K]; exact (hd.cls k (cls_lt hk.2)).cls, by rw [c.c.K]; exact hd.na k f hk.2, by rw [List.length_zip, List.length_map, ← hl, Nat.min_self]; exact hk.1, ?_⟩
        rw [e1]
        have xw : Ext m2 H2 m2 (upd H2 A (.ins (G.ca k) dx (((putN f d fs).map fun g => G.att g.1).zip us))) := Ext.write (List.mem_of_getElem? hA) (NF.of hv fun _ _ z => nomatch z)
        exact q2 m2 _ σ xw (re2.mono xw) (rs2.write (c := .ins k (putN f d fs)) (NF.of hv fun _ _ z => nomatch z) hA ⟨dx, us, upd_same, RepL.mono xw _ _ e2⟩)
      · exact q2.elim
    · exact q2.elim
  · exact q2.elim
end
/-! #### exceptions -/
/-- what isinstance asks of an own exception -/
structure ExK (K : PySem.W.Frag) (C : Addr) : Prop where
  cl : (PySem.W.clsIn K C).isSome = true
  ca : PySem.W.findIn K (.ref C) "__class__" = some (some (.builtin "object.__class__"))
  gt : PySem.W.specialIn K (.builtin "object.__class__") "__get__" = some (some (.builtin "getset_descriptor.__get__"))
  tk : PySem.W.takesIn K (.builtin "object.__class__") = some true
  mr : PySem.W.mroIn K C (.type "object") = some true
/-- what of the exceptions' classes is known -/
structure Xd (G : Pg) : Prop where
  mg : ∀ (c : Nat) (x : Str), G.M.exc[c]? = some x → G.mg x = some (.ref (G.xa c)) ∧ c < G.T.exc.length
  exm : ∀ c k, c < G.T.exc.length → k < G.T.exc.length → PySem.W.exmOne G.K (.ref (G.xa c)) (.ref (G.xa k)) = some ((ancOf G.T c).contains k)
  kx : ∀ c, c < G.T.exc.length → ExK G.K (G.xa c)
  kit : ∀ c k, c < G.T.exc.length → k < G.T.exc.length → PySem.W.kitOne G.K (.ref (G.xa c)) (.ref (G.xa k)) = some ((ancOf G.T c).contains k)
  xf : ∀ c, c < G.T.exc.length → XfC G.K (G.xa c) ∧ ∀ f ∈ excF G.T c, PySem.W.findIn G.K (.ref (G.xa c)) (G.att f) = some none
/-- what an exception of one field is made of -/
def XR (G : Pg) (c : Nat) (vs : List V) (H1 : Hp) (Q : XK) : Prop := ∃ i y, excF G.T c = [i] ∧ vs = [y] ∧ ∀ dx, H1 dx = none → Q (.ref (G.xa c)) (some dx) (upd H1 dx (.xd [(G.att i, y)]))
/-- X(..) makes an exception whose field is the value -/
def XMk (G : Pg) : Prop := ∀ (n : Nat) (X : Cx) (s : Sx) (W : WX) (c : Nat) (nm : Str) (es : List Expr) (p pos : Pos) (t : TA), Ctx G n X s W → G.M.exc[c]? = some nm → gloB s nm = true → es.all noStar = true → PA X es t → (es = [] → ∀ σ H Q, t σ H Q → Q [] H) →
  L2N.PMk X (.Call (.Name nm p) es [] pos) (fun σ H Q => t σ H fun vs H1 => XR G c vs H1 Q)
section
variable {G : Pg} {n : Nat} {X : Cx} {s : Sx} {W : WX} {C : Cs} {e x y z : Expr} {p pos apos : Pos} {a b : Ex} {es : List Expr} {l l2 : Exs}
theorem s_rai (xm : XMk G) (xd : Xd G) (c : CtxS G n X s W) (hcm : s.hot = false) (hT : C.T = G.T) {k : Nat} {nm : Str} (hn : G.M.exc[k]? = some nm) (hg : gloB s nm = true) (hl : chkL G.M l s es = true) (ha : PA X es (tL G W (evL C l))) : PS X (.Raise (some (.Call (.Name nm p) es [] apos)) none pos) (tS G W (exS C (.rai k l))) := by
  have hlt := (xd.mg k nm hn).2
  have q0 := L2N.ps_raise (pos := pos) (c.c.calm hcm) c.c.tk (xm n X s W k nm es p apos _ c.c hn hg (chkL_star _ _ _ hl) ha fun e σ H Q q => nil_of hl e q)
  refine ps_imp q0 fun D σ H ⟨m, ρ, S, re, rs, q⟩ => ?_
  simp only [exS] at q
  refine tS.go re re rs q fun ds S1 m1 H1 vs _ x1 re1 _ rs1 r1 q1 => ?_
  split at q1
  · rename_i hz
    rw [hT] at hz
    obtain ⟨d, rfl⟩ := List.length_eq_one_iff.mp hz.2
    obtain ⟨v, rfl, rv⟩ := one_inv r1
    obtain ⟨i, hi⟩ := List.length_eq_one_iff.mp (show (excF G.T k).length = 1 from hz.1.symm)
    refine ⟨i, v, hi, rfl, fun dx hdx => ?_⟩
    have xx : Ext m1 H1 m1 (upd H1 dx (.xd [(G.att i, v)])) := Ext.new hdx
    exact q1 m1 _ dx σ xx (re1.mono xx) (rs1.new hdx) ⟨[v], by rw [hi]; exact upd_same, RepL.mono xx _ _ r1, hz.1, hlt⟩
  · exact q1.elim
/-- the reading of an except suite's expression -/
def tH (G : Pg) (A : Addr) (cls : Value) (dd : Option Addr) (i : Option Nat) {α β : Type} (R : List Addr → Hp → α → β → Prop) (ev : Nat → List Ev.D → Fr → Store → Rs α) (σ : L2.St) (H : Hp) (Q : β → Hp → Prop) : Prop :=
  ∃ m ρ S k l dx, RE G m H ρ σ ∧ RS G m H S ∧ cls = .ref (G.xa k) ∧ dd = some dx ∧ XRep G m H k l dx ∧ (∀ j, i = some j → j < σ.length → σ[j]? = some (some (.ref A))) ∧ Fin G noW σ R m H (ev k l ρ S) fun _ _ _ H' v => Q v H'
theorem xrep_mono {m m' : List Addr} {H H' : Hp} {S0 : Store} {k : Nat} {l : List Ev.D} {dx : Addr} (rs : RS G m H S0) (x : Ext m H m' H') (h : XRep G m H k l dx) : XRep G m' H' k l dx := by
  obtain ⟨vs, h1, r, hl⟩ := h
  have hm : dx ∉ m := fun hm => by
    obtain ⟨n, hn, e⟩ := List.getElem_of_mem hm
    have hS : n < S0.length := by rw [← rs.len]; exact hn
    obtain ⟨p', hp', q⟩ := rs.cel n S0[n] (List.getElem?_eq_getElem hS)
    rw [List.getElem?_eq_getElem hn, e] at hp'
    cases hp'
    cases hc : S0[n] with
    | lst l =>
      rw [hc] at q
      obtain ⟨_, q, _⟩ := q
      rw [h1] at q; cases q
    | ins c fs =>
      rw [hc] at q
      obtain ⟨_, _, q, _⟩ := q
      rw [h1] at q; cases q
    | dct lk kvs =>
      rw [hc] at q
      obtain ⟨_, q, _⟩ := q
      cases lk with
      | true =>
        obtain ⟨o, q⟩ := q
        rw [h1] at q; cases q
      | false =>
        have q' : H dx = _ := q
        rw [h1] at q'; cases q'
  exact ⟨vs, (x.keep _ _ h1 hm).1, RepL.mono x _ _ r, hl⟩
theorem tH.go {A : Addr} {cls : Value} {dd : Option Addr} {i : Option Nat} {α β γ δ : Type} {R : List Addr → Hp → α → β → Prop} {R' : List Addr → Hp → γ → δ → Prop} {ev : Nat → List Ev.D → Fr → Store → Rs α} {kk : α → Store → Rs γ} {t : Tag kk} {Q : δ → Hp → Prop} {Q' : β → Hp → Prop} {σ : L2.St} {m : List Addr} {H : Hp} {ρ : Fr} {S : Store} {k : Nat} {l : List Ev.D} {dx : Addr}
    (re : RE G m H ρ σ) (rs : RS G m H S) (hc : cls = .ref (G.xa k)) (hdd : dd = some dx) (xr : XRep G m H k l dx) (hi : ∀ j, i = some j → j < σ.length → σ[j]? = some (some (.ref A)))
    (h : Fin G noW σ R' m H ((ev k l ρ S).th kk t) fun _ _ _ H' v => Q v H')
    (q : ∀ a S' m' H' v, Ext m H m' H' → RE G m' H' ρ σ → RS G m' H' S' → R m' H' a v → XRep G m' H' k l dx → (Fin G noW σ R' m' H' (kk a S') fun _ _ _ H' v => Q v H') → Q' v H') : tH G A cls dd i R ev σ H Q' :=
  ⟨m, ρ, S, k, l, dx, re, rs, hc, hdd, xr, hi, (Fin.th (R := R) h).imp fun a S' m' H' v x rs' r f => q a S' m' H' v x (re.mono x) rs' r (xrep_mono rs x xr) f⟩
theorem tH.take {A : Addr} {cls : Value} {dd : Option Addr} {i : Option Nat} {α β : Type} {R : List Addr → Hp → α → β → Prop} {ev : Nat → List Ev.D → Fr → Store → Rs α} {ev' : Fr → Store → Rs α} (he : ∀ k l ρ S, ev k l ρ S = ev' ρ S) : ∀ σ H Q, tH G A cls dd i R ev σ H Q → tX G noW R ev' σ H Q := fun σ H Q ⟨m, ρ, S, k, l, dx, re, rs, hc, hdd, xr, hi, q⟩ => ⟨m, ρ, S, re, rs, by rw [he] at q; exact q⟩
theorem chkHx_star {M : Nm} {i : Option Nat} (h : Hx) (v : Expr) (q : chkHx M s i h v = true) : noStar v = true := by
  cases h with
  | pl a =>
    simp only [chkHx] at q
    exact (chk_form _ _ _ q).1
  | _ =>
    simp only [chkHx] at q
    split at q <;> first | rfl | cases q
def lenH : Hxs → Nat
  | .nil => 0
  | .cons _ l => lenH l + 1
theorem evHl_len {k : Nat} {L : List Ev.D} : ∀ (l : Hxs) {ρ : Fr} {S S' : Store} {ds : List Ev.D}, evHl C k L l ρ S = .ok ds S' → ds.length = lenH l
  | .nil, ρ, S, S', ds, h => by
    simp only [evHl] at h
    cases h; rfl
  | .cons e l, ρ, S, S', ds, h => by
    simp only [evHl] at h
    obtain ⟨d, S1, h1, h2⟩ := fin_th h
    obtain ⟨ds2, S2, h3, h4⟩ := fin_th h2
    cases h4
    simp only [List.length_cons, evHl_len l h3, lenH]
theorem chkHl_len {M : Nm} {i : Option Nat} : ∀ (l : Hxs) (es : List Expr), chkHl M s i l es = true → lenH l = es.length
  | .nil, es, h => by
    simp only [chkHl, List.isEmpty_iff] at h
    rw [h]; rfl
  | .cons e l, es, h => by
    simp only [chkHl] at h
    split at h
    · simp only [Bool.and_eq_true] at h
      simp only [lenH, List.length_cons, chkHl_len l _ h.2]
    · cases h
theorem chkHl_star {M : Nm} {i : Option Nat} : ∀ (l : Hxs) (es : List Expr), chkHl M s i l es = true → es.all noStar = true
  | .nil, es, h => by
    simp only [chkHl, List.isEmpty_iff] at h
    rw [h]; rfl
  | .cons e l, es, h => by
    simp only [chkHl] at h
    split at h
    · simp only [Bool.and_eq_true] at h
      simp only [List.all_cons, Bool.and_eq_true]
      exact ⟨chkHx_star e _ h.1, chkHl_star l _ h.2⟩
    · cases h
/-- isinstance of the exception that is handled -/
def rIsX (K : PySem.W.Frag) (cls : Value) (A : Addr) (dd : Option Addr) : List V → Hp → VK → Prop := fun xs H Q => ∃ (dx : Addr) (fs : List (Str × V)) (c : V) (cv : Value) (b : Bool), dd = some dx ∧ H dx = some (.xd fs) ∧ xs = [.ref A, c] ∧ ((ClsV c cv ∧ PySem.W.kitOne K cls cv = some b) ∨ ∃ tp cs us, c = .ref tp ∧ H tp = some (.tup cs) ∧ Paired ClsV cs us ∧ PySem.W.kitAny K cls us = some b) ∧ Q (.bl b) H
theorem call_isX {A D : Addr} {oe : Obj} {dd : Option Addr} {pn : List (Addr × Obj)} (T : XfC X.K D) (k : ExK X.K D) (hz : Zc (.ref D) dd oe) (hf : ∃ vs, oe.data = .fields vs) : CallR (X.suite A ((A, oe) :: pn)) (.builtin "isinstance") (rIsX X.K (.ref D) A dd) := by
  rintro pins st σ H xs us Q I r ⟨dx, fs, c, cv, b, rfl, hx, rfl, e, q⟩
  cases r with
  | cons rx rr =>
    cases rr with
    | cons rt rr =>
      cases rr
      cases rx
      obtain ⟨ha, _⟩ := I.pin (A, oe) (List.mem_append_left _ List.mem_cons_self)
      obtain ⟨vs, hd⟩ := hf
      obtain ⟨mA, hns, _⟩ := (show ObjOk X.prog X.w H st.heap dx (.xd fs) from I.hok dx _ hx)
      obtain ⟨od, ho, _⟩ := lookIn_ns hns
      have J : PySem.W.InstAt st.heap A oe D (some od) := ⟨ha, hz.1, by unfold PySem.W.notCls; rw [hd] <;> rfl, by rw [hz.2]; exact ho⟩
      have Z := PySem.W.kitx_exc (x := A) (od := some od) (ox := oe) k.cl T.ga T.gg T.exC k.ca k.gt k.tk k.mr
      rcases e with ⟨cc, e⟩ | ⟨tp, cs, ws, rfl, hT, cc, e⟩
      · have ec := cc.eq rt
        subst ec
        exact PySem.W.kia_one Z I.kIn J e (fun z => nomatch z) fun tk => ⟨.bl b, H, I.tok tk, rfl, q⟩
      · cases rt
        obtain ⟨_, its, rv, o, h1, h2, n, h3⟩ := (show ObjOk X.prog X.w H st.heap tp (.tup cs) from I.hok tp _ hT)
        have e3 := ClsV.all cc rv
        subst e3
        obtain ⟨oc, od2, dt, sl⟩ := o
        simp only at h2 h3
        subst h2 h3
        exact PySem.W.kia_tup Z I.kIn J h1 e (fun z => nomatch z) fun tk => ⟨.bl b, H, I.tok tk, rfl, q⟩
theorem kitAny_x (xd : Xd G) {k : Nat} (hk : k < G.T.exc.length) : ∀ {ks : List Nat}, (∀ j ∈ ks, j < G.T.exc.length) → PySem.W.kitAny G.K (.ref (G.xa k)) (ks.map fun j => .ref (G.xa j)) = some (ks.any fun j => (ancOf G.T k).contains j)
  | [], _ => rfl
  | j :: ks, h => by
    have q := xd.kit k j hk (h j List.mem_cons_self)
    have r := kitAny_x xd hk fun i hi => h i (List.mem_cons_of_mem _ hi)
    rw [List.map_cons]
    refine kitAny_cons q (fun z => ?_) fun z => ?_
    · rw [r, List.any_cons, z, Bool.false_or]
    · rw [List.any_cons, z, Bool.true_or]
theorem pa_xs (xd : Xd G) (c : Ctx G n X s W) : ∀ {ks : List Nat} {es : List Expr}, xnB G.M s ks es = true → PA X es (tTys (ks.map fun j => .ref (G.xa j))) ∧ es.length = ks.length ∧ ∀ j ∈ ks, j < G.T.exc.length
  | [], [], _ => ⟨pa_imp pa_nil fun _ _ _ q => q, rfl, fun _ h => by cases h⟩
  | k :: ks, e :: es, h => by
    simp only [xnB, Bool.and_eq_true] at h
    obtain ⟨h1, h2⟩ := h
    obtain ⟨h3, h4, h5⟩ := pa_xs xd c h2
    split at h1
    · simp only [Bool.and_eq_true, decide_eq_true_eq] at h1
      obtain ⟨g1, g2, g3, g4, g5⟩ := c.glo h1.1
      obtain ⟨m1, m2⟩ := xd.mg _ _ h1.2
      refine ⟨pa_imp (pa_cons (pe_glob g1 (by rw [c.mg]; exact m1) (v := .ref (G.xa k)) rfl g2) h3) fun _ _ _ q => q, congrArg Nat.succ h4, fun j hj => ?_⟩
      rcases List.mem_cons.mp hj with hj | hj
      · rw [hj]; exact m2
      · exact h5 j hj
    · cases h1
  | [], _ :: _, h => by simp [xnB] at h
  | _ :: _, [], h => by simp [xnB] at h
theorem paired_xs : ∀ (ks : List Nat), Paired ClsV (ks.map fun j => V.ref (G.xa j)) (ks.map fun j => Value.ref (G.xa j))
  | [] => .nil
  | k :: ks => .cons (.own _) (paired_xs ks)
/-- the suite's context -/
theorem suite_ctx (c : CtxS G n X s W) {A : Addr} {oe : Obj} {pn : List (Addr × Obj)} (hz : ∃ vs, oe.data = .fields vs) (hn : PXN.CtxN oe) : Ctx G n (X.suite A ((A, oe) :: pn)) { s with hot := true } noW where
  prog := c.c.prog
  w := c.c.w
  K := c.c.K
  mg := c.c.mg
  base := c.c.base
  N := c.c.N
  nd := c.c.nd
  sc := c.c.sc
  fn := c.c.fn
  tk := takesN
  cm := fun h => by cases h
  ht := fun _ => by
    obtain ⟨vs, h⟩ := hz
    exact ⟨(A, oe), ⟨rfl, vs, h, hn vs h⟩, List.mem_cons_self⟩
  lvh := c.c.lvh
  rm := ⟨c.c.rm.dp, c.c.rm.un⟩
section
variable {A : Addr} {oe : Obj} {cls : Value} {dd : Option Addr} {pn : List (Addr × Obj)} (hd : Hd G) (np : NpOk G) (xd : Xd G) (hC : C = csOf G.T n) (c : Ctx G n (X.suite A ((A, oe) :: pn)) s noW) (hz : Zc cls dd oe) (hf : ∃ vs, oe.data = .fields vs)
include hd np xd hC c hz hf
theorem isx_ok {i : Option Nat} {ks : List Nat} {pt : Bool} (h : chkHx G.M s i (.isx ks pt) x = true) : PE (X.suite A ((A, oe) :: pn)) x (tH G A cls dd i (Rep G) fun k l => evHx C k l (.isx ks pt)) := by
  have cK : X.K = G.K := c.K
  simp only [chkHx] at h
  split at h
  · rename_i g pg nm px t pc j
    simp only [Bool.and_eq_true, decide_eq_true_eq] at h
    obtain ⟨h1, h2, h3, h4⟩ := h
    subst h2
    obtain ⟨g1, g2, g3, g4, g5⟩ := c.glo h1
    obtain ⟨v1, v2, v3, v4⟩ := c.see h3
    have pv := pe_var (X := X.suite A ((A, oe) :: pn)) (pos := px) v1 v2 v3 v4
    refine ⟨fun pins st σ H Q I ⟨m, ρ, S, k, l, dx, re, rs, hc, hdd, xr, hi, q⟩ => ?_⟩
    subst hc
    have hk : k < G.T.exc.length := by
      obtain ⟨_, _, _, _, hk⟩ := xr
      exact hk
    obtain ⟨fs, hfs⟩ : ∃ fs, H dx = some (.xd fs) := by
      obtain ⟨vs, h1, _⟩ := xr
      exact ⟨_, h1⟩
    have CI := call_isX (X := X) (A := A) (D := G.xa k) (dd := dd) (pn := pn) (by rw [cK]; exact (xd.xf k hk).1) (by rw [cK]; exact xd.kx k hk) hz hf
    have hA : σ[j]? = some (some (.ref A)) := by
      refine hi j rfl ?_
      rw [I.len]
      exact (List.getElem?_eq_some_iff.mp v1).1
    simp only [evHx] at q
    subst hC
    rw [csOf_T] at q
    split at h4
    · -- one class
      split at h4
      · rename_i kk nm2 p2 _
        simp only [Bool.and_eq_true, decide_eq_true_eq] at h4
        obtain ⟨n1, n2, n3, n4, n5⟩ := c.glo h4.1
        obtain ⟨m1, m2⟩ := xd.mg _ _ h4.2
        have pt := pe_callB CI g1 (c.blt hd (by decide)) (by rfl) (pa_cons pv (pa_cons (pe_glob (pos := p2) n1 (by rw [c.mg]; exact m1) (v := .ref (G.xa kk)) rfl n2) pa_nil)) g3 g2 (p := pg) (pos := pc)
        refine pt.run pins st σ H Q I ⟨_, hA, dx, fs, _, .ref (G.xa kk), _, hdd, hfs, rfl, .inl ⟨.own _, by rw [cK]; exact xd.kit k kk hk m2⟩, ?_⟩
        have := q m H _ Ext.refl rs rep_bl
        simpa using this
      · cases h4
    · -- a tuple of classes
      split at h4
      · rename_i l2 k2 p2
        simp only [Bool.and_eq_true, decide_eq_true_eq] at h4
        obtain ⟨h5, h6, h7⟩ := h4
        obtain ⟨t1, t2, t3⟩ := pa_xs xd c h7
        have pt := pe_callB CI g1 (c.blt hd (by decide)) (by rfl) (pa_cons pv (pa_cons (pe_tup (pos := p2) (x1 := k2) t1) pa_nil)) g3 g2 (p := pg) (pos := pc)
        refine pt.run pins st σ H Q I ⟨_, hA, ?_⟩
        refine ⟨by rw [List.length_map, ← lim]; exact h6, fun tp htp => ?_⟩
        have xx : Ext m H m (upd H tp (.tup (ks.map fun j => V.ref (G.xa j)))) := Ext.new htp
        have ne : dx ≠ tp := fun z => by rw [z, htp] at hfs; cases hfs
        refine ⟨dx, fs, _, .none, _, hdd, (upd_ne ne).trans hfs, rfl, .inr ⟨tp, _, _, rfl, upd_same, paired_xs ks, by rw [cK]; exact kitAny_x xd hk t3⟩, ?_⟩
        exact q m _ _ xx (rs.new htp) rep_bl
      · cases h4
  · cases h
mutual
theorem okHx (i : Option Nat) : ∀ (h : Hx) (v : Expr), chkHx G.M s i h v = true → PE (X.suite A ((A, oe) :: pn)) v (tH G A cls dd i (Rep G) fun k l => evHx C k l h)
  | .pl a, v, h => by
    simp only [chkHx] at h
    exact pe_imp (okE hd np hC a s noW _ _ c h).1 (tH.take fun k l ρ S => by simp only [evHx])
  | .isx ks p, v, h => isx_ok hd np xd hC c hz hf h
  | .fld f, v, h => by
    have cK : X.K = G.K := c.K
    simp only [chkHx] at h
    split at h
    · rename_i nm p1 fn p2 j0 j
      simp only [Bool.and_eq_true, decide_eq_true_eq] at h
      obtain ⟨h1, h2, h3, h4⟩ := c.see h.1
      refine ⟨fun pins st σ H Q I ⟨m, ρ, S, k, l, dx, re, rs, hc, hdd, xr, hi, q⟩ => ?_⟩
      simp only [evHx] at q
      obtain ⟨d, ed, q2⟩ := q.at_oe
      subst hC
      rw [csOf_T] at ed
      obtain ⟨vs, hx, r, hlen, hk⟩ := xr
      obtain ⟨xf, xn⟩ := xd.xf k hk
      have hfm : f ∈ excF G.T k := List.contains_iff_mem.mp (mem_look ed)
      have hno := xn f hfm
      rw [att_of h.2] at hno
      obtain ⟨w, hw, rw_⟩ := look_zip hd r ed
      rw [att_of h.2] at hw
      have hA : σ[j]? = some (some (.ref A)) := by
        refine hi j rfl ?_
        rw [I.len]
        exact (List.getElem?_eq_some_iff.mp h1).1
      exact (pe_xf (C := G.xa k) (by rw [cK]; exact xf) (by rw [cK]; exact hno) hz hf (pe_var (X := X.suite A ((A, oe) :: pn)) h1 h2 h3 h4) rfl).run pins st σ H Q I ⟨_, hA, rfl, hc, dx, _, w, hdd, hx, hw, q2.at_ok rs rw_⟩
    · cases h
  | .and a b, v, h => by
    have cK : X.K = G.K := c.K
    simp only [chkHx] at h
    split at h
    · rename_i x y r pos
      simp only [Bool.and_eq_true] at h
      have h1 := okHx i a _ h.1
      have h2 := okHx i b _ h.2
      have hb : PE (X.suite A ((A, oe) :: pn)) (.BoolOp .And (y :: r) pos) (tH G A cls dd i (Rep G) fun k l => evHx C k l b) := by
        cases r with
        | nil => exact pe_one h2
        | cons z r => exact h2
      refine pe_imp (pe_andT h1 hb) fun σ H Q ⟨m, ρ, S, k, l, dx, re, rs, hc, hdd, xr, hi, q⟩ => ?_
      simp only [evHx] at q
      refine tH.go (ev := fun k l => evHx C k l a) re rs hc hdd xr hi q fun d S1 m1 H1 v1 x1 re1 rs1 r1 xr1 q1 => ?_
      obtain ⟨kk, ek, q2⟩ := q1.at_o
      refine ⟨kk, by rw [cK]; exact tru_of rs1 r1 ek, ?_⟩
      cases kk with
      | true => exact ⟨m1, ρ, S1, k, l, dx, re1, rs1, hc, hdd, xr1, hi, q2⟩
      | false => exact q2.at_ok rs1 r1
    · cases h
  | .not a, v, h => by
    have cK : X.K = G.K := c.K
    simp only [chkHx] at h
    split at h
    · refine pe_imp (pe_notT (okHx i a _ h)) fun σ H Q ⟨m, ρ, S, k, l, dx, re, rs, hc, hdd, xr, hi, q⟩ => ?_
      simp only [evHx] at q
      refine tH.go (ev := fun k l => evHx C k l a) re rs hc hdd xr hi q fun d S1 m1 H1 v1 x1 re1 rs1 r1 xr1 q1 => ?_
      obtain ⟨kk, ek, q2⟩ := q1.at_o
      exact ⟨kk, by rw [cK]; exact tru_of rs1 r1 ek, q2.at_ok rs1 rep_bl⟩
    · cases h
  | .call f es, v, h => by
    simp only [chkHx] at h
    split at h
    · rename_i nm p1 y l0 p2
      simp only [Bool.and_eq_true, decide_eq_true_eq] at h
      obtain ⟨h1, h2, h3, h4⟩ := h
      obtain ⟨g1, g2, g3, g4, g5⟩ := c.glo h1
      obtain ⟨f1, f2⟩ := hd.fn f nm h2 g5
      have hfl := hd.fnl _ (List.getElem?_eq_some_iff.mp h2).1
      refine pe_imp (pe_anyc (r := fun vs zs σ H Q => ∃ m S ds, zs = [] ∧ RS G m H S ∧ RepL G m H ds vs ∧ Fin G noW σ (Rep G) m H (run G.T n f ds S) fun _ _ _ H' v => Q v H') g1 (by rw [c.mg]; exact f1) (by rw [c.K]; exact f2) g2 (chkHl_star _ _ h3) rfl (okHl i es _ h3) (fun e => by cases e) pk_nil ?_) fun σ H Q ⟨m, ρ, S, k, l, dx, re, rs, hc, hdd, xr, hi, q⟩ => ?_
      · rintro pins st σ H vs zs us ws Q I rv rz ⟨m, S, ds, rfl, rs, r, q⟩
        cases rz
        have hb : run G.T n f ds S ≠ .bad := fun e => by rw [e] at q; exact q.elim
        obtain ⟨F, eF, hlF⟩ := run_len hb
        have hz2 : us.length = (G.ps f).length := by rw [np f F eF, ← hlF, r.length, rv.length]
        have b := hd.pos f hfl st us (by rw [← c.K]; exact I.kIn) (by rw [app_nil]; exact hz2)
        rw [app_nil] at b
        exact run_any np c h4 hfl b I rv rs r q
      · simp only [evHx] at q
        subst hC
        refine tH.go (ev := fun k l => evHl (csOf G.T n) k l es) re rs hc hdd xr hi q fun ds S1 m1 H1 vs x1 re1 rs1 r1 xr1 q1 => ?_
        exact ⟨m1, S1, ds, rfl, rs1, r1, q1⟩
    · cases h
  | .tup es, v, h => by
    simp only [chkHx] at h
    split at h
    · rename_i vs k2 pp
      simp only [Bool.and_eq_true, decide_eq_true_eq] at h
      refine pe_imp (pe_tup (okHl i es _ h.2)) fun σ H Q ⟨m, ρ, S, k, l, dx, re, rs, hc, hdd, xr, hi, q⟩ => ?_
      simp only [evHx] at q
      refine ⟨m, ρ, S, k, l, dx, re, rs, hc, hdd, xr, hi, ?_⟩
      show Fin G noW σ (RepL G) m H (evHl C k l es ρ S) _
      cases e : evHl C k l es ρ S with
      | ok ds S' =>
        rw [e, th_ok] at q
        intro m' H' us x rs' r
        refine ⟨by rw [← r.length, evHl_len es e, chkHl_len es _ h.2, ← lim]; exact h.1, fun p hp => fin_tup rs' r hp ((Fin.ext x q).toV (by intro _ _ _ z; cases z))⟩
      | ex _ _ _ => rw [e] at q; exact q
      | bad => rw [e] at q; exact q
    · cases h
theorem okHl (i : Option Nat) : ∀ (h : Hxs) (vs : List Expr), chkHl G.M s i h vs = true → PA (X.suite A ((A, oe) :: pn)) vs (tH G A cls dd i (RepL G) fun k l => evHl C k l h)
  | .nil, vs, h => by
    simp only [chkHl, List.isEmpty_iff] at h
    subst h
    exact pa_imp pa_nil fun σ H Q ⟨m, ρ, S, k, l, dx, re, rs, hc, hdd, xr, hi, q⟩ => by
      simp only [evHl] at q
      exact q.at_ok rs RepL.nil
  | .cons a es, vs, h => by
    simp only [chkHl] at h
    split at h
    · rename_i x0 r0
      simp only [Bool.and_eq_true] at h
      refine pa_imp (pa_cons (okHx i a _ h.1) (okHl i es _ h.2) (star_of (chkHx_star a _ h.1))) fun σ H Q ⟨m, ρ, S, k, l, dx, re, rs, hc, hdd, xr, hi, q⟩ => ?_
      simp only [evHl] at q
      refine tH.go (ev := fun k l => evHx C k l a) re rs hc hdd xr hi q fun d S1 m1 H1 v1 x1 re1 rs1 r1 xr1 q1 => ?_
      refine tH.go (ev := fun k l => evHl C k l es) re1 rs1 hc hdd xr1 hi q1 fun d2 S2 m2 H2 v2 x2 re2 rs2 r2 xr2 q2 => ?_
      exact q2.at_ok rs2 (RepL.cons (Rep.mono x2 _ _ r1) r2)
    · cases h
end
theorem okHt (i : Option Nat) : ∀ (h : Hx) (v : Expr), tstH h = true → chkHx G.M s i h v = true → PT (X.suite A ((A, oe) :: pn)) v (tH G A cls dd i RB fun k l => evHt C k l h)
  | .pl a, v, _, h => by
    simp only [chkHx] at h
    exact pt_imp (okE hd np hC a s noW _ _ c h).2.pt (tH.take fun k l ρ S => by simp only [evHt])
  | .isx ks p, v, _, h => by
    have cK : X.K = G.K := c.K
    have q0 := isx_ok hd np xd hC c hz hf h
    have hw : ∀ whole : Sem Value, isTrue v (X.suite A ((A, oe) :: pn)).env whole = (do let v0 ← whole; standAt v.pos; holding [v0] (truthy v0)) := by
      simp only [chkHx] at h
      split at h
      · intro _; rfl
      · cases h
    refine pt_imp (pt_truth q0 hw) fun σ H Q ⟨m, ρ, S, k, l, dx, re, rs, hc, hdd, xr, hi, q⟩ => ?_
    refine ⟨m, ρ, S, k, l, dx, re, rs, hc, hdd, xr, hi, ?_⟩
    simp only [evHt] at q
    simp only [evHx]
    intro m' H' v1 x' rs' r1
    refine ⟨_, ?_, q m' H' _ x' rs' rfl⟩
    rw [cK]
    exact tru_of rs' r1 (by simp only [truD])
  | .not a, v, ht, h => by
    simp only [chkHx] at h
    split at h
    · refine pt_imp (pt_not (okHt i a _ ht h)) fun σ H Q ⟨m, ρ, S, k, l, dx, re, rs, hc, hdd, xr, hi, q⟩ => ?_
      simp only [evHt] at q
      refine tH.go (ev := fun k l => evHt C k l a) re rs hc hdd xr hi q fun kk S1 m1 H1 k1 x1 re1 rs1 r1 xr1 q1 => ?_
      have e : kk = k1 := r1
      subst e
      exact q1.at_ok rs1 rfl
    · cases h
  | .fld _, _, ht, _ => by cases ht
  | .and _ _, _, ht, _ => by cases ht
  | .call _ _, _, ht, _ => by cases ht
  | .tup _, _, ht, _ => by cases ht
theorem okHs (i : Option Nat) : ∀ (h : Hs) (vs : List Stmt), chkHs G.M s i h vs = true → PSs (X.suite A ((A, oe) :: pn)) vs (fun D σ H => tH G A cls dd i (Rep G) (fun k l => evHs C k l h) σ H D.rt)
  | .ret h, vs, q => by
    simp only [chkHs] at q
    split at q
    · exact pss_imp (pss_one (ps_ret (okHx hd np xd hC c hz hf i h _ q))) fun D σ H z => by
        simp only [evHs] at z
        exact z
    · cases q
  | .ife t a r, vs, q => by
    simp only [chkHs] at q
    split at q
    · simp only [Bool.and_eq_true] at q
      obtain ⟨q1, q2, q3, q4⟩ := q
      refine pss_imp (pss_cons (ps_if (okHt hd np xd hC c hz hf i t _ q1 q2) (okHs i a _ q3) pss_nil) (okHs i r _ q4)) fun D σ H ⟨m, ρ, S, k, l, dx, re, rs, hc, hdd, xr, hi, z⟩ => ?_
      simp only [evHs] at z
      refine tH.go (ev := fun k l => evHt C k l t) re rs hc hdd xr hi z fun kk S1 m1 H1 k1 x1 re1 rs1 r1 xr1 z1 => ?_
      have e : kk = k1 := r1
      subst e
      cases kk with
      | true => exact ⟨m1, ρ, S1, k, l, dx, re1, rs1, hc, hdd, xr1, hi, z1⟩
      | false => exact ⟨m1, ρ, S1, k, l, dx, re1, rs1, hc, hdd, xr1, hi, z1⟩
    · cases q
end
/-! #### try -/
theorem names_of (xd : Xd G) (c : Ctx G n X s W) {k : Nat} {nm : Str} (hg : gloB s nm = true) (hn : G.M.exc[k]? = some nm) : Names X nm (.ref (G.xa k)) := by
  obtain ⟨g1, g2, g3, g4, g5⟩ := c.glo hg
  exact ⟨g1, g2, .inl (by rw [c.mg]; exact (xd.mg k nm hn).1)⟩
theorem try_fin (xd : Xd G) {T : Tb} (hT : T = G.T) {m : List Addr} {H : Hp} {k x : Nat} {L : List Ev.D} {i : Option Nat} {h : Hs} {ρ1 ρ2 : Fr} {S1 : Store} {D : Ends} (hk : k < G.T.exc.length)
    (q : FinS G W m H (if (ancOf T x).contains k then (evHs C x L h ρ2 S1).nox.os ρ1 fun d S2 => .rt d S2 else .ex x L ρ1 S1) D) {m' : List Addr} {H' : Hp} {dx : Addr} {σ' : L2.St} (x' : Ext m H m' H') (re : RE G m' H' ρ1 σ') (rs : RS G m' H' S1) (xr : XRep G m' H' x L dx) :
    ∃ b, PySem.W.exmOne G.K (.ref (G.xa x)) (.ref (G.xa k)) = some b ∧ (b = true → ∀ (A : Addr) (τ : L2.St), RE G m' H' ρ2 τ → (∀ j, i = some j → j < τ.length → τ[j]? = some (some (.ref A))) → tH G A (.ref (G.xa x)) (some dx) i (Rep G) (fun k l => evHs C k l h) τ H' D.rt) ∧ (b = false → W (.ref (G.xa x)) (some dx) σ' H') := by
  subst hT
  have hx : x < G.T.exc.length := by
    obtain ⟨_, _, _, _, hx⟩ := xr
    exact hx
  refine ⟨(ancOf G.T x).contains k, xd.exm x k hx hk, fun hb A τ re2 hi => ?_, fun hb => ?_⟩
  · rw [if_pos hb] at q
    refine ⟨m', ρ2, S1, x, L, dx, re2, rs, rfl, rfl, xr, hi, ?_⟩
    show Fin G noW τ (Rep G) m' H' (evHs C x L h ρ2 S1) _
    cases e : evHs C x L h ρ2 S1 with
    | ok d S2 =>
      rw [e] at q
      exact fun m2 H2 v x2 rs2 r2 => q m2 H2 v (x'.trans x2) rs2 r2
    | ex _ _ _ => rw [e] at q; exact q.elim
    | bad => rw [e] at q; exact q.elim
  · rw [if_neg (by rw [hb]; exact Bool.false_ne_true)] at q
    exact q m' H' dx σ' x' re rs xr
theorem hs_form {M : Nm} {i : Option Nat} (h : Hs) (v : List Stmt) (q : chkHs M s i h v = true) : ∃ b r, v = b :: r := by
  cases h <;> simp only [chkHs] at q <;> split at q <;> first | exact ⟨_, _, rfl⟩ | cases q
theorem s_try (hd : Hd G) (np : NpOk G) (xd : Xd G) (c : CtxS G n X s W) (hC : C = csOf G.T n) {k : Nat} {nm : Str} {np0 hp : Pos} {B : Sts} {h : Hs} {body su : List Stmt} (hg : gloB s nm = true) (hn : G.M.exc[k]? = some nm)
    (hb : ∀ (W1 : WX) (pn : List (Addr × Obj)) (xe : Value → Shared → Prop), L2N.Takes (X.tr pn xe) W1 → PassesOwn (model X.prog X.w) X.A X.env xe → PSs (X.tr pn xe) body (tS G W1 (exSs C B))) (hh : chkHs G.M { s with hot := true } none h su = true) :
    PS X (.Try body [.ExceptHandler (some (.Name nm np0)) none su hp] [] [] pos) (tS G W (exS C (.tryE B k none h))) := by
  obtain ⟨b0, su, rfl⟩ := hs_form h su hh
  have q0 := L2N.ps_try_many (pos := pos) c.stk c.fr c.c.tk (tb := fun W1 => tS G W1 (exSs C B)) hb (.cons (np := np0) (pos' := hp) (names_of xd c.c hg hn) (ts := fun A cls dd => fun D σ H => tH G A cls dd none (Rep G) (fun k l => evHs C k l h) σ H D.rt) (fun A oe cls dd pn hz hf => okHs hd np xd hC (suite_ctx c hf hz.2.2) hz.zc hf none h _ hh) .nil)
  refine ps_imp q0 fun D σ H ⟨m, ρ, S, re, rs, q⟩ => ⟨m, ρ, S, re, rs, ?_⟩
  simp only [exS] at q
  cases e : exSs C B ρ S with
  | ex xc L ρ1 S1 =>
    rw [e] at q
    intro m' H' dx σ' x' re' rs' xr
    obtain ⟨b, h1, h2, h3⟩ := try_fin (C := C) (i := none) xd (by rw [hC, csOf_T]) (xd.mg k nm hn).2 q x' re' rs' xr
    refine ⟨b, by rw [c.c.K]; exact h1, fun hb A => ?_, fun hb => h3 hb⟩
    exact fun _ => h2 hb A σ' re' (fun j hj _ => by cases hj)
  | nx ρ1 S1 => rw [e] at q; exact q
  | rt d S1 => rw [e] at q; exact q
  | bk ρ1 S1 => rw [e] at q; exact q
  | ct ρ1 S1 => rw [e] at q; exact q
  | bad => rw [e] at q; exact q
theorem s_tryAs (hd : Hd G) (np : NpOk G) (xd : Xd G) (c : CtxS G n X s W) (hC : C = csOf G.T n) {k j : Nat} {nm y : Str} {np0 hp : Pos} {B : Sts} {h : Hs} {body su : List Stmt} (hg : gloB s nm = true) (hn : G.M.exc[k]? = some nm) (hj : s.N[j]? = some y) (hy : s.sc.names.lookup y = some .local)
    (hb : ∀ (W1 : WX) (pn : List (Addr × Obj)) (xe : Value → Shared → Prop), L2N.Takes (X.tr pn xe) W1 → PassesOwn (model X.prog X.w) X.A X.env xe → PSs (X.tr pn xe) body (tS G W1 (exSs C B))) (hh : chkHs G.M { s with hot := true } (some j) h su = true) :
    PS X (.Try body [.ExceptHandler (some (.Name nm np0)) (some y) su hp] [] [] pos) (tS G W (exS C (.tryE B k (some j) h))) := by
  obtain ⟨b0, su, rfl⟩ := hs_form h su hh
  have q0 := L2N.ps_try_as (pos := pos) (pos' := hp) (np := np0) c.stk c.fr c.c.nN (by rw [c.c.N]; exact hj) (show X.env.scope.names.lookup y = some .local by rw [c.c.sc]; exact hy) (names_of xd c.c hg hn) c.c.tk (tb := fun W1 => tS G W1 (exSs C B)) (ts := fun A cls dd => fun D σ H => tH G A cls dd (some j) (Rep G) (fun k l => evHs C k l h) σ H D.rt) hb (fun A oe cls dd pn hz hf => okHs hd np xd hC (suite_ctx c hf hz.2.2) hz.zc hf (some j) h _ hh)
  refine ps_imp q0 fun D σ H ⟨m, ρ, S, re, rs, q⟩ => ⟨m, ρ, S, re, rs, ?_⟩
  simp only [exS] at q
  cases e : exSs C B ρ S with
  | ex xc L ρ1 S1 =>
    rw [e] at q
    intro m' H' dx σ' x' re' rs' xr
    obtain ⟨b, h1, h2, h3⟩ := try_fin (C := C) (i := some j) xd (by rw [hC, csOf_T]) (xd.mg k nm hn).2 q x' re' rs' xr
    refine ⟨b, by rw [c.c.K]; exact h1, fun hb A _ => h2 hb A (σ'.set j (some (.ref A))) (re'.gone _) (fun j' hj' hl => ?_), h3⟩
    cases hj'
    rw [List.length_set] at hl
    rw [List.getElem?_set_self hl]
  | nx ρ1 S1 => rw [e] at q; exact q
  | rt d S1 => rw [e] at q; exact q
  | bk ρ1 S1 => rw [e] at q; exact q
  | ct ρ1 S1 => rw [e] at q; exact q
  | bad => rw [e] at q; exact q
end
end Ev
end
section
set_option maxRecDepth 100000
set_option maxHeartbeats 8000000
/-! Ev, part 17b: dicts in statements. -/
namespace Ev
open PySem PySem.Spec PyProof.Rows L2
/-! #### unlocked again -/
section
variable {G : Pg} {m : List Addr} {H : Hp} {S : Store} {p : Addr} {od : Obj} {kvs : List (List Key × V)}
theorem ne_dT {q : Addr} {vs : List V} (hp : H p = some (.frz od (.dT kvs))) (h : Rd H q (.tup vs) ∨ Rd H q (.lst vs)) : q ≠ p := fun e => by
  subst e
  rcases h with (h | ⟨_, h⟩) | (h | ⟨_, h⟩) <;> rw [hp] at h <;> cases h
theorem rd_upd {q : Addr} {u w : HO} (n : q ≠ p) (h : Rd H q u) : Rd (upd H p w) q u := by
  rcases h with h | ⟨o, h⟩
  · exact .inl (by rw [upd_ne n]; exact h)
  · exact .inr ⟨o, by rw [upd_ne n]; exact h⟩
mutual
theorem Rep.unl (hp : H p = some (.frz od (.dT kvs))) : ∀ (d : D) (v : V), Rep G m H d v → Rep G m (upd H p (.dT kvs)) d v
  | .non, _, h => by rw [h.non_inv]; exact rep_non
  | .bl _, _, h => by rw [h.bl_inv]; exact rep_bl
  | .int _, _, h => by rw [h.int_inv]; exact rep_int
  | .str _, _, h => by rw [h.str_inv]; exact rep_str
  | .tup l, _, h => by
    obtain ⟨q, vs, rfl, f, r⟩ := h.tup_inv
    exact rep_tup (f.imp (fun z => ⟨z.1, rd_upd (ne_dT hp (.inl z.2)) z.2⟩) id) (RepL.unl hp l vs r)
  | .lst l, _, h => by
    obtain ⟨q, vs, rfl, f, r⟩ := h.lst_inv
    exact rep_lst ⟨f.1, rd_upd (ne_dT hp (.inr f.2)) f.2⟩ (RepL.unl hp l vs r)
  | .ref n, _, h => by
    obtain ⟨q, rfl, e⟩ := h.ref_inv
    exact rep_ref e
  | .obj c l, _, h => by
    obtain ⟨q, vs, rfl, ⟨f1, dx, f2⟩, r⟩ := h.obj_inv
    exact rep_obj ⟨f1, dx, by rw [upd_ne (fun e => by subst e; rw [hp] at f2; cases f2)]; exact f2⟩ (RepL.unl hp l vs r)
theorem RepL.unl (hp : H p = some (.frz od (.dT kvs))) : ∀ (l : List D) (vs : List V), RepL G m H l vs → RepL G m (upd H p (.dT kvs)) l vs
  | [], _, h => by simp only [RepL] at h; subst h; exact RepL.nil
  | d :: l, _, h => by
    simp only [RepL] at h
    obtain ⟨v, r, rfl, h1, h2⟩ := h
    exact RepL.cons (Rep.unl hp d v h1) (RepL.unl hp l r h2)
end
theorem RepC.unl (hp : H p = some (.frz od (.dT kvs))) {c : Cell} {q : Addr} (n : q ≠ p) (h : RepC G m H c q) : RepC G m (upd H p (.dT kvs)) c q := by
  cases c with
  | lst l =>
    obtain ⟨vs, h1, r⟩ := h
    exact ⟨vs, by rw [upd_ne n]; exact h1, RepL.unl hp _ _ r⟩
  | ins c fs =>
    obtain ⟨dx, vs, h1, r⟩ := h
    exact ⟨dx, vs, by rw [upd_ne n]; exact h1, RepL.unl hp _ _ r⟩
  | dct lk kvs =>
    obtain ⟨vs, h1, r⟩ := h
    exact ⟨vs, h1.at' (upd_ne n), RepL.unl hp _ _ r⟩
theorem RS.unl {n : Nat} {c : Cell} (hp : H p = some (.frz od (.dT kvs))) (hn : m[n]? = some p) (rs : RS G m H S) (h : RepC G m (upd H p (.dT kvs)) c p) : RS G m (upd H p (.dT kvs)) (S.set n c) := by
  refine ⟨by rw [List.length_set]; exact rs.len, rs.nd, fun k c' e => ?_⟩
  by_cases hk : k = n
  · subst hk
    have hl : k < S.length := by rw [← rs.len]; exact (List.getElem?_eq_some_iff.mp hn).1
    rw [List.getElem?_set_self hl] at e
    cases e
    exact ⟨p, hn, h⟩
  · rw [List.getElem?_set_ne (Ne.symm hk)] at e
    obtain ⟨q, hq, r⟩ := rs.cel k c' e
    refine ⟨q, hq, RepC.unl hp (fun z => hk ?_) r⟩
    subst z
    obtain ⟨l1, e1⟩ := List.getElem?_eq_some_iff.mp hq
    obtain ⟨l2, e2⟩ := List.getElem?_eq_some_iff.mp hn
    exact (List.getElem_inj rs.nd).mp (e1.trans e2.symm)
theorem RE.unl {ρ : Fr} {σ : L2.St} (hp : H p = some (.frz od (.dT kvs))) (re : RE G m H ρ σ) : RE G m (upd H p (.dT kvs)) ρ σ :=
  ⟨re.len, fun i d e => let ⟨v, e1, r⟩ := re.at_ i d e; ⟨v, e1, Rep.unl hp d v r⟩⟩
/-- from ahead of the lock to behind it -/
theorem Ext.unl {m' : List Addr} {H' : Hp} (h0 : H p = some (.dT kvs)) (hm : p ∈ m) (x : Ext m (upd H p (.frz od (.dT kvs))) m' H') : Ext m H m' (upd H' p (.dT kvs)) := by
  refine ⟨x.pre, fun a o h na => ?_, fun a o u h => ?_⟩
  · have ne : a ≠ p := fun z => na (by rw [z]; exact hm)
    obtain ⟨h1, h2⟩ := x.keep a o (by rw [upd_ne ne]; exact h) na
    exact ⟨by rw [upd_ne ne]; exact h1, h2⟩
  · have ne : a ≠ p := fun z => by
      rw [z, h0] at h
      cases h
    have h1 := x.frz a o u (by rw [upd_ne ne]; exact h)
    rw [upd_ne ne]
    exact h1
end
section
variable {G : Pg} {n : Nat} {X : Cx} {s : Sx} {W : WX} {C : Cs} {e x y z : Expr} {p pos apos tpos : Pos} {a b : Ex} {es : List Expr} {l l2 : Exs}
theorem fin_opn {m : List Addr} {H : Hp} {S : Store} {p : Addr} {k : Nat} {od : Obj} {kvs : List (List Int × Ev.D)} {vs : List V} {r : Os} {D : Ends} (rs : RS G m H S) (hk : m[k]? = some p) (h0 : H p = some (.dT (zK kvs vs))) (rl : RepL G m H (kvs.map (·.2)) vs)
    (h : FinS G W m H (opn k kvs r) D) :
    FinS G W m (upd H p (.frz od (.dT (zK kvs vs)))) r ⟨fun σ' H' => H' p = some (.frz od (.dT (zK kvs vs))) ∧ D.nx σ' (upd H' p (.dT (zK kvs vs))), fun v H' => H' p = some (.frz od (.dT (zK kvs vs))) ∧ D.rt v (upd H' p (.dT (zK kvs vs))),
      fun σ' H' => H' p = some (.frz od (.dT (zK kvs vs))) ∧ D.bk σ' (upd H' p (.dT (zK kvs vs))), fun σ' H' => H' p = some (.frz od (.dT (zK kvs vs))) ∧ D.ct σ' (upd H' p (.dT (zK kvs vs)))⟩ := by
  have hm := List.mem_of_getElem? hk
  have nf : NF H p := NF.of h0 fun _ _ z => nomatch z
  have xl : Ext m H m (upd H p (.frz od (.dT (zK kvs vs)))) := Ext.write hm nf
  have st : ∀ {m' : List Addr} {H' : Hp} {S' : Store}, Ext m (upd H p (.frz od (.dT (zK kvs vs)))) m' H' → RS G m' H' S' →
      H' p = some (.frz od (.dT (zK kvs vs))) ∧ Ext m H m' (upd H' p (.dT (zK kvs vs))) ∧ RS G m' (upd H' p (.dT (zK kvs vs))) (S'.set k (.dct false kvs)) := fun {m' H' S'} x' rs' => by
    have hp := x'.frz p od _ upd_same
    refine ⟨hp, Ext.unl h0 hm x', RS.unl hp (pre_get x'.pre hk) rs' ⟨vs, upd_same, RepL.unl hp _ _ (RepL.mono (xl.trans x') _ _ rl)⟩⟩
  cases r with
  | nx ρ' S' => exact fun m' H' σ' x' re' rs' => let ⟨a1, a2, a3⟩ := st x' rs'; ⟨a1, h m' _ σ' a2 (RE.unl a1 re') a3⟩
  | rt d S' => exact fun m' H' v x' rs' r' => let ⟨a1, a2, a3⟩ := st x' rs'; ⟨a1, h m' _ v a2 a3 (Rep.unl a1 _ _ r')⟩
  | bk ρ' S' => exact fun m' H' σ' x' re' rs' => let ⟨a1, a2, a3⟩ := st x' rs'; ⟨a1, h m' _ σ' a2 (RE.unl a1 re') a3⟩
  | ct ρ' S' => exact fun m' H' σ' x' re' rs' => let ⟨a1, a2, a3⟩ := st x' rs'; ⟨a1, h m' _ σ' a2 (RE.unl a1 re') a3⟩
  | ex c l ρ' S' => exact FinS.ext (D := D) xl h
  | bad => exact h
theorem FinS.at_o {α : Type} {m : List Addr} {H : Hp} {S : Store} {ρ : Fr} {o : Option α} {k : α → Store → Os} {t : Tag k} {D : Ends} (h : FinS G W m H ((ofO o S).os ρ k t) D) : ∃ a, o = some a ∧ FinS G W m H (k a S) D := by
  cases o with
  | none => exact h.elim
  | some a => exact ⟨a, rfl, h⟩
theorem s_dset (hd : Hd G) (c : CtxS G n X s W) {i : Nat} {e0 o0 v0 : Ex} {ss : Sts} {nm : Str} {px p2 p3 pos1 pos2 : Pos} {cpos npos : Pos} {w zz : Expr} {rest : List Stmt} (hg : gloB s "tuple" = true) (hp : putB s i nm = true) (hse : seeB s i nm = true) (ha : PE X y (tE G W (evE C e0))) (hy : noStar y = true)
    (hv : PE X w (tE G W (evE C v0))) (ho : PE X zz (tE G W (evE C o0))) (hr : PSs X rest (tS G W (exSs C ss))) :
    PSs X (.Assign [.Name nm px] (.Call (.Name "tuple" npos) [y] [] cpos) pos1 :: .Assign [.Subscript zz (.Name nm p2) p3] w pos2 :: rest) (tS G W (exSs C (.dset i e0 o0 v0 ss))) := by
  obtain ⟨g1, g2, g3⟩ := c.c.put hp
  obtain ⟨h1, h2, h3, h4⟩ := c.c.see hse
  have hu : X.A.units + 1 < cLine := by have := c.c.units; omega
  have r1 := ps_set (pos := pos1) (pos' := px) c.c.nN g1 g2 (pe_tupC (p := npos) (pos := cpos) hd c.c hg ha hy) (sw_none rfl) g3
  have r2 := ps_dput (pos := pos2) (pos' := p3) hu ho (pe_var (pos := p2) h1 h2 h3 h4) hv (sw_other (by intro _ _ h; cases h))
  refine pss_imp (pss_cons r1 (pss_cons r2 hr)) fun D σ H ⟨m, ρ, S, re, rs, q⟩ => ?_
  simp only [exSs] at q
  split at q
  · exact q.elim
  · rename_i hi
    refine tS.go re re rs q fun d S1 m1 H1 v1 _ x1 re1 _ rs1 r1 q1 => ?_
    obtain ⟨kk, ek, q2⟩ := q1.at_o
    obtain ⟨b1, rfl, rb⟩ := lstI_sq rs1 r1 ek
    refine ⟨b1, _, rfl, rb, fun t ht => ?_⟩
    have xt : Ext m1 H1 m1 (upd H1 t (.tup (kk.map V.int))) := Ext.new ht
    have rk : Rep G m1 (upd H1 t (.tup (kk.map V.int))) (tupI kk) (.ref t) := rep_tup (.inl ⟨rs1.fresh ht, .inl upd_same⟩) (ints_rep kk)
    have re2 := (re1.mono xt).set (i := i) rk
    refine tS.go re2 re2 (rs1.new ht) (FinS.ext xt q2) fun d3 S3 m3 H3 v3 _ x3 re3 _ rs3 r3 q3 => ?_
    refine tS.go re3 re3 rs3 q3 fun d4 S4 m4 H4 v4 _ x4 re4 _ rs4 r4 q4 => ?_
    refine ⟨.ref t, by rw [List.getElem?_set_self (by rw [← re.len]; omega)], ?_⟩
    split at q4
    · rename_i S5 e5
      unfold dputD at e5
      split at e5
      · split at e5
        · rename_i j0 kvs el
          split at e5
          · rename_i hz
            cases e5
            obtain ⟨p0, rfl, hp0⟩ := r4.ref_inv
            obtain ⟨p', hp', vs, hv', rl⟩ := rs4.cel _ _ el
            rw [hp0] at hp'; cases hp'
            have hv0 : H4 p0 = some (.dT (zK kvs vs)) := hv'
            have ht4 : H4 t = some (.tup ((kk.map iK).map kV)) := by
              rw [kVs]
              exact ((x3.trans x4).keep t _ upd_same (rs1.fresh ht)).1
            have nf : NF H4 p0 := NF.of hv0 fun _ _ z => nomatch z
            obtain ⟨us, eu, ru⟩ := putD_rep (k := kk) (Rep.mono x4 _ _ r3) rl
            refine ⟨p0, _, rfl, DPut.t hv0 ht4 (by rw [zK_len rl, ← lim]; exact hz), ?_⟩
            rw [eu]
            have xw : Ext m4 H4 m4 (upd H4 p0 (.dT (zK (putD kk d3 kvs) us))) := Ext.write (List.mem_of_getElem? hp0) nf
            exact ⟨m4, _, _, re4.mono xw, rs4.write (c := .dct false (putD kk d3 kvs)) nf hp0 ⟨us, upd_same, RepL.mono xw _ _ ru⟩, FinS.ext xw q4⟩
          · cases e5
        · cases e5
      · cases e5
    · exact q4.elim
theorem tup_out {m : List Addr} {H : Hp} {S : Store} {q : Addr} {vs : List V} (rs : RS G m H S) (h : H q = some (.tup vs)) : q ∉ m := fun hm => by
  obtain ⟨n, hn, e⟩ := List.getElem_of_mem hm
  have hS : n < S.length := by rw [← rs.len]; exact hn
  obtain ⟨p', hp', r⟩ := rs.cel n S[n] (List.getElem?_eq_getElem hS)
  rw [List.getElem?_eq_getElem hn, e] at hp'
  cases hp'
  cases hc : S[n] with
  | lst l =>
    rw [hc] at r
    obtain ⟨_, r, _⟩ := r
    rw [h] at r; cases r
  | ins c fs =>
    rw [hc] at r
    obtain ⟨_, _, r, _⟩ := r
    rw [h] at r; cases r
  | dct lk kvs =>
    rw [hc] at r
    obtain ⟨_, r, _⟩ := r
    rcases r.rd with r | ⟨_, r⟩ <;> rw [h] at r <;> cases r
theorem zK_get {m : List Addr} {H : Hp} {ks : List Key} {v : V} : ∀ {kvs : List (List Int × Ev.D)} {vs : List V}, RepL G m H (kvs.map (·.2)) vs → ∀ i : Nat, (zK kvs vs)[i]? = some (ks, v) → ∃ (k : List Int) (d : Ev.D), kvs[i]? = some (k, d) ∧ ks = k.map iK ∧ Rep G m H d v
  | [], vs, r, i, e => by simp at e
  | (k, d) :: kvs, vs, r, i, e => by
    simp only [List.map_cons, RepL] at r
    obtain ⟨u, us, rfl, r1, r2⟩ := r
    cases i with
    | zero =>
      have e' : some (k.map iK, u) = some (ks, v) := e
      cases e'
      exact ⟨k, d, rfl, rfl, r1⟩
    | succ i => exact zK_get r2 i e
theorem items_RY {m1 : List Addr} {H1 : Hp} {p : Addr} {od : Obj} {kvs : List (List Int × Ev.D)} {vs : List V} {g : Gd} (hf : H1 p = some (.frz od (.dT (zK kvs vs)))) (rl : RepL G m1 H1 (kvs.map (·.2)) vs) : RY G m1 H1 (itmL kvs, g) (Itit p od (zK kvs vs)) := by
  intro m H S x rs _ i
  have hl := zK_len rl
  have il : (itmL kvs).length = kvs.length := List.length_map ..
  refine ⟨fun d ed => ⟨⟨x.frz _ _ _ hf, ?_⟩, ?_⟩, fun e => ⟨x.frz _ _ _ hf, ?_⟩⟩
  · have := (List.getElem?_eq_some_iff.mp ed).1
    show i < (zK kvs vs).length
    rw [hl, ← il]
    exact this
  · rintro w H' ⟨T, ks, v, q, e1, rfl, e2, e3, rfl⟩
    obtain ⟨k, dd, e4, rfl, r1⟩ := zK_get rl i e1
    have ed' : (itmL kvs)[i]? = some (.tup [tupI k, dd]) := by
      show (kvs.map _)[i]? = _
      rw [List.getElem?_map, e4]
      rfl
    have e5 : some d = some (.tup [tupI k, dd]) := ed.symm.trans ed'
    cases e5
    have xt : Ext m H m (upd H T (.tup [.ref q, v])) := Ext.new e3
    have qT : q ≠ T := fun z => by rw [z, e3] at e2; cases e2
    refine ⟨xt, rs.new e3, rep_tup (.inl ⟨rs.fresh e3, .inl upd_same⟩) (RepL.cons (rep_tup (vs := k.map V.int) (.inl ⟨tup_out rs e2, .inl ?_⟩) (ints_rep k)) (RepL.cons (Rep.mono xt _ _ (Rep.mono x _ _ r1)) RepL.nil))⟩
    rw [upd_ne qT, e2, kVs]
  · show (zK kvs vs).length ≤ i
    have e' : (itmL kvs).length = i := e
    rw [hl, ← il, e']
    exact Nat.le_refl i
theorem s_forI (c : CtxS G n X s W) (hcm : s.hot = false) {i j v : Nat} {B : Sts} {q : List Stmt} {nm : Str} {px py pt po : Pos} {nx ny : Str} {kk : Nat} (hse : seeB s v nm = true) (hp : tgB s (.tp [i, j]) (.Tuple [.Name nx px, .Name ny py] kk pt) = true) (hl : (apos.endLine == tpos.line) = true) (hb : PSs X q (tS G W (exSs C B))) :
    PS X (.For (.Tuple [.Name nx px, .Name ny py] kk pt) (.Call (.Attribute (.Name nm po) "items" apos) [] [] tpos) q [] pos) (tS G W (exS C (.forI i j v B))) := by
  have hvar : PE X (.Name nm po) (tE G W (evE C (.var v))) := r_var c.c hse
  refine ps_imp (ps_lock (ps_for c.po (c.c.calm hcm) (pi_itemsT hvar rfl hl) (r_tg c.c hp) hb)) fun D σ H ⟨m, ρ, S, re, rs, q⟩ => ?_
  simp only [exS] at q
  obtain ⟨d, ed, q1⟩ := q.at_o
  split at q1
  · rename_i k kvs eo
    unfold opnD at eo
    split at eo
    · split at eo
      · rename_i k' kvs' el
        cases eo
        have er : ρ[v]? = some (some (.ref k)) := by
          unfold valS at ed
          split at ed
          · rename_i d' e'
            cases ed
            exact e'
          · cases ed
        obtain ⟨p, hpk, vs, hv', rl⟩ := rs.cel _ _ el
        have h0 : H p = some (.dT (zK kvs vs)) := hv'
        refine ⟨p, _, h0, True.intro, fun od => ?_⟩
        have q2 := fin_opn (od := od) rs hpk h0 rl q1
        have nf : NF H p := NF.of h0 fun _ _ z => nomatch z
        have xl : Ext m H m (upd H p (.frz od (.dT (zK kvs vs)))) := Ext.write (List.mem_of_getElem? hpk) nf
        have rsl : RS G m (upd H p (.frz od (.dT (zK kvs vs)))) (S.set k (.dct true kvs)) := rs.write nf hpk ⟨vs, ⟨od, upd_same⟩, RepL.mono xl _ _ rl⟩
        have rll := RepL.mono xl _ _ rl
        have rel := re.mono xl
        refine ⟨m, ρ, _, rel, rsl, ?_⟩
        simp only [evE, er]
        intro m1 H1 v1 x1 rs1 r1
        obtain ⟨p1, rfl, hp1⟩ := r1.ref_inv
        rw [pre_get x1.pre hpk] at hp1
        cases hp1
        have hf := x1.frz p od _ (upd_same)
        exact ⟨p, od, zK kvs vs, rfl, hf, for_fin (rel.mono x1) rs1 (items_RY hf (RepL.mono x1 _ _ rll)) (FinS.ext x1 q2)⟩
      · cases eo
    · cases eo
  · exact q1.elim
end
end Ev
end
section
set_option maxRecDepth 100000
set_option maxHeartbeats 8000000
/-! Ev, part 18: every checked statement does what the evaluator says; defs. -/
namespace Ev
open PySem PySem.Spec PyProof.Rows L2
theorem no_swap2 {ts : List Expr} {v : Expr} {kt : Nat} {pt : Pos} {env : Env} (h : notTuple v = true) : swappedStores [.Tuple ts kt pt] v env = pure none := by
  cases v <;> first | rfl | (simp [notTuple] at h)
section
variable {G : Pg} {n : Nat} {C : Cs} (hd : Hd G) (np : NpOk G) (xd : Xd G) (xm : XMk G) (hC : C = csOf G.T n)
include hd np xd xm hC
mutual
theorem okS : ∀ (a : Ev.St) (s : Sx) (W : WX) (X : Cx) (st : Stmt), CtxS G n X s W → chkS G.M a s st = true → PS X st (tS G W (exS C a))
  | .ex e, s, W, X, st, c, h => by
    simp only [chkS] at h
    split at h
    · simp only [Bool.and_eq_true] at h
      exact s_ex (okE hd np hC e s W X _ c.c h.2).1 h.1
    · cases h
  | .asg i e, s, W, X, st, c, h => by
    simp only [chkS] at h
    split at h
    · rename_i nm px v pp
      simp only [Bool.and_eq_true] at h
      by_cases hn : notComp v = true
      · exact s_asg c (okE hd np hC e s W X _ c.c h.2.1).1 h.1 (sw_none hn)
      · exact s_asgLc hd np hC c (by
          have := h.2.2
          rw [Bool.not_eq_true] at hn
          rw [hn] at this
          simpa using this) h.2.1 hn h.1
    · cases h
  | .asgT is e, s, W, X, st, c, h => by
    simp only [chkS] at h
    split at h
    · rename_i ts k pt v pp
      simp only [Bool.and_eq_true] at h
      refine s_asgT c (hot_of h.2.1) (okE hd np hC e s W X _ c.c h.2.2.2).1 h.2.2.1 ?_
      obtain ⟨h1, _⟩ := h
      split at h1
      · refine no_swap ?_
        simp only [Bool.or_eq_true, Bool.not_eq_true'] at h1
        exact h1
      · rename_i hnt
        exact no_swap2 (by
          cases v <;> first | rfl | exact (hnt _ _ _ rfl).elim)
    · cases h
  | .swp i j a b, s, W, X, st, c, h => by
    simp only [chkS] at h
    split at h
    · simp only [Bool.and_eq_true, Bool.not_eq_true', beq_eq_false_iff_ne] at h
      obtain ⟨⟨h1, h0⟩, h2, h3, h4, h5, h6⟩ := h
      exact s_swp c h0 h1 h2 h3 h4 (okE hd np hC a s W X _ c.c h5).1 (chk_form _ _ _ h5).1 (okE hd np hC b s W X _ c.c h6).1 (chk_form _ _ _ h6).1
    · cases h
  | .asgI o i e, s, W, X, st, c, h => by
    simp only [chkS] at h
    split at h
    · simp only [Bool.and_eq_true] at h
      obtain ⟨h1, h2, h3, h4⟩ := h
      exact s_asgI c (okE hd np hC o s W X _ c.c h2).1 (okE hd np hC i s W X _ c.c h3).1 (okE hd np hC e s W X _ c.c h4).1 h1
    · cases h
  | .augN i sb e, s, W, X, st, c, h => by
    simp only [chkS] at h
    split at h
    · simp only [Bool.and_eq_true] at h
      obtain ⟨h1, h2, h3⟩ := h
      exact s_augN c (okE hd np hC e s W X _ c.c h3).1 h2 h1
    · cases h
  | .augI o i sb e, s, W, X, st, c, h => by
    simp only [chkS] at h
    split at h
    · simp only [Bool.and_eq_true] at h
      obtain ⟨h0, h1, h2, h3, h4⟩ := h
      exact s_augI c (okE hd np hC o s W X _ c.c h2).1 (okE hd np hC i s W X _ c.c h3).1 (okE hd np hC e s W X _ c.c h4).1 h1 h0
    · cases h
  | .asg2 i j e, s, W, X, st, c, h => by
    simp only [chkS] at h
    split at h
    · simp only [Bool.and_eq_true] at h
      obtain ⟨h1, h2, h3, h4⟩ := h
      exact s_asg2 c (okE hd np hC e s W X _ c.c h4).1 h1 h2 rfl
    · cases h
  | .asgA o f e, s, W, X, st, c, h => by
    simp only [chkS] at h
    split at h
    · simp only [Bool.and_eq_true, decide_eq_true_eq] at h
      obtain ⟨h1, h2, h3⟩ := h
      exact s_asgA hd c (by rw [hC, csOf_T]) h1 (okE hd np hC o s W X _ c.c h2).1 (okE hd np hC e s W X _ c.c h3).1
    · cases h
  | .ret e, s, W, X, st, c, h => by
    simp only [chkS] at h
    split at h
    · exact s_ret (okE hd np hC e s W X _ c.c h).1
    · cases h
  | .retN, s, W, X, st, c, h => by
    simp only [chkS] at h
    split at h
    · exact s_retN
    · cases h
  | .pas, s, W, X, st, c, h => by
    simp only [chkS] at h
    split at h
    · exact s_pas
    · cases h
  | .nev, s, W, X, st, c, h => ⟨fun pins st σ H D I ⟨m, ρ, S, re, rs, q⟩ => by
      simp only [exS] at q
      exact q.elim⟩
  | .brk, s, W, X, st, c, h => by
    simp only [chkS] at h
    split at h
    · exact s_brk
    · cases h
  | .cnt, s, W, X, st, c, h => by
    simp only [chkS] at h
    split at h
    · exact s_cnt
    · cases h
  | .ife d a b, s, W, X, st, c, h => by
    simp only [chkS] at h
    split at h
    · simp only [Bool.and_eq_true] at h
      exact s_if (okE hd np hC d s W X _ c.c h.1).2.pt (okSs a s W X _ c h.2.1) (okSs b s W X _ c h.2.2)
    · cases h
  | .whl d b, s, W, X, st, c, h => by
    simp only [chkS] at h
    split at h
    · simp only [Bool.and_eq_true] at h
      exact s_whl c (okE hd np hC d s W X _ c.c h.1).2.pt (okSs b s W X _ c h.2)
    · cases h
  | .forr tg it b, s, W, X, st, c, h => by
    simp only [chkS] at h
    split at h
    · simp only [Bool.and_eq_true] at h
      exact s_for c (okW hd np hC it s W X _ _ c.c h.2.1) (chkW_set _ _ _ _ h.2.1) h.1 (okSs b s W X _ c h.2.2)
    · cases h
  | .forI i j v b, s, W, X, st, c, h => by
    simp only [chkS] at h
    split at h
    · simp only [Bool.and_eq_true, decide_eq_true_eq] at h
      obtain ⟨⟨h1, h0⟩, h2, h3, h4, h5⟩ := h
      subst h1
      exact s_forI c (hot_of h0) h4 h3 h2 (okSs b s W X _ c h5)
    · cases h
  | .rai k es, s, W, X, st, c, h => by
    simp only [chkS] at h
    split at h
    · simp only [Bool.and_eq_true, decide_eq_true_eq] at h
      exact s_rai xm xd c (hot_of h.2.2.1) (by rw [hC, csOf_T]) h.2.1 h.1 h.2.2.2 (okL hd np hC es s W X _ c.c h.2.2.2)
    · cases h
  | .tryE b k i hx, s, W, X, st, c, h => by
    simp only [chkS] at h
    split at h
    · simp only [Bool.and_eq_true, decide_eq_true_eq] at h
      obtain ⟨⟨h1, h0⟩, h2, h3, h4, h5⟩ := h
      split at h5
      · exact s_try hd np xd c hC h1 h2 (fun W1 pn xe tk po => okSs b s W1 _ _ (c.tr (hot_of h0) tk po) h3) h4
      · simp only [Bool.and_eq_true, decide_eq_true_eq] at h5
        exact s_tryAs hd np xd c hC h1 h2 h5.1 h5.2 (fun W1 pn xe tk po => okSs b s W1 _ _ (c.tr (hot_of h0) tk po) h3) h4
      · cases h5
    · cases h
theorem okSs : ∀ (a : Sts) (s : Sx) (W : WX) (X : Cx) (sts : List Stmt), CtxS G n X s W → chkSs G.M a s sts = true → PSs X sts (tS G W (exSs C a))
  | .nil, s, W, X, sts, c, h => by
    simp only [chkSs, List.isEmpty_iff] at h
    subst h
    exact s_nil
  | .cons a b, s, W, X, sts, c, h => by
    simp only [chkSs] at h
    split at h
    · simp only [Bool.and_eq_true] at h
      exact s_cons (okS a s W X _ c h.1) (okSs b s W X _ c h.2)
    · cases h
  | .dset i e o v ss, s, W, X, sts, c, h => by
    simp only [chkSs] at h
    split at h
    · rename_i nm px fn pf y ps pa zz nm2 p2 p3 w pw rest
      simp only [Bool.and_eq_true, decide_eq_true_eq] at h
      obtain ⟨h1, h2, h3, h4, h5, h6, h7, h8⟩ := h
      subst h4
      have en : nm2 = nm := by
        have a1 := (c.c.put h1).1
        have a2 := (c.c.see h2).1
        exact Option.some.inj (a2.symm.trans a1)
      subst en
      exact s_dset hd c h3 h1 h2 (okE hd np hC e s W X _ c.c h5).1 (chk_form _ _ _ h5).1 (okE hd np hC v s W X _ c.c h6).1 (okE hd np hC o s W X _ c.c h7).1 (okSs ss s W X _ c h8)
    · cases h
end
end
end Ev
end
section
set_option maxRecDepth 100000
set_option maxHeartbeats 8000000
/-! Ev, part 19: defs, level by level. -/
namespace Ev
open PySem PySem.Spec PyProof.Rows L2
/-- what of a def is known -/
def FnFact (G : Pg) (f : Nat) (F : Fn) : Prop := ∃ (x qual : Str) (params : Arguments) (body : List Stmt) (scope : Scope) (N : List Str) (dvs : List V) (kws : List (Str × V)),
  FunD G.K x qual params body scope dvs kws (G.fa f) (G.fd f) ∧ FnScope N (G.ps f) scope ∧ N.length = F.nv ∧ F.np ≤ F.nv ∧ chkSs G.M F.body ⟨N, scope, none, false⟩ body = true ∧ (f ∈ G.M.hot → chkSs G.M F.body ⟨N, scope, none, true⟩ body = true)
section
variable {G : Pg} {n : Nat} {m : List Addr} {H : Hp} {S : Store}
theorem re_start {ds : List D} {vs : List V} {N : List Str} {nv : Nat} (hN : N.length = nv) (hl : ds.length ≤ nv) (r : RepL G m H ds vs) : RE G m H (startF nv ds) (L2.start N vs) := by
  subst hN
  have hv := r.length
  refine ⟨?_, fun i d e => ?_⟩
  · unfold startF L2.start
    simp only [List.length_append, List.length_map, List.length_replicate]
    omega
  · unfold startF at e
    unfold L2.start
    by_cases hi : i < ds.length
    · rw [List.getElem?_append_left (by simpa using hi)] at e
      rw [List.getElem?_append_left (by rw [List.length_map, ← hv]; exact hi)]
      simp only [List.getElem?_map, Option.map_eq_some_iff, Option.some.injEq, exists_eq_right] at e
      obtain ⟨v, hv2, q⟩ := r.get e
      exact ⟨v, by simp [hv2], q⟩
    · rw [List.getElem?_append_right (by simpa using hi)] at e
      rw [List.getElem?_replicate] at e
      split at e <;> cases e
theorem tidy_fin {W : WX} {fz : Bool} {r : Os} {Q : VK} (rs : RS G m H S) (h : Fin G W [] (Rep G) m H (tidy fz S (toR r)) fun _ _ _ H' v => Q v H') (hW : ∀ c d σ σ' H, W c d σ H ↔ W c d σ' H) : FinS G W m H r { nx := fun _ H' => Q .non H', rt := Q } := by
  have val : ∀ {d : D} {S' : Store}, (Fin G W [] (Rep G) m H (tidy fz S (.ok d S')) fun _ _ _ H' v => Q v H') → ∀ m' H' v, Ext m H m' H' → RS G m' H' S' → Rep G m' H' d v → Q v H' := by
    intro d S' h m' H' v x rs' rv
    simp only [tidy] at h
    split at h
    · rename_i hc
      obtain ⟨rs4, x4⟩ := rs'.drop x rs hc
      split at h
      · rename_i hb
        exact h m H' v x4 rs4 (Rep.less x.pre _ _ (by rw [rs.len]; exact hb) rv)
      · rename_i hnb
        split at h
        · split at h
          · rename_i i
            split at h
            · rename_i l el
              split at h
              · rename_i hb
                obtain ⟨p, rfl, hp⟩ := rv.ref_inv
                obtain ⟨p', hp', vs, hv, rl⟩ := rs'.cel _ _ el
                rw [hp] at hp'; cases hp'
                refine h m H' _ x4 rs4 (rep_lst ⟨fun hpm => ?_, .inl hv⟩ (RepL.less x.pre _ _ (by rw [rs.len]; exact hb) rl))
                obtain ⟨j, hj, ej⟩ := List.getElem_of_mem hpm
                have hj2 := pre_get x.pre (List.getElem?_eq_getElem hj)
                rw [ej] at hj2
                obtain ⟨l1, q1⟩ := List.getElem?_eq_some_iff.mp hj2
                obtain ⟨l2, q2⟩ := List.getElem?_eq_some_iff.mp hp
                have ij := (List.getElem_inj rs'.nd).mp (q1.trans q2.symm)
                apply hnb
                simp only [below, decide_eq_true_eq]
                rw [← rs.len, ← ij]
                exact hj
              · exact h m' H' _ x rs' rv
            · exact h m' H' _ x rs' rv
          · exact h m' H' _ x rs' rv
        · exact h m' H' _ x rs' rv
    · exact h m' H' _ x rs' rv
  cases r with
  | nx ρ S' => exact fun m' H' σ' x _ rs' => val h m' H' .non x rs' rep_non
  | rt d S' => exact fun m' H' v x rs' r => val h m' H' v x rs' r
  | bk ρ S' => exact h.elim
  | ct ρ S' => exact h.elim
  | bad => exact h.elim
  | ex c l ρ S' =>
    intro m' H' dx σ' x _ rs' xr
    rw [hW _ _ σ' []]
    simp only [toR, tidy] at h
    split at h
    · rename_i hb
      rw [Bool.and_eq_true] at hb
      obtain ⟨rs4, x4⟩ := rs'.drop x rs hb.1
      obtain ⟨us, hd1, ru, hl⟩ := xr
      exact h m H' dx x4 rs4 ⟨us, hd1, RepL.less x.pre _ _ (by rw [rs.len]; exact hb.2) ru, hl⟩
    · exact h m' H' dx x rs' xr
variable (hd : Hd G) (np : NpOk G) (xd : Xd G) (xm : XMk G) (ff : ∀ f F, G.T.fns[f]? = some F → FnFact G f F)
include hd np xd xm ff
theorem lv_succ (k : Nat) (lv : LvOk G k) (lv1 : ∀ j, k = j + 1 → LvOk G j) (lvh : LvH G k) : LvOk G (k + 1) := by
  intro f hf
  have eF := List.getElem?_eq_getElem hf
  obtain ⟨x, qual, params, body, scope, N, dvs, kws, FD, FS, hN, hnp, hchk, hhot⟩ := ff f _ eF
  refine FD.ok FS (fun vs H Q E h => h.1) fun cdv A outer s H vs Q E hr hsp => ?_
  obtain ⟨hl, m, S, ds, rs, r, h⟩ := hsp
  have W : WX := fun c d _ H => E c d H
  have c : CtxS G k (cxOf (L2N.CX G.P G.w) G.P G.w G.K G.mg G.base N qual scope (G.fa f) cdv A outer s H E) ⟨N, scope, none, false⟩ (fun c d _ H => E c d H) := {
    c := {
      prog := rfl, w := rfl, K := rfl, mg := rfl, base := rfl, N := rfl, nd := FS.nd, sc := rfl
      fn := fun _ _ _ => rfl
      tk := L2N.takes_of (X := cxOf (L2N.CX G.P G.w) G.P G.w G.K G.mg G.base N qual scope (G.fa f) cdv A outer s H E) rfl rfl rfl rfl
      cm := fun _ => ⟨rfl, hr, lv, lv1⟩
      ht := fun h => by cases h
      lvh := lvh
      rm := L2H.roomH_of hr }
    po := passes_of (X := cxOf (L2N.CX G.P G.w) G.P G.w G.K G.mg G.base N qual scope (G.fa f) cdv A outer s H E) rfl
    stk := rfl, fr := rfl, kd := FS.kind }
  refine ⟨_, okSs hd np xd xm rfl _ _ _ _ _ c hchk, m, startF (G.T.fns[f]).nv ds, S, ?_, rs, ?_⟩
  · refine re_start hN ?_ r
    rw [r.length, hl, np f _ eF]
    exact hnp
  · rw [run_succ] at h
    unfold runB at h
    rw [csOf_T, eF] at h
    simp only at h
    split at h
    · exact tidy_fin (W := fun c d _ H => E c d H) rs h fun _ _ _ _ _ => Iff.rfl
    · exact h.elim
/-- .. within an except suite -/
theorem lvH_succ (k : Nat) (lv : LvH G k) : LvH G (k + 1) := by
  intro f hm hf
  have eF := List.getElem?_eq_getElem hf
  obtain ⟨x, qual, params, body, scope, N, dvs, kws, FD, FS, hN, hnp, _, hhot⟩ := ff f _ eF
  obtain ⟨oc, od, dV, kV, doc, pm, an, cdv, ct, osl, efd, lk, hcd, _, _⟩ := FD.ex
  rw [efd] at lk ⊢
  refine L2H.fn_ofH lk hcd FS (fun vs H Q E h => h.1) fun A outer s H vs Q E p hot hr hsp => ?_
  obtain ⟨hl, m, S, ds, rs, r, h⟩ := hsp
  have W : WX := fun c d _ H => E c d H
  have c : CtxS G k (L2H.cxH (L2N.CX G.P G.w) G.P G.w G.K G.mg G.base N qual scope (G.fa f) cdv A outer s H E p) ⟨N, scope, none, true⟩ (fun c d _ H => E c d H) := {
    c := {
      prog := rfl, w := rfl, K := rfl, mg := rfl, base := rfl, N := rfl, nd := FS.nd, sc := rfl
      fn := fun _ _ _ => rfl
      tk := L2N.takes_of (X := L2H.cxH (L2N.CX G.P G.w) G.P G.w G.K G.mg G.base N qual scope (G.fa f) cdv A outer s H E p) rfl rfl rfl rfl
      cm := fun h => by cases h
      ht := fun _ => ⟨p, hot, List.mem_singleton.mpr rfl⟩
      lvh := lv
      rm := hr }
    po := passes_of (X := L2H.cxH (L2N.CX G.P G.w) G.P G.w G.K G.mg G.base N qual scope (G.fa f) cdv A outer s H E p) rfl
    stk := rfl, fr := rfl, kd := FS.kind }
  refine ⟨_, okSs hd np xd xm rfl _ _ _ _ _ c (hhot hm), m, startF (G.T.fns[f]).nv ds, S, ?_, rs, ?_⟩
  · exact re_start hN (by rw [r.length, hl, np f _ eF]; exact hnp) r
  · rw [run_succ] at h
    unfold runB at h
    rw [csOf_T, eF] at h
    simp only at h
    split at h
    · exact tidy_fin (W := fun c d _ H => E c d H) rs h fun _ _ _ _ _ => Iff.rfl
    · exact h.elim
theorem lvH_zero : LvH G 0 := by
  intro f _ hf
  refine ⟨fun vs H Q E h => h.1, fun A outer s H args us vs Q E p hr hot po e0 hb r hsp => ?_⟩
  obtain ⟨hl, m, S, ds, rs, rr, h⟩ := hsp
  rw [run_zero] at h
  exact h.elim
/-- at level 0 nothing runs -/
theorem lv_zero : LvOk G 0 := by
  intro f hf
  have eF := List.getElem?_eq_getElem hf
  obtain ⟨x, qual, params, body, scope, N, dvs, kws, FD, FS, hN, hnp, hchk, hhot⟩ := ff f _ eF
  refine ⟨fun vs H Q E h => h.1, fun A outer s H args us vs Q E hr e0 hb r hsp => ?_⟩
  obtain ⟨hl, m, S, ds, rs, rr, h⟩ := hsp
  rw [run_zero] at h
  exact h.elim
theorem lvH_all : ∀ k, LvH G k
  | 0 => lvH_zero hd np xd xm ff
  | k + 1 => lvH_succ hd np xd xm ff k (lvH_all k)
theorem lv_all : ∀ k, LvOk G k ∧ ∀ j, k = j + 1 → LvOk G j
  | 0 => ⟨lv_zero hd np xd xm ff, fun j h => by cases h⟩
  | k + 1 => by
    obtain ⟨h1, h2⟩ := lv_all k
    exact ⟨lv_succ hd np xd xm ff k h1 h2 (lvH_all hd np xd xm ff k), fun j h => by cases h; exact h1⟩
end
end Ev
end
section
set_option maxRecDepth 100000
set_option maxHeartbeats 8000000
/-! Ev, part 20: the head. -/
namespace Ev
open PySem PySem.Spec PyProof.Rows L2 He
/-- a def of the table -/
structure Ent where
  d : DefD
  N : List Str
  ps : List Str
def entD : Ent := ⟨⟨("", none), "", "", ⟨[], [], none, [], [], none, []⟩, [], ⟨.function, [], false, false, []⟩, [], []⟩, [], []⟩
def fdOf (K : PySem.W.Frag) (a : Addr) (e : FuncData) : FuncData := match K.lookup a with
  | some ⟨_, _, .func fd, _⟩ => fd
  | _ => e
def fd0 : FuncData := PySem.W.fnOf "" "" ⟨[], [], none, [], [], none, []⟩ [] ⟨.function, [], false, false, []⟩ .none .none .none .none none .none .none
def mkG (P : Program) (w : World) (K : PySem.W.Frag) (mg : Str → Option Value) (base : Heap) (M : Nm) (T : Tb) (es : List Ent) : Pg where
  P := P
  w := w
  K := K
  mg := mg
  base := base
  M := M
  T := T
  ca := fun c => ga K (M.cls.getD c "")
  xa := fun c => ga K (M.exc.getD c "")
  fa := fun f => fAd K (es.getD f entD).d.at_
  fd := fun f => fdOf K (fAd K (es.getD f entD).d.at_) fd0
  ps := fun f => (es.getD f entD).ps
/-! #### what is checked of the text alone -/
def entB (M : Nm) (F : Fn) (e : Ent) : Bool :=
  decide (e.N.length = F.nv) && (decide (F.np ≤ F.nv) && (decide (e.ps.length = F.np) && (C8.scC e.N e.ps e.d.scope && (e.d.dfl.isEmpty && chkSs M F.body ⟨e.N, e.d.scope, none, false⟩ e.d.body))))
def entsB (M : Nm) : List Fn → List Ent → Bool
  | [], [] => true
  | F :: fs, e :: es => entB M F e && entsB M fs es
  | _, _ => false
def clB (n : Nat) (C : Cl) : Bool := (match C.init with
  | some f => decide (f < n)
  | none => false) && C.mths.all fun p => decide (p.2 < n)
def hotB (M : Nm) (T : Tb) (es : List Ent) (f : Nat) : Bool := match T.fns[f]?, es[f]? with
  | some F, some e => chkSs M F.body ⟨e.N, e.d.scope, none, true⟩ e.d.body
  | _, _ => false
def textB (M : Nm) (T : Tb) (es : List Ent) : Bool :=
  entsB M T.fns es && (M.atts.all (fun x => decide (x.length < 1000)) && (decide M.atts.Nodup && (decide (M.fns.length = T.fns.length) && (decide (M.cls.length = T.cls.length) && (decide (M.exc.length = T.exc.length) && (decide (M.glb.length = T.glb.length) &&
    (T.cls.all (clB T.fns.length) && (M.kws.all (fun q => decide (q.1 < T.fns.length)) && (M.hot.all (hotB M T es) && M.mkw.all fun q => decide (q.1 < T.fns.length))))))))))
theorem entsB_get {M : Nm} : ∀ {fs : List Fn} {es : List Ent} {i : Nat} {F : Fn}, entsB M fs es = true → fs[i]? = some F → ∃ e, es[i]? = some e ∧ entB M F e = true
  | [], [], _, _, _, h => by simp at h
  | F :: fs, e :: es, 0, _, c, h => by
    simp only [entsB, Bool.and_eq_true] at c
    simp only [List.getElem?_cons_zero, Option.some.injEq] at h
    subst h
    exact ⟨e, rfl, c.1⟩
  | F :: fs, e :: es, i + 1, _, c, h => by
    simp only [entsB, Bool.and_eq_true] at c
    simp only [List.getElem?_cons_succ] at h ⊢
    exact entsB_get c.2 h
  | [], _ :: _, _, _, c, _ => by simp [entsB] at c
  | _ :: _, [], _, _, c, _ => by simp [entsB] at c
theorem entsB_len {M : Nm} : ∀ {fs : List Fn} {es : List Ent}, entsB M fs es = true → es.length = fs.length
  | [], [], _ => rfl
  | F :: fs, e :: es, c => by
    simp only [entsB, Bool.and_eq_true] at c
    exact congrArg Nat.succ (entsB_len c.2)
  | [], _ :: _, c => by simp [entsB] at c
  | _ :: _, [], c => by simp [entsB] at c
/-! #### what is checked of the written part -/
mutual
def glbB (K : PySem.W.Frag) : D → Value → Bool
  | .non, .none => true
  | .bl b, .bool c => b == c
  | .int i, .int j _ => decide (i = j)
  | .str s, .str x _ => decide (x = ⟨s.toArray⟩)
  | .tup l, .ref a => (match K.lookup a with
    | some ⟨.type c, _, .seq its _, _⟩ => decide (c = "tuple") && (decide (its.size ≤ sizeLine) && glbL K l its.toList)
    | _ => false)
  | _, _ => false
def glbL (K : PySem.W.Frag) : List D → List Value → Bool
  | [], [] => true
  | d :: l, u :: us => glbB K d u && glbL K l us
  | _, _ => false
end
def clsB (K : PySem.W.Frag) (M : Nm) (fa : Nat → Addr) (n c : Nat) (C : Cl) : Bool :=
  let x := M.cls.getD c ""
  let a := ga K x
  (Fa.glo x).ok K && ((Fa.cls x).ok K && ((Fa.mkr x).ok K && ((eqO (PySem.W.findIn K (.ref a) "__class__") (some (some (.builtin "object.__class__"))) && eqO (PySem.W.findIn K (.ref a) "__ne__") (some (some (.builtin "object.__ne__")))) && (eqO (PySem.W.specialIn K (.builtin "object.__class__") "__get__") (some (some (.builtin "getset_descriptor.__get__"))) &&
    (decide (PySem.W.takesIn K (.builtin "object.__class__") = some true) && (decide (PySem.W.mroIn K a (.type "object") = some true) && ([Bt.int, .bool, .str, .tuple, .list, .dict].all (fun t => decide (PySem.W.kitOne K (.ref a) (.type t.nm) = some false)) &&
    ((List.range n).all (fun k => decide (PySem.W.kitOne K (.ref a) (.ref (ga K (M.cls.getD k ""))) = some (c == k))) && (["NoneType", "bool", "int", "str", "tuple", "list", "dict"].all (fun n => decide (PySem.W.kitOne K (.type n) (.ref a) = some false)) &&
    (C.flds.all (fun f => (Fa.noat x (M.atts.getD f "")).ok K && decide (f < M.atts.length)) && (C.mths.all (fun p => (Fa.meth x (M.atts.getD p.1 "")).ok K && (decide (p.1 < M.atts.length) && decide (ma K a (M.atts.getD p.1 "") = fa p.2))) &&
    (match C.init with
      | some f => decide (ma K a "__init__" = fa f)
      | none => false))))))))))))
def allI {α : Type} (p : Nat → α → Bool) : Nat → List α → Bool
  | _, [] => true
  | i, x :: l => p i x && allI p (i + 1) l
theorem allI_get {α : Type} {p : Nat → α → Bool} : ∀ {l : List α} {k i : Nat} {x : α}, allI p k l = true → l[i]? = some x → p (k + i) x = true
  | [], _, _, _, _, h => by simp at h
  | y :: l, k, 0, x, c, h => by
    simp only [allI, Bool.and_eq_true] at c
    simp only [List.getElem?_cons_zero, Option.some.injEq] at h
    subst h
    exact c.1
  | y :: l, k, i + 1, x, c, h => by
    simp only [allI, Bool.and_eq_true] at c
    simp only [List.getElem?_cons_succ] at h
    have := allI_get c.2 h
    rwa [show k + 1 + i = k + (i + 1) by omega] at this
def excB (K : PySem.W.Frag) (M : Nm) (T : Tb) (c : Nat) (fs : List Nat) : Bool :=
  let x := M.exc.getD c ""
  let a := ga K x
  (Fa.glo x).ok K && (xfB K a && ((List.range T.exc.length).all (fun k => (Fa.exm x (M.exc.getD k "") ((ancOf T c).contains k)).ok K) && (fs.all (fun f => eqO (PySem.W.findIn K (.ref a) (M.atts.getD f "")) (some none) && decide (f < M.atts.length)) && ((PySem.W.clsIn K a).isSome && (eqO (PySem.W.findIn K (.ref a) "__class__") (some (some (.builtin "object.__class__"))) && (eqO (PySem.W.specialIn K (.builtin "object.__class__") "__get__") (some (some (.builtin "getset_descriptor.__get__"))) &&
    (decide (PySem.W.takesIn K (.builtin "object.__class__") = some true) && (decide (PySem.W.mroIn K a (.type "object") = some true) && (List.range T.exc.length).all (fun k => decide (PySem.W.kitOne K (.ref a) (.ref (ga K (M.exc.getD k ""))) = some ((ancOf T c).contains k)))))))))))
def headB (M : Nm) (T : Tb) (es : List Ent) (xB : PySem.W.Frag → Nat → Bool) (K : PySem.W.Frag) : Bool :=
  bltL.all (fun x => (Fa.free x).ok K) && (allI (fun (f : Nat) (x : Str) => decide (x = "") || ((Fa.glo x).ok K && decide ((es.getD f entD).d.at_ = (x, none)))) 0 M.fns && (es.all (fun e => e.d.ok K) &&
    (allI (clsB K M (fun f => fAd K (es.getD f entD).d.at_) T.cls.length) 0 T.cls && (allI (excB K M T) 0 T.exc && (allI (fun (g : Nat) (x : Str) => (match PySem.W.nsIn K mainGlobals x with
      | some (some u) => glbB K (T.glb.getD g .non) u
      | _ => false)) 0 M.glb && (K.all (fun p => !decide (p.2.cls = .type "list")) && (List.range T.exc.length).all (xB K)))))))
/-! #### the Hook -/
def obsX (chk : PySem.W.Frag → Bool) (fn : List DefD) (K : PySem.W.Frag) : AlD := (chk K, fn.map fun d => fnW K d.at_)
def asX (g : Addr → Option Obj) (n : Nat) : List Addr := cStatics :: asD g n
def obsXG (n : Nat) (chk : PySem.W.Frag → Bool) (fn : List DefD) (g : Addr → Option Obj) : AlD := obsX chk fn (frG g (asX g n))
def hookX (n : Nat) (chk : PySem.W.Frag → Bool) (fn : List DefD) : PySem.W.Hook where
  α := AlD
  obs := fun s => obsXG n chk fn s.heap.get?
  val := fun _ => valD fn
  says := fun _ h => ∃ K : PySem.W.Frag, K.In h ∧ obsX chk fn K = valD fn
  of := fun _ _ e => ⟨_, frG_in, e⟩
  keeps := fun _ _ _ ⟨K, hK, c⟩ k => ⟨K, PySem.W.Frag.In.keeps hK k, c⟩
theorem obsXG_eq {n : Nat} {chk : PySem.W.Frag → Bool} {fn : List DefD} {g : Addr → Option Obj} {s : Shared} (h : ∀ a, g a = s.heap.get? a) : obsXG n chk fn g = (hookX n chk fn).obs s := by
  have e : g = s.heap.get? := funext h
  rw [e] <;> rfl
/-- how the values of a call are bound -/
def BnP (e : Ent) : Prop := ∀ (kV doc pm : Value) (an : Option Addr) (cdv ct : Value) (us : List Value), us.length = e.ps.length → bindArgs (PySem.W.fnOf e.d.name e.d.qual e.d.params e.d.body e.d.scope .none kV doc pm an cdv ct) ⟨us, []⟩ = pure (e.ps.zip us)
def BnK (e : Ent) (n : Nat) (ks : List Str) (pmm : List Nat) : Prop := ∀ (kV doc pm : Value) (an : Option Addr) (cdv ct : Value) (us ws : List Value), us.length = n → ws.length = ks.length →
  ∃ xs, pick (us ++ ws) pmm = some xs ∧ bindArgs (PySem.W.fnOf e.d.name e.d.qual e.d.params e.d.body e.d.scope .none kV doc pm an cdv ct) ⟨us, ks.zip ws⟩ = pure (e.ps.zip xs)
def BnC (e : Ent) (n : Nat) (ks : List Str) (pmm : List Nat) : Prop := ∀ (kV doc pm : Value) (an : Option Addr) (cdv ct : Value) (z : Value) (us ws : List Value), us.length = n → ws.length = ks.length →
  ∃ xs, pick (us ++ ws) pmm = some xs ∧ bindArgs (PySem.W.fnOf e.d.name e.d.qual e.d.params e.d.body e.d.scope .none kV doc pm an cdv ct) ⟨z :: us, ks.zip ws⟩ = pure (e.ps.zip (z :: xs))
end Ev
end
section
set_option maxRecDepth 100000
set_option maxHeartbeats 8000000
/-! Ev, part 21: from the checks to the facts. -/
namespace Ev
open PySem PySem.Spec PyProof.Rows L2 He
theorem ban {a b : Bool} (h : (a && b) = true) : a = true ∧ b = true := Bool.and_eq_true_iff.mp h
mutual
theorem glb_ok {G : Pg} : ∀ (d : D) (u : Value), glbB G.K d u = true → ∃ v, RelV v u ∧ ∀ m H, Rep G m H d v
  | .non, u, h => by
    cases u <;> first | (exact ⟨.non, rfl, fun _ _ => rep_non⟩) | (simp [glbB] at h)
  | .bl b, u, h => by
    cases u with
    | bool c =>
      simp only [glbB, beq_iff_eq] at h
      subst h
      exact ⟨.bl b, rfl, fun _ _ => rep_bl⟩
    | _ => simp [glbB] at h
  | .int i, u, h => by
    cases u with
    | int j t =>
      simp only [glbB, decide_eq_true_eq] at h
      subst h
      exact ⟨.int i, ⟨t, rfl⟩, fun _ _ => rep_int⟩
    | _ => simp [glbB] at h
  | .str s, u, h => by
    cases u with
    | str x t =>
      simp only [glbB, decide_eq_true_eq] at h
      subst h
      exact ⟨.str _, ⟨t, rfl⟩, fun _ _ => rep_str⟩
    | _ => simp [glbB] at h
  | .tup l, u, h => by
    cases u with
    | ref a =>
      simp only [glbB] at h
      split at h
      · rename_i c od its n sl e
        obtain ⟨h1, h2⟩ := ban h
        obtain ⟨h3, h4⟩ := ban h2
        obtain ⟨vs, r, q⟩ := glbL_ok l its.toList h4
        exact ⟨.ref a, rfl, fun m H => rep_tup (.inr ⟨_, its, n, e, congrArg Value.type (of_decide_eq_true h1), rfl, of_decide_eq_true h3, r⟩) (q m H)⟩
      · cases h
    | _ => simp [glbB] at h
  | .lst _, u, h => by cases u <;> simp [glbB] at h
  | .ref _, u, h => by cases u <;> simp [glbB] at h
  | .obj _ _, u, h => by cases u <;> simp [glbB] at h
theorem glbL_ok {G : Pg} : ∀ (l : List D) (us : List Value), glbL G.K l us = true → ∃ vs, Vals vs us ∧ ∀ m H, RepL G m H l vs
  | [], [], _ => ⟨[], .nil, fun _ _ => RepL.nil⟩
  | d :: l, u :: us, h => by
    simp only [glbL, Bool.and_eq_true] at h
    obtain ⟨v, r, q⟩ := glb_ok d u h.1
    obtain ⟨vs, rs, qs⟩ := glbL_ok l us h.2
    exact ⟨v :: vs, .cons r rs, fun m H => RepL.cons (q m H) (qs m H)⟩
  | [], _ :: _, h => by simp [glbL] at h
  | _ :: _, [], h => by simp [glbL] at h
end
section
variable {P : Program} {w : World} {K : PySem.W.Frag} {mg : Str → Option Value} {base h : Heap} {M : Nm} {T : Tb} {es : List Ent} {xB : PySem.W.Frag → Nat → Bool}
theorem att_at {i : Nat} (hi : i < M.atts.length) : (mkG P w K mg base M T es).att i = M.atts.getD i "" := by
  have e : M.atts[i]? = some M.atts[i] := List.getElem?_eq_getElem hi
  rw [att_of (G := mkG P w K mg base M T es) (show (mkG P w K mg base M T es).M.atts[i]? = some M.atts[i] from e)]
  rw [List.getD_eq_getElem?_getD, e]; rfl
theorem getD_of {α : Type} {l : List α} {i : Nat} {x d : α} (h : l[i]? = some x) : l.getD i d = x := by
  rw [List.getD_eq_getElem?_getD, h]; rfl
theorem mem_lookup {K : PySem.W.Frag} {a : Addr} {o : Obj} (e : K.lookup a = some o) : (a, o) ∈ K := by
  induction K with
  | nil => cases e
  | cons p K ih =>
    obtain ⟨b, ob⟩ := p
    rw [List.lookup_cons] at e
    split at e
    · rename_i hb
      cases e
      rw [beq_iff_eq] at hb
      subst hb
      exact List.mem_cons_self ..
    · exact List.mem_cons_of_mem _ (ih e)
theorem look_mem {α : Type} {f : Nat} {x : α} : ∀ {l : List (Nat × α)}, lookN f l = some x → (f, x) ∈ l
  | [], h => by simp [lookN] at h
  | (g, y) :: r, h => by
    simp only [lookN] at h
    split at h
    · rename_i e
      cases h
      subst e
      exact List.mem_cons_self ..
    · exact List.mem_cons_of_mem _ (look_mem h)
/-- all that is known at the head -/
structure AllK (P : Program) (w : World) (K : PySem.W.Frag) (mg : Str → Option Value) (base h : Heap) (M : Nm) (T : Tb) (es : List Ent) (xB : PySem.W.Frag → Nat → Bool) : Prop where
  X : K.In h
  N : h.Ns mainGlobals mg
  t : textB M T es = true
  k : headB M T es xB K = true
  fnw : es.map (fun e => fnW K e.d.at_) = es.map fun e => e.d.val
theorem AllK.funD (c : AllK P w K mg base h M T es xB) {f : Nat} {e : Ent} (he : es[f]? = some e) : FunD K e.d.name e.d.qual e.d.params e.d.body e.d.scope (e.d.dvs K) (e.d.kws K) (fAd K e.d.at_) ((mkG P w K mg base M T es).fd f) := by
  have hk := c.k
  unfold headB at hk
  obtain ⟨_, hk⟩ := ban hk
  obtain ⟨_, hk⟩ := ban hk
  obtain ⟨hes, _⟩ := ban hk
  have e1 := List.all_eq_true.mp hes e (List.mem_of_getElem? he)
  have e2 : (es.map fun e => fnW K e.d.at_)[f]? = (es.map fun e => e.d.val)[f]? := by rw [c.fnw]
  rw [List.getElem?_map, List.getElem?_map, he] at e2
  obtain ⟨fd, F⟩ := DefD.funD (Option.some.inj e2) e1
  have : (mkG P w K mg base M T es).fd f = fd := by
    obtain ⟨oc, od, dV, kV, doc, pm, an, cdv, ct, osl, e3, lk, _⟩ := F.ex
    show fdOf K (fAd K (es.getD f entD).d.at_) fd0 = fd
    rw [getD_of he]
    unfold fdOf
    rw [lk]
  rw [this]
  exact F
theorem AllK.ent (c : AllK P w K mg base h M T es xB) {f : Nat} {F : Fn} (hF : T.fns[f]? = some F) : ∃ e, es[f]? = some e ∧ e.N.length = F.nv ∧ F.np ≤ F.nv ∧ e.ps.length = F.np ∧ FnScope e.N e.ps e.d.scope ∧ e.d.dfl = [] ∧ chkSs M F.body ⟨e.N, e.d.scope, none, false⟩ e.d.body = true ∧ (f ∈ M.hot → chkSs M F.body ⟨e.N, e.d.scope, none, true⟩ e.d.body = true) := by
  have ht := c.t
  unfold textB at ht
  obtain ⟨h1, ht⟩ := ban ht
  obtain ⟨_, ht⟩ := ban ht
  obtain ⟨_, ht⟩ := ban ht
  obtain ⟨_, ht⟩ := ban ht
  obtain ⟨_, ht⟩ := ban ht
  obtain ⟨_, ht⟩ := ban ht
  obtain ⟨_, ht⟩ := ban ht
  obtain ⟨_, ht⟩ := ban ht
  obtain ⟨_, ht⟩ := ban ht
  obtain ⟨hh, _⟩ := ban ht
  obtain ⟨e, he, q⟩ := entsB_get h1 hF
  unfold entB at q
  obtain ⟨q1, q⟩ := ban q
  obtain ⟨q2, q⟩ := ban q
  obtain ⟨q3, q⟩ := ban q
  obtain ⟨q4, q⟩ := ban q
  obtain ⟨q5, q6⟩ := ban q
  exact ⟨e, he, of_decide_eq_true q1, of_decide_eq_true q2, of_decide_eq_true q3, C8.fnScope_by q4, List.isEmpty_iff.mp q5, q6, fun hm => by
    have q := List.all_eq_true.mp hh f hm
    unfold hotB at q
    rw [hF, he] at q
    exact q⟩
theorem AllK.ff (c : AllK P w K mg base h M T es xB) (f : Nat) (F : Fn) (hF : (mkG P w K mg base M T es).T.fns[f]? = some F) : FnFact (mkG P w K mg base M T es) f F := by
  obtain ⟨e, he, h1, h2, h3, h4, h5, h6, h7⟩ := c.ent hF
  refine ⟨e.d.name, e.d.qual, e.d.params, e.d.body, e.d.scope, e.N, e.d.dvs K, e.d.kws K, ?_, ?_, h1, h2, h6, h7⟩
  · have := c.funD he
    show FunD K _ _ _ _ _ _ _ (fAd K (es.getD f entD).d.at_) _
    rw [getD_of he]
    exact this
  · show FnScope e.N (es.getD f entD).ps e.d.scope
    rw [getD_of he]
    exact h4
theorem AllK.np (c : AllK P w K mg base h M T es xB) : NpOk (mkG P w K mg base M T es) := fun f F hF => by
  obtain ⟨e, he, h1, h2, h3, h4, h5, h6⟩ := c.ent hF
  show (es.getD f entD).ps.length = F.np
  rw [getD_of he]
  exact h3
theorem AllK.hd (c : AllK P w K mg base h M T es xB) (bp : ∀ e ∈ es, BnP e) (bk : ∀ f n ks pm, (f, n, ks, pm) ∈ M.kws → ∀ e, es[f]? = some e → BnK e n ks pm)
    (bc : ∀ k n ks pm C f, (k, n, ks, pm) ∈ M.ckw → T.cls[k]? = some C → C.init = some f → ∀ e, es[f]? = some e → BnC e n ks pm) (bm : ∀ g n ks pm, (g, n, ks, pm) ∈ M.mkw → ∀ e, es[g]? = some e → BnC e n ks pm) : Hd (mkG P w K mg base M T es) := by
  have ht := c.t
  unfold textB at ht
  obtain ⟨t1, ht⟩ := ban ht
  obtain ⟨t2, ht⟩ := ban ht
  obtain ⟨t3, ht⟩ := ban ht
  obtain ⟨t4, ht⟩ := ban ht
  obtain ⟨t5, ht⟩ := ban ht
  obtain ⟨t6, ht⟩ := ban ht
  obtain ⟨t7, ht⟩ := ban ht
  obtain ⟨t8, ht⟩ := ban ht
  obtain ⟨t9, ht⟩ := ban ht
  obtain ⟨_, t11⟩ := ban ht
  have l4 : M.fns.length = T.fns.length := of_decide_eq_true t4
  have l5 : M.cls.length = T.cls.length := of_decide_eq_true t5
  have hk := c.k
  unfold headB at hk
  obtain ⟨k1, hk⟩ := ban hk
  obtain ⟨k2, hk⟩ := ban hk
  obtain ⟨k3, hk⟩ := ban hk
  obtain ⟨k4, hk⟩ := ban hk
  obtain ⟨k5, hk⟩ := ban hk
  obtain ⟨k6, hk⟩ := ban hk
  have clsI : ∀ {k : Nat} {C : Cl}, T.cls[k]? = some C → clsB K M (fun f => fAd K (es.getD f entD).d.at_) T.cls.length k C = true := fun {k C} h => by
    have := allI_get k4 h
    rwa [Nat.zero_add] at this
  have bind : ∀ {f : Nat} {e : Ent} {us : List Value} {kw : List (Str × Value)} {bs : List (Str × Value)} {s : Shared}, es[f]? = some e → e.d.dfl = [] → (∀ (kV doc pm : Value) (an : Option Addr) (cdv ct : Value), bindArgs (PySem.W.fnOf e.d.name e.d.qual e.d.params e.d.body e.d.scope .none kV doc pm an cdv ct) ⟨us, kw⟩ = pure bs) → BindsTo s ((mkG P w K mg base M T es).fd f) ⟨us, kw⟩ bs := fun {f e us kw bs s} he hd q => by
    have F := c.funD he
    obtain ⟨oc, od, dV, kV, doc, pm, an, cdv, ct, osl, e3, lk, _, hD, _⟩ := F.ex
    rw [e3]
    have hdv : dV = .none := by
      rcases hD with ⟨_, q⟩ | ⟨q, _⟩
      · exact q
      · exact absurd (by show e.d.dfl.map _ = []; rw [hd]; rfl) q
    rw [hdv]
    exact .of_eq (q kV doc pm an cdv ct)
  refine { cls := fun k hk => ?_, mgb := fun x hx => free_ok c.X c.N (List.all_eq_true.mp k1 x hx), atl := fun x hx => of_decide_eq_true (List.all_eq_true.mp t2 x hx), atn := of_decide_eq_true t3, fn := fun f x hx hne => ?_, fnl := fun f hf => l4 ▸ hf, pos := fun f hf => ?_, kw := fun f n ks pm hm => ?_, ckw := fun k n ks pm C f hm hC hi => ?_, mkw := fun g n ks pm hm => ?_, na := fun k f hf => ?_, glb := fun g x hx => ?_, cmg := fun k x hx => ?_, ini := fun k C hC => ?_, mak := fun k C f hC hi => ?_, mth := fun k C a f hC hl => ?_ }
  · have hk' : k < T.cls.length := hk
    have q := clsI (List.getElem?_eq_getElem hk')
    unfold clsB at q
    obtain ⟨q1, q⟩ := ban q
    obtain ⟨q2, q⟩ := ban q
    obtain ⟨q3, q⟩ := ban q
    obtain ⟨q4, q⟩ := ban q
    obtain ⟨q5, q⟩ := ban q
    obtain ⟨q6, q⟩ := ban q
    obtain ⟨q7, q⟩ := ban q
    obtain ⟨q8, q⟩ := ban q
    obtain ⟨q9, q⟩ := ban q
    obtain ⟨q10, q⟩ := ban q
    exact {
      cls := cls_ok q2, ga := eqO_ok (ban q4).1, gs := eqO_ok q5, tk := of_decide_eq_true q6, mo := of_decide_eq_true q7, neq := eqO_ok (ban q4).2
      bt := fun t => of_decide_eq_true (List.all_eq_true.mp q8 t (by cases t <;> simp))
      oc := fun j hj => of_decide_eq_true (List.all_eq_true.mp q9 j (List.mem_range.mpr hj))
      ty := fun n hn => of_decide_eq_true (List.all_eq_true.mp q10 n hn) }
  · have q := allI_get k2 hx
    rw [Nat.zero_add, Bool.or_eq_true] at q
    rcases q with q | q
    · exact absurd (of_decide_eq_true q) hne
    · obtain ⟨q1, q2⟩ := ban q
      have q2 := of_decide_eq_true q2
      have hf : f < es.length := by
        rw [entsB_len t1, ← l4]
        exact (List.getElem?_eq_some_iff.mp hx).1
      have he : es[f]? = some es[f] := List.getElem?_eq_getElem hf
      have hok := List.all_eq_true.mp k3 es[f] (List.mem_of_getElem? he)
      obtain ⟨kp, _⟩ := ban hok
      refine ⟨?_, ?_⟩
      · show mg x = some (.ref (fAd K (es.getD f entD).d.at_))
        rw [q2]
        exact glo_ok c.X c.N q1
      · show PySem.W.keepIn K (.ref (fAd K (es.getD f entD).d.at_)) = true
        rw [getD_of he]
        exact kp
  · obtain ⟨e, he, h1, h2, h3, h4, h5, h6⟩ := c.ent (List.getElem?_eq_getElem (show f < T.fns.length from hf))
    intro s us _ hl
    have hl : (us ++ []).length = (es.getD f entD).ps.length := hl
    rw [getD_of he] at hl
    show BindsTo s _ ⟨us, []⟩ ((es.getD f entD).ps.zip (us ++ []))
    rw [getD_of he]
    rw [app_nil] at hl ⊢
    exact bind he h5 fun kV doc pm an cdv ct => bp e (List.mem_of_getElem? he) kV doc pm an cdv ct us hl
  · have hf : f < T.fns.length := of_decide_eq_true (List.all_eq_true.mp t9 _ hm)
    refine ⟨hf, ?_⟩
    obtain ⟨e, he, h1, h2, h3, h4, h5, h6⟩ := c.ent (List.getElem?_eq_getElem hf)
    intro s us ws _ hl1 hl2
    obtain ⟨xs, e1, _⟩ := bk f n ks pm hm e he .none .none .none none .none .none us ws hl1 hl2
    refine ⟨xs, e1, ?_⟩
    show BindsTo s _ ⟨us, ks.zip ws⟩ ((es.getD f entD).ps.zip xs)
    rw [getD_of he]
    refine bind he h5 fun kV doc pm' an cdv ct => ?_
    obtain ⟨xs', e1', q⟩ := bk f n ks pm hm e he kV doc pm' an cdv ct us ws hl1 hl2
    rw [e1] at e1'; cases e1'
    exact q
  · have hC' := List.all_eq_true.mp t8 C (List.mem_of_getElem? hC)
    unfold clB at hC'
    rw [hi] at hC'
    obtain ⟨hf, _⟩ := ban hC'
    have hf := of_decide_eq_true hf
    obtain ⟨e, he, h1, h2, h3, h4, h5, h6⟩ := c.ent (List.getElem?_eq_getElem hf)
    intro s z us ws _ hl1 hl2
    obtain ⟨xs, e1, _⟩ := bc k n ks pm C f hm hC hi e he .none .none .none none .none .none z us ws hl1 hl2
    refine ⟨xs, e1, ?_⟩
    show BindsTo s _ ⟨z :: us, ks.zip ws⟩ ((es.getD f entD).ps.zip (z :: xs))
    rw [getD_of he]
    refine bind he h5 fun kV doc pm' an cdv ct => ?_
    obtain ⟨xs', e1', q⟩ := bc k n ks pm C f hm hC hi e he kV doc pm' an cdv ct z us ws hl1 hl2
    rw [e1] at e1'; cases e1'
    exact q
  · have hf : g < T.fns.length := of_decide_eq_true (List.all_eq_true.mp t11 _ hm)
    refine ⟨hf, ?_⟩
    obtain ⟨e, he, h1, h2, h3, h4, h5, h6⟩ := c.ent (List.getElem?_eq_getElem hf)
    intro s z us ws _ hl1 hl2
    obtain ⟨xs, e1, _⟩ := bm g n ks pm hm e he .none .none .none none .none .none z us ws hl1 hl2
    refine ⟨xs, e1, ?_⟩
    show BindsTo s _ ⟨z :: us, ks.zip ws⟩ ((es.getD g entD).ps.zip (z :: xs))
    rw [getD_of he]
    refine bind he h5 fun kV doc pm' an cdv ct => ?_
    obtain ⟨xs', e1', q⟩ := bm g n ks pm hm e he kV doc pm' an cdv ct z us ws hl1 hl2
    rw [e1] at e1'; cases e1'
    exact q
  · have hk' := cls_lt hf
    have q := clsI (List.getElem?_eq_getElem (show k < T.cls.length from hk'))
    unfold clsB at q
    obtain ⟨q1, q⟩ := ban q
    obtain ⟨q2, q⟩ := ban q
    obtain ⟨q3, q⟩ := ban q
    obtain ⟨q4, q⟩ := ban q
    obtain ⟨q5, q⟩ := ban q
    obtain ⟨q6, q⟩ := ban q
    obtain ⟨q7, q⟩ := ban q
    obtain ⟨q8, q⟩ := ban q
    obtain ⟨q9, q⟩ := ban q
    obtain ⟨q10, q⟩ := ban q
    obtain ⟨q11, q⟩ := ban q
    have hfm : f ∈ T.cls[k].flds := by
      have hf2 : (fldsOf T k).contains f = true := hf
      unfold fldsOf at hf2
      rw [List.getElem?_eq_getElem (show k < T.cls.length from hk')] at hf2
      exact List.contains_iff_mem.mp hf2
    obtain ⟨r1, r2⟩ := ban (List.all_eq_true.mp q11 f hfm)
    show NoAttr K (ga K (M.cls.getD k "")) _
    rw [att_at (of_decide_eq_true r2)]
    exact noat_ok r1
  · have q := allI_get k6 hx
    rw [Nat.zero_add] at q
    have hg : g < T.glb.length := by
      rw [← of_decide_eq_true t7]
      exact (List.getElem?_eq_some_iff.mp hx).1
    refine ⟨T.glb[g], List.getElem?_eq_getElem hg, ?_⟩
    rw [getD_of (List.getElem?_eq_getElem hg)] at q
    split at q
    · rename_i u e
      obtain ⟨v, r, rp⟩ := glb_ok (G := mkG P w K mg base M T es) T.glb[g] u q
      exact ⟨u, v, PySem.W.mg_of c.X c.N e, r, rp⟩
    · cases q
  · have hk' : k < T.cls.length := by
      rw [← l5]
      exact (List.getElem?_eq_some_iff.mp hx).1
    refine ⟨hk', ?_⟩
    have q := clsI (List.getElem?_eq_getElem hk')
    unfold clsB at q
    obtain ⟨q1, q⟩ := ban q
    have hx' : M.cls[k]? = some x := hx
    show mg x = some (.ref (ga K (M.cls.getD k "")))
    have e := getD_of (d := ("" : Str)) hx'
    rw [e] at q1 ⊢
    exact glo_ok c.X c.N q1
  · have hC' := List.all_eq_true.mp t8 C (List.mem_of_getElem? hC)
    unfold clB at hC'
    obtain ⟨hf, _⟩ := ban hC'
    cases hi : C.init with
    | none => rw [hi] at hf; cases hf
    | some f => exact ⟨f, rfl⟩
  · have hC' := List.all_eq_true.mp t8 C (List.mem_of_getElem? hC)
    unfold clB at hC'
    rw [hi] at hC'
    obtain ⟨hf, _⟩ := ban hC'
    have hf := of_decide_eq_true hf
    refine ⟨hf, ?_⟩
    have q := clsI hC
    unfold clsB at q
    obtain ⟨q1, q⟩ := ban q
    obtain ⟨q2, q⟩ := ban q
    obtain ⟨q3, q⟩ := ban q
    obtain ⟨q4, q⟩ := ban q
    obtain ⟨q5, q⟩ := ban q
    obtain ⟨q6, q⟩ := ban q
    obtain ⟨q7, q⟩ := ban q
    obtain ⟨q8, q⟩ := ban q
    obtain ⟨q9, q⟩ := ban q
    obtain ⟨q10, q⟩ := ban q
    obtain ⟨q11, q⟩ := ban q
    obtain ⟨q12, q13⟩ := ban q
    rw [hi] at q13
    have := mkr_ok q3
    rw [of_decide_eq_true q13] at this
    exact this
  · have q := clsI hC
    unfold clsB at q
    obtain ⟨q1, q⟩ := ban q
    obtain ⟨q2, q⟩ := ban q
    obtain ⟨q3, q⟩ := ban q
    obtain ⟨q4, q⟩ := ban q
    obtain ⟨q5, q⟩ := ban q
    obtain ⟨q6, q⟩ := ban q
    obtain ⟨q7, q⟩ := ban q
    obtain ⟨q8, q⟩ := ban q
    obtain ⟨q9, q⟩ := ban q
    obtain ⟨q10, q⟩ := ban q
    obtain ⟨q11, q⟩ := ban q
    obtain ⟨q12, q13⟩ := ban q
    have hm := look_mem hl
    have hC' := List.all_eq_true.mp t8 C (List.mem_of_getElem? hC)
    unfold clB at hC'
    obtain ⟨_, hms⟩ := ban hC'
    refine ⟨of_decide_eq_true (List.all_eq_true.mp hms (a, f) hm), ?_⟩
    obtain ⟨r1, r⟩ := ban (List.all_eq_true.mp q12 (a, f) hm)
    obtain ⟨r2, r3⟩ := ban r
    show Meth K (ga K (M.cls.getD k "")) _ _
    rw [att_at (of_decide_eq_true r2)]
    have := meth_ok r1
    rw [of_decide_eq_true r3] at this
    exact this
theorem AllK.xd (c : AllK P w K mg base h M T es xB) : Xd (mkG P w K mg base M T es) := by
  have ht := c.t
  unfold textB at ht
  obtain ⟨t1, ht⟩ := ban ht
  obtain ⟨t2, ht⟩ := ban ht
  obtain ⟨t3, ht⟩ := ban ht
  obtain ⟨t4, ht⟩ := ban ht
  obtain ⟨t5, ht⟩ := ban ht
  obtain ⟨t6, ht⟩ := ban ht
  have l6 : M.exc.length = T.exc.length := of_decide_eq_true t6
  have hk := c.k
  unfold headB at hk
  obtain ⟨k1, hk⟩ := ban hk
  obtain ⟨k2, hk⟩ := ban hk
  obtain ⟨k3, hk⟩ := ban hk
  obtain ⟨k4, hk⟩ := ban hk
  obtain ⟨k5, hk⟩ := ban hk
  have excI : ∀ {k : Nat} {fs : List Nat}, T.exc[k]? = some fs → excB K M T k fs = true := fun {k fs} h => by
    have := allI_get k5 h
    rwa [Nat.zero_add] at this
  have kxI : ∀ {k : Nat}, k < T.exc.length → ExK K (ga K (M.exc.getD k "")) ∧ ∀ j, j < T.exc.length → PySem.W.kitOne K (.ref (ga K (M.exc.getD k ""))) (.ref (ga K (M.exc.getD j ""))) = some ((ancOf T k).contains j) := fun {k} hk => by
    have q := excI (List.getElem?_eq_getElem hk)
    unfold excB at q
    obtain ⟨_, q⟩ := ban q
    obtain ⟨_, q⟩ := ban q
    obtain ⟨_, q⟩ := ban q
    obtain ⟨_, q⟩ := ban q
    obtain ⟨q5, q⟩ := ban q
    obtain ⟨q6, q⟩ := ban q
    obtain ⟨q7, q⟩ := ban q
    obtain ⟨q8, q⟩ := ban q
    obtain ⟨q9, q10⟩ := ban q
    exact ⟨⟨q5, eqO_ok q6, eqO_ok q7, of_decide_eq_true q8, of_decide_eq_true q9⟩, fun j hj => of_decide_eq_true (List.all_eq_true.mp q10 j (List.mem_range.mpr hj))⟩
  refine { mg := fun k x hx => ?_, exm := fun k j hk hj => ?_, kx := fun k hk => (kxI hk).1, kit := fun k j hk hj => (kxI hk).2 j hj, xf := fun k hk => ?_ }
  · have hx' : M.exc[k]? = some x := hx
    have hk' : k < T.exc.length := by
      rw [← l6]
      exact (List.getElem?_eq_some_iff.mp hx').1
    have q := excI (List.getElem?_eq_getElem hk')
    unfold excB at q
    obtain ⟨q1, q⟩ := ban q
    refine ⟨?_, hk'⟩
    show mg x = some (.ref (ga K (M.exc.getD k "")))
    have e := getD_of (d := ("" : Str)) hx'
    rw [e] at q1 ⊢
    exact glo_ok c.X c.N q1
  · have q := excI (List.getElem?_eq_getElem (show k < T.exc.length from hk))
    unfold excB at q
    obtain ⟨q1, q⟩ := ban q
    obtain ⟨q2, q⟩ := ban q
    obtain ⟨q3, q⟩ := ban q
    exact exm_ok (List.all_eq_true.mp q3 j (List.mem_range.mpr hj))
  · have hk' : k < T.exc.length := hk
    have q := excI (List.getElem?_eq_getElem hk')
    unfold excB at q
    obtain ⟨q1, q⟩ := ban q
    obtain ⟨q2, q⟩ := ban q
    obtain ⟨q3, q⟩ := ban q
    obtain ⟨q4, q⟩ := ban q
    refine ⟨xfB_ok q2, fun f hf => ?_⟩
    have hf' : f ∈ T.exc[k] := by
      have : f ∈ T.exc.getD k [] := hf
      rwa [getD_of (List.getElem?_eq_getElem hk')] at this
    obtain ⟨r1, r2⟩ := ban (List.all_eq_true.mp q4 f hf')
    show PySem.W.findIn K (.ref (ga K (M.exc.getD k ""))) _ = _
    rw [att_at (of_decide_eq_true r2)]
    exact eqO_ok r1
theorem AllK.noL (c : AllK P w K mg base h M T es xB) : ∀ a o, K.lookup a = some o → o.cls ≠ .type "list" := by
  have hk := c.k
  unfold headB at hk
  obtain ⟨k1, hk⟩ := ban hk
  obtain ⟨k2, hk⟩ := ban hk
  obtain ⟨k3, hk⟩ := ban hk
  obtain ⟨k4, hk⟩ := ban hk
  obtain ⟨k5, hk⟩ := ban hk
  obtain ⟨k6, hk⟩ := ban hk
  obtain ⟨k7, hk⟩ := ban hk
  intro a o e hc
  have hm : (a, o) ∈ K := mem_lookup e
  have := List.all_eq_true.mp k7 (a, o) hm
  simp only [hc, decide_true, Bool.not_true] at this
  cases this
theorem AllK.xbs (c : AllK P w K mg base h M T es xB) : ∀ k, k < T.exc.length → xB K k = true := by
  have hk := c.k
  unfold headB at hk
  obtain ⟨k1, hk⟩ := ban hk
  obtain ⟨k2, hk⟩ := ban hk
  obtain ⟨k3, hk⟩ := ban hk
  obtain ⟨k4, hk⟩ := ban hk
  obtain ⟨k5, hk⟩ := ban hk
  obtain ⟨k6, hk⟩ := ban hk
  obtain ⟨k7, k8⟩ := ban hk
  exact fun k hk => List.all_eq_true.mp k8 k (List.mem_range.mpr hk)
end
/-! #### the law -/
/-- the script stands -/
theorem rep_script {G : Pg} {H : Hp} {a : Addr} {ns : List Int} (hS : SqL G.K H a (ns.map V.int)) (no : ∀ a o, G.K.lookup a = some o → o.cls ≠ .type "list") : Rep G [] H (.lst (ns.map .int)) (.ref a) := by
  rcases hS with h | ⟨o, its, n, e, hc, _⟩
  · exact rep_lst ⟨by simp, h⟩ (repInts ns)
  · exact absurd hc (no a o e)
theorem rs_nil {G : Pg} {H : Hp} : RS G [] H [] := ⟨rfl, List.nodup_nil, fun n c e => by simp at e⟩
/-- what is asked of the evaluator -/
def Asked (T : Tb) (n f : Nat) : Prop := ∀ ns : List Int, ns.length ≤ 63 → ∃ S, run T n f [.lst (ns.map .int)] [] = .ok (.bl true) S
theorem law_sp {G : Pg} {n f : Nat} (hps : (G.ps f).length = 1) (no : ∀ a o, G.K.lookup a = some o → o.cls ≠ .type "list") (hA : Asked G.T n f) (H : Hp) (a : Addr) (ns : List Int) (hl : ns.length ≤ 63) (hS : SqL G.K H a (ns.map V.int)) :
    spF G n f [.ref a] H (fun v _ => v = .bl true) fun _ _ _ => False := by
  refine ⟨hps.symm, [], [], [.lst (ns.map .int)], rs_nil, RepL.cons (rep_script hS no) RepL.nil, ?_⟩
  obtain ⟨S, e⟩ := hA ns hl
  rw [e]
  exact fun m' H' v _ _ r => r.bl_inv
end Ev
end
section
set_option maxRecDepth 100000
set_option maxHeartbeats 8000000
/-! Ev, part 22: an own exception is made: its __init__ hands the value to ValueError and keeps it. -/
namespace Ev
open PySem PySem.Spec PyProof.Rows PySem.Calls
open PySem.W (kxs_mw KxsFacts kxs_ValueError kxs_getMethod kxs_callWith KxsAt ks_superIn fnX envX excInitIn)
/-- the two statements of such an __init__ -/
def initB (v f : Str) : List Stmt → Bool
  | [.Expr (.Call (.Attribute (.Call (.Name a _) [] [] _) b q) [.Name c _] [] r) _, .Assign [.Attribute (.Name d _) e _] (.Name g _) _] =>
    decide (a = "super") && (decide (b = "__init__") && ((q.endLine == r.line) && (decide (c = v) && (decide (d = "self") && (decide (e = f) && decide (g = v))))))
  | _ => false
/-- the scope of such an __init__ -/
def initS (v : Str) (sc : Scope) : Bool :=
  decide (sc.kind = .function) && (!sc.isCoroutine && (!sc.isGenerator && (sc.names.all (fun y => !decide (y.2 = .cell)) && (decide (sc.names.lookup ("self" : Str) = some .local) && (decide (sc.names.lookup v = some .local) && (decide (sc.names.lookup ("super" : Str) = some .globalImplicit) &&
    (decide (sc.names.lookup ("__class__" : Str) = some .free) && (!(v == ("__debug__" : Str)) && !(v == ("self" : Str))))))))))
/-- its parameters: self, v -/
def initP (v : Str) (p : Arguments) : Bool := match p with
  | ⟨[], [a, b], none, [], [], none, []⟩ => decide (a.arg = "self") && decide (b.arg = v)
  | _ => false
theorem bind_two {name qual v : Str} {p : Arguments} {body : List Stmt} {scope : Scope} {cl : List (Str × Addr)} {kV doc pm cdv ct : Value} {an : Option Addr} {a u : Value} (h : initP v p = true) (hv : (v == ("self" : Str)) = false) :
    bindArgs (fnX name qual p body scope cl .none kV doc pm an cdv ct) ⟨[a, u], []⟩ = pure [(("self" : Str), a), (v, u)] := by
  unfold initP at h
  split at h
  · rename_i x y
    simp only [Bool.and_eq_true, decide_eq_true_eq] at h
    obtain ⟨h1, h2⟩ := h
    obtain ⟨xa, xn, xp, xt⟩ := x
    obtain ⟨ya, yn, yp, yt⟩ := y
    simp only at h1 h2
    subst h1 h2
    unfold bindArgs
    simp [seqItems?, List.lookup, hv]
    rfl
  · cases h
/-- an exception, its dict -/
abbrev xob (C t0 : Addr) (dd : Option Addr) : Obj := { cls := .ref C, dict := dd, data := .fields #[.ref t0, .none, .none, .none, .bool false, .none] }
section
variable {prog : Program} {w : World} {A : Around} {E : Value → Shared → Prop} {h : Heap} {g : Array GenState} {d : Drawn} {t : Nat} {os : OsState}
variable {nm q : Str} {C N : Addr} {bs bm : List Value} {hdct : Bool} {sn : List Str} {sub : List Value} {ab : Bool} {col : Option Bool} {dd : Option Addr} {k0 k1 k2 k3 k5 : Option Value}
/-- ValueError.__init__, bound, called -/
theorem call_mw {u e t0 : Addr} {rest : List Value} {Q : Value → Shared → Prop} (hC : h.get? C = some (excClassObj nm q C N bs bm hdct sn sub ab col dd k0 k1 k2 k3 k5 "ValueError.__new__")) (he : h.get? e = some (xob C t0 none)) (hu : h.get? u = some (kxs_mw "ValueError.__init__" e)) (hrest : rest.length ≤ sizeLine)
    (hq : ∀ h' t1, (∀ b o, b ≠ e → h.get? b = some o → h'.get? b = some o) → h'.get? e = some (xob C t1 none) → Q .none ⟨h', g, d, t, os⟩) :
    wpAny (model prog w) A (call (.ref u) rest) Q E ⟨h, g, d, t, os⟩ := by
  have FB := F.excBase_ValueError
  refine wpAny_call (codeAny_of_tree ?_)
  show wpAny _ A.in1 (callAny (.ref u) ⟨rest, []⟩) _ _ _
  simp only [callAny]
  refine wpAny_bind (wpAny_load hu ?_)
  simp only [kxs_mw, show (Value.type "method-wrapper" == Value.type "method" || Value.type "method-wrapper" == Value.type "builtin_function_or_method" || Value.type "method-wrapper" == Value.type "method-wrapper") = true by decide, if_true]
  refine PySem.W.KFB.if_so (by decide) ?_
  refine wpAny_bind (PySem.W.check_bound_init FB.toExcCallFacts hC he rfl ?_)
  refine wpAny_bind (wpAny_pure (wpAny_pure ?_))
  refine ⟨plainId_quiet FB.init.plain _, codeAny_builtin FB.initEntry ?_⟩
  exact PySem.W.exc_init_tree (cls := .ref C) (t0 := t0) (dv := none) (c2 := .none) (c3 := .none) (b4 := .bool false) he hrest fun h' k e' _ => hq h' _ k e'
end
/-- what of such a class and its __init__ is known -/
structure ExI (P : Program) (K : PySem.W.Frag) (C fI cc cda : Addr) (v f qual : Str) (params : Arguments) (body : List Stmt) (scope : Scope) (cdv : Value) (fd : FuncData) : Prop where
  fnK : ∃ oc od osl name kV doc pm an ct, fd = fnX name qual params body scope [("__class__", cc)] .none kV doc pm an cdv ct ∧ K.lookup fI = some ⟨oc, od, .func fd, osl⟩
  code : PySem.W.codeIn K cdv qual = true
  cda : cdv = .ref cda ∧ ∃ ccl cdd vs ccs file tf, K.lookup cda = some ⟨ccl, cdd, .fields vs, ccs⟩ ∧ vs[2]? = some (.str file tf) ∧ ((P.main.file : Str) == file) = true
  cell : ∃ cl cld csl, K.lookup cc = some ⟨cl, cld, .cell (some (.ref C)), csl⟩
  ex : excInitIn K C He.veBase "ValueError.__new__" = true
  mro : ∃ cd, PySem.W.clsIn K C = some cd ∧ PySem.HandSPX.refsVE cd.mro = true ∧ cd.hasDict = true
  self : PySem.W.mroIn K C (.ref C) = some true
  sup : ks_superIn K C C "__init__" = some (some (.builtin "ValueError.__init__"))
  ve : PySem.W.subIn K (.ref C) (.type "ValueError") = some true
  sg : PySem.W.nsIn K mainGlobals "super" = some none
  st : PySem.W.nsIn K cStatics "thirdparty.any" = some none
  sa : PySem.W.findIn K (.ref C) "__setattr__" = some (some (.builtin "object.__setattr__"))
  no : PySem.W.findIn K (.ref C) f = some none
  pr : initP v params = true
  bd : initB v f body = true
  sc : initS v scope = true
  top : (P.main.scope.names.lookup ("super" : Str)).isSome = false
section
variable {P : Program} {w : World} {A : Around} {K : PySem.W.Frag} {C fI cc cda : Addr} {v f qual : Str} {params : Arguments} {body : List Stmt} {scope : Scope} {cdv : Value} {fd : FuncData} {R : Result → Shared → Prop} {s : Shared} {a t0 : Addr} {u : Value} {mg mb : Str → Option Value}
theorem init_run (X : ExI P K C fI cc cda v f qual params body scope cdv fd) (KX : K.In s.heap) (hroom : A.depth < recursionLimit) (hlim : s.heap.NoLimit) (hg : s.heap.Ns mainGlobals mg) (hb : s.heap.Ns builtinsNs mb) (hbb : ∀ x : Str, x ≠ "__name__" → mb x = bootBuiltins x)
    (ha : s.heap.get? a = some (xob C t0 none)) (haK : K.lookup a = none)
    (hq : ∀ h' tk' dx t1, (∀ b o, b ≠ a → s.heap.get? b = some o → h'.get? b = some o) → s.heap.get? dx = none → dx ≠ a → h'.get? a = some (xob C t1 (some dx)) → h'.Ns1 dx (fun y => if y = f then some u else none) → R (.ok (.ret .none)) { s with heap := h', toks := tk' }) :
    codeAny (model P w) A (.call (.ref fI) ⟨[.ref a, u], []⟩) R s := by
  obtain ⟨oc, od, osl, name, kV, doc, pm, an, ct, efd, lk⟩ := X.fnK
  obtain ⟨ecd, ccl, cdd, vs, ccs, file, tf, lcd, hvs, hfile⟩ := X.cda
  obtain ⟨cl, cld, csl, lcell⟩ := X.cell
  obtain ⟨cd, hcd, hmro, hhd⟩ := X.mro
  have sc := X.sc
  unfold initS at sc
  simp only [Bool.and_eq_true, Bool.not_eq_true', decide_eq_true_eq] at sc
  obtain ⟨sk, sco, sge, sce, sse, sv, ssu, scl, sdb, sne⟩ := sc
  have hkind : ∀ {x : Str} {L : Addr}, (callEnv fd L fI).kindOf x = scope.names.lookup x := fun {x L} => by subst efd; rfl
  have hcell : ∀ x ∈ fd.scope.names, x.2 ≠ .cell := by
    subst efd
    intro x hx e
    have := List.all_eq_true.mp sce x hx
    simp [e] at this
  refine ks_codeAny_call_defAt (fd := fd) (body := body) (binds := [(("self" : Str), .ref a), (v, u)]) hroom (KX _ _ lk) rfl hlim (by subst efd; exact PySem.W.codeRec_of KX X.code) (by subst efd; rfl) (.of_eq (by subst efd; exact bind_two X.pr sne)) hcell ?_ (fun h₁ hns hk => ?_) (by subst efd; exact sco) (by subst efd; exact sge) (by subst efd; exact sk)
  · intro x hx
    subst efd
    simp only [List.mem_cons, List.not_mem_nil, or_false] at hx
    rcases hx with rfl | rfl
    · exact sse
    · exact sv
  -- the body's two statements
  have hbd := X.bd
  unfold initB at hbd
  split at hbd
  case h_2 => cases hbd
  rename_i nsup p0 p1 nini p2 nv p3 p4 p5 nself p6 nf p7 nv2 p8 p9
  simp only [Bool.and_eq_true, decide_eq_true_eq] at hbd
  obtain ⟨e1, e2, hline, e3, e4, e5, e6⟩ := hbd
  subst e1 e2 e3 e4 e5 e6
  obtain ⟨ar, hpar, har⟩ : ∃ ar, (params.posonlyargs ++ params.args).head? = some ar ∧ ar.arg = ("self" : Str) := by
    have hp := X.pr
    unfold initP at hp
    split at hp
    · rename_i x y
      simp only [Bool.and_eq_true, decide_eq_true_eq] at hp
      exact ⟨x, rfl, hp.1⟩
    · cases hp
  obtain ⟨hh, gg, dr, tk, os⟩ := s
  have K1 : K.In h₁ := fun b o e => hk b o (KX b o e)
  have ha1 : h₁.get? a = some (xob C t0 none) := hk _ _ ha
  have hv1 : ([(("self" : Str), Value.ref a), (nv2, u)] : List (Str × Value)).reverse.lookup ("self" : Str) = some (.ref a) := by
    simp [List.lookup, show (("self" : Str) == nv2) = false from by rw [beq_eq_false_iff_ne] at sne ⊢; exact fun z => sne z.symm]
  have hv2 : ([(("self" : Str), Value.ref a), (nv2, u)] : List (Str × Value)).reverse.lookup nv2 = some u := by
    simp [List.lookup]
  have hsz : ∀ b o, hh.get? b = some o → b ≠ hh.objs.size := fun b o e => Nat.ne_of_lt (Heap.lt_size e)
  refine ks_wpAt_execs_cons (ks_wpAt_Expr_any (ks_wpAt_MethodCall (pl := do return (← importBound (.Call (.Name "super" p0) [] [] p1) (callEnv fd hh.objs.size fI)).getD true) (ks_wpAt_super_base (ar := ar) (file := file) (tf := tf) (by rw [hkind]; exact ssu) (by rw [hkind]; exact scl) rfl (by subst efd; rfl) (hk _ _ (KX _ _ lk)) rfl (by subst efd; exact hpar) (by subst efd; exact ecd) (hk _ _ (KX _ _ lcd)) rfl hvs hfile X.top ?sup) ?tree) ?int rfl)
  case int =>
    subst efd
    simp only [interactive, callEnv, newEnv, sk]
    rfl
  case tree =>
    rw [arm_eval_Call]
    have e : ∀ ov, methodCall (.Call (.Name "super" p0) [] [] p1) "__init__" p2 p4 (callEnv fd hh.objs.size fI) ov ([Expr.Name nv2 p3].length + ([] : List Keyword).length) (backTo p4 (starEach [Expr.Name nv2 p3] (callEnv fd hh.objs.size fI))) (backToKw p4 (keywordEach [] (callEnv fd hh.objs.size fI))) = (do
        let (f, first) ← holding [ov] (getMethod ov "__init__" (do return (← importBound (.Call (.Name "super" p0) [] [] p1) (callEnv fd hh.objs.size fI)).getD true))
        callWith p4 f first (backTo p4 (starEach [Expr.Name nv2 p3] (callEnv fd hh.objs.size fI))) []) := fun ov => by
      unfold methodCall methodCallPos calleeOf
      have hform : methodCallForm ([Expr.Name nv2 p3].length + ([] : List Keyword).length) (backTo p4 (starEach [Expr.Name nv2 p3] (callEnv fd hh.objs.size fI))) (backToKw p4 (keywordEach [] (callEnv fd hh.objs.size fI))) = true := rfl
      rw [hform]
      simp only [hline, Bool.not_true, Bool.false_or, if_true, pure_bind]
      rfl
    exact bind_congr fun ov => bind_congr fun _ => e ov
  case sup =>
    have hkf : (callEnv fd hh.objs.size fI).scope.kind = .function := by subst efd; exact sk
    have hgl : (callEnv fd hh.objs.size fI).globals = mainGlobals := by subst efd; rfl
    have hbl : (callEnv fd hh.objs.size fI).builtins = builtinsNs := by subst efd; rfl
    have hlo : (callEnv fd hh.objs.size fI).locals = hh.objs.size := by subst efd; rfl
    have hce : (callEnv fd hh.objs.size fI).cells = [(("__class__" : Str), cc)] := by subst efd; rfl
    have nsK : ∀ {b : Addr} {m : Str → Option Value}, hh.Ns b m → h₁.Ns b m := fun {b m} ⟨o, es, ep, e, d, r⟩ => ⟨o, es, ep, hk _ _ e, d, r⟩
    refine PySem.W.ks_loadName_global hkf (by rw [hkind]; exact ssu) (loadGlobal_builtin (by rw [hgl]; exact nsK hg) (PySem.W.mg_none_of KX hg X.sg) (by rw [hbl]; exact nsK hb) ((hbb _ (by decide +kernel)).trans (by rfl)) ⟨rfl, ?_⟩)
    refine wpAny_loadName_free hkf (by rw [hkind]; exact scl) (c := cc) (by rw [hce]; rfl) ⟨_, K1 _ _ lcell, rfl⟩ ?_
    rw [har]
    refine wpAny_loadName_local hkf (by rw [hkind]; exact sse) (by rw [hlo]; exact hns) hv1 ?_
    obtain ⟨nmC, NC, qnC, bsC, bmC, hdctC, snC, subC, abC, colC, ddC, k0, k1, k2, k3, k5, hCo, hT⟩ := PySem.W.excInit_of K1 X.ex
    refine ks_wpAny_isType_cls hCo rfl ⟨rfl, ?_⟩
    refine ks_wpAny_call_super hCo rfl ha1 rfl (fun c e => by cases e) (PySem.W.looks_mroIn K1 X.self) (fun h2 e2 k2 => ?_)
    have K2 : K.In h2 := fun b o e => k2 b o (K1 b o e)
    have I2 : PySem.W.InstAt h2 a (xob C t0 none) C none := ⟨k2 _ _ ha1, rfl, rfl, trivial⟩
    have hsup := X.sup
    unfold ks_superIn at hsup
    rw [hcd, Option.bind_some] at hsup
    refine kxs_getMethod kxs_ValueError e2 (PySem.W.looks_opaque K2 X.st) (l₀ := cd.mro) (fun A Q E s k q => wpAny_bind ((PySem.W.looks_clsIn K2 hcd) A _ E s k (wpAny_pure q))) rfl K2 hsup (I2.type.andThen (PySem.W.looks_subIn K2 X.ve)) (PySem.W.ks_ne K2 I2 hcd) rfl ?_
    have k3 : ∀ b o, h₁.get? b = some o → (h2.push (kxs_mw "ValueError.__init__" a)).get? b = some o := fun b o e => Heap.get?_push_of_some _ (k2 b o e)
    have hns3 : (h2.push (kxs_mw "ValueError.__init__" a)).Ns hh.objs.size fun x => ([(("self" : Str), Value.ref a), (nv2, u)] : List (Str × Value)).reverse.lookup x := by
      obtain ⟨o, es, ep, e, d, r⟩ := hns
      exact ⟨o, es, ep, k3 _ _ e, d, r⟩
    have hu3 : (h2.push (kxs_mw "ValueError.__init__" a)).get? h2.objs.size = some (kxs_mw "ValueError.__init__" a) := Heap.get?_push_size _ rfl
    have hlc : ∀ {x : Str}, scope.names.lookup x = some .local → (callEnv fd hh.objs.size fI).kindOf x = some .local := fun {x} e => by rw [hkind]; exact e
    refine kxs_callWith (i := "ValueError.__init__") (x := a) rfl (evalArgs_plain ?_)
    refine Calls.spliced_cons (wpAny_Name (wpAny_loadName_local hkf (hlc sv) (by rw [hlo]; exact hns3) hv2 ?_) sdb)
    refine Calls.spliced_nil ⟨hu3, ?_⟩
    refine call_mw (k3 _ _ hCo) (k3 _ _ ha1) hu3 (by show 1 ≤ sizeLine; decide) fun h4 t1 k4 ha4 => ?_
    have k14 : ∀ b o, b ≠ a → h₁.get? b = some o → h4.get? b = some o := fun b o n e => k4 b o n (k3 b o e)
    have aK : ∀ b o, K.lookup b = some o → b ≠ a := fun b o e z => by rw [z, haK] at e; cases e
    have K4 : K.In h4 := fun b o e => k14 b o (aK b o e) (K1 b o e)
    have hns4 : h4.Ns hh.objs.size fun x => ([(("self" : Str), Value.ref a), (nv2, u)] : List (Str × Value)).reverse.lookup x := by
      obtain ⟨o, es, ep, e, d, r⟩ := hns3
      exact ⟨o, es, ep, k4 _ _ (fun z => hsz _ _ ha z.symm) e, d, r⟩
    refine ks_wpAt_execs_cons (ks_wpAt_Assign_Attr (wpAt_of_wpAny (wpAny_Name (wpAny_loadName_local hkf (hlc sv) (by rw [hlo]; exact hns4) hv2 ?_) sdb)) rfl)
    refine wpAny_Name (wpAny_loadName_local hkf (hlc sse) (by rw [hlo]; exact hns4) hv1 ?_) (by decide)
    refine PySem.W.set_plain K4 (ox := xob C t1 none) (od := none) ⟨ha4, rfl, rfl, trivial⟩ X.sa (PySem.HandSPX.exc_osa K4 ha4 hcd hmro hhd X.no fun h5 tk5 dx k5 hdx dne hx5 hn5 => ?_)
    have k05 : ∀ b o, b ≠ a → hh.get? b = some o → h5.get? b = some o := fun b o n e => k5 b o n (k14 b o n (hk b o e))
    have hdx0 : hh.get? dx = none := by
      cases e : hh.get? dx with
      | none => rfl
      | some o => exact absurd (Heap.lt_size (k14 _ _ dne (hk _ _ e))) (Nat.not_lt.mpr hdx)
    exact wpAt_of_wpAny (wpAny_execs_nil (hq h5 tk5 dx t1 k05 hdx0 dne hx5 hn5))
end
section
open L2
variable {X : Cx} {C fI cc cda : Addr} {v f qual : Str} {params : Arguments} {body : List Stmt} {scope : Scope} {cdv : Value} {fd : FuncData}
/-- X(e) -/
theorem pmk_x {nm : Str} {es : List Expr} {p pos : Pos} {t : TA} (x : ExI X.prog X.K C fI cc cda v f qual params body scope cdv fd) (iC : PySem.W.findIn X.K (.ref C) "__init__" = some (some (.ref fI))) (tI : PySem.W.typeIn X.K (.ref fI) = some (.type "function"))
    (exC : PySem.W.subIn X.K (.ref C) (.type "BaseException") = some true) (tyC : PySem.W.typeIn X.K (.ref C) = some (.type "type")) (kC : PySem.W.keepIn X.K (.ref C) = true) (hr : X.A.depth + 1 < recursionLimit) (hg : Gl X nm) (hm : X.mg nm = some (.ref C)) (hdb : (nm == ("__debug__" : Str)) = false)
    (hst : es.all noStar = true) (ha : PA X es t) (h0 : es = [] → ∀ σ H Q, t σ H Q → Q [] H) {R : List V → Hp → XK → Prop} (hR : ∀ vs H1 Q, R vs H1 Q → ∃ y, vs = [y] ∧ ∀ dx, H1 dx = none → Q (.ref C) (some dx) (upd H1 dx (.xd [(f, y)]))) :
    L2N.PMk X (.Call (.Name nm p) es [] pos) (fun σ H Q => t σ H fun vs H1 => R vs H1 Q) := by
  intro pins s σ H Q I h
  refine wpAny_Call_Name_kw (ld_glob I hg hm ?_ hdb)
  cases es with
  | nil =>
    obtain ⟨y, hy, _⟩ := hR _ _ _ (h0 rfl σ H _ h)
    cases hy
  | cons e es =>
    have hs := hst
    simp only [List.all_cons, Bool.and_eq_true] at hs
    refine PySem.W.callWith_K (h₀ := X.base) I.ok.mod.kin kC (thn (ha.run pos pins s σ H _ I h) fun us s1 ⟨vs, H1, I1, r1, q0⟩ => ⟨I1.kIn, ?_⟩) (star_of hs.1) (any_star hs.2)
    obtain ⟨y, hy, q1⟩ := hR _ _ _ q0
    subst hy
    obtain ⟨u, rfl, ru⟩ : ∃ u, us = [u] ∧ RelV y u := by
      cases r1 with
      | cons r rr =>
        cases rr
        exact ⟨_, rfl, r⟩
    obtain ⟨hp, g, dr, tk, os⟩ := s1
    obtain ⟨nmC, NC, qnC, bsC, bmC, hdctC, snC, subC, abC, colC, ddC, k0, k1, k2, k3, k5, hCo, hT⟩ := PySem.W.excInit_of I1.kIn x.ex
    have kk : ∀ b o, hp.get? b = some o → ((hp.push (PySem.W.kdv_tup [u])).push (PySem.HandSPX.excO C hp.objs.size)).get? b = some o := fun b o e => Heap.get?_push_of_some _ (Heap.get?_push_of_some _ e)
    have hget : ((hp.push (PySem.W.kdv_tup [u])).push (PySem.HandSPX.excO C hp.objs.size)).get? (hp.objs.size + 1) = some (PySem.HandSPX.excO C hp.objs.size) := by heap_get
    have fresh : ∀ {b : Addr} {o : Obj}, hp.get? b = some o → b ≠ hp.objs.size + 1 := fun {b o} e => Nat.ne_of_lt (Nat.lt_succ_of_lt (Heap.lt_size e))
    obtain ⟨mb, hb1, hb2⟩ := I1.ok.mod.blt
    show wpAny _ _ (call (.ref C) [u]) _ _ _
    refine wpAny_call (PySem.HandSPX.call_own F.excBase_ValueError hT hCo (PySem.W.looks_findIn I1.kIn iC) (fun self => PySem.W.bind_fn I1.kIn self tI) (by show 1 ≤ sizeLine; decide)
      (init_run (mg := X.mg) (mb := mb) (t0 := hp.objs.size) x (fun b o e => kk b o (I1.kIn b o e)) (by rw [make_depth]; exact hr) (I1.ok.mod.nolimit.keeps fun b o e => kk b o (I1.bk b o e)) (I1.ok.mod.glob.keeps fun b o e => kk b o (I1.bk b o e)) (hb1.keeps fun b o e => kk b o (I1.bk b o e)) hb2 hget ?_ ?_))
    · cases e : X.K.lookup (hp.objs.size + 1) with
      | none => rfl
      | some o => exact absurd rfl (fresh (I1.kIn _ _ e))
    · intro h' tk' dx t1 k hdx dne hx hns
      have hdx0 : hp.get? dx = none := by
        cases e : hp.get? dx with
        | none => rfl
        | some o => rw [kk _ _ e] at hdx; cases hdx
      have ha0 : hp.get? (hp.objs.size + 1) = none := by
        cases e : hp.get? (hp.objs.size + 1) with
        | none => rfl
        | some o => exact absurd rfl (fresh e)
      obtain ⟨G, g1, g2⟩ := restrict h' fun b => decide (b ≠ hp.objs.size + 1)
      have gk : ∀ b, b ≠ hp.objs.size + 1 → G.get? b = h'.get? b := fun b hb => g1 b (decide_eq_true hb)
      have ga : G.get? (hp.objs.size + 1) = none := g2 _ (by simp)
      have keep : ∀ b o, hp.get? b = some o → G.get? b = some o := fun b o e => by
        rw [gk b (fresh e)]
        exact k b o (fresh e) (kk b o e)
      have hH : H1 dx = none := I1.hok.gone hdx0
      have hnsG : G.Ns1 dx fun z => if z = f then some u else none := hns.at fun o e => by rw [gk _ dne]; exact e
      have J : L2.Inv X pins σ (upd H1 dx (.xd [(f, y)])) ⟨G, g, dr, tk', os⟩ := I1.laidN (t' := tk') keep hdx0 hH ⟨_, hnsG, relO_put (fs := []) ru fun _ => True.intro⟩
      refine ⟨rfl, hp.objs.size + 1, xob C t1 (some dx), _, ⟨G, g, dr, tk', os⟩, _, .ref C, some dx, rfl, J, fun b o e => ?_, ga, hx, ⟨rfl, rfl, fun vs e => by cases e; rfl⟩, rfl, rfl, ?_, rfl, I1.bare, raises_own exC tyC, q1 dx hH⟩
      · have hb : b ≠ hp.objs.size + 1 := fun z => by
          have e : G.get? b = some o := e
          rw [z, ga] at e; cases e
        have e : G.get? b = some o := e
        rw [gk b hb] at e
        exact e
      · rw [upd_ne dne.symm]
        exact I1.hok.gone ha0
/-- no exception of another form -/
theorem pmk_no {nm : Str} {es : List Expr} {p pos : Pos} {t : TA} (kC : PySem.W.keepIn X.K (.ref C) = true) (hg : Gl X nm) (hm : X.mg nm = some (.ref C)) (hdb : (nm == ("__debug__" : Str)) = false)
    (hst : es.all noStar = true) (ha : PA X es t) (h0 : es = [] → ∀ σ H Q, t σ H Q → Q [] H) {R : List V → Hp → XK → Prop} (hR : ∀ vs H1 Q, ¬ R vs H1 Q) :
    L2N.PMk X (.Call (.Name nm p) es [] pos) (fun σ H Q => t σ H fun vs H1 => R vs H1 Q) := by
  intro pins s σ H Q I h
  cases es with
  | nil => exact (hR _ _ _ (h0 rfl σ H _ h)).elim
  | cons e es =>
    have hs := hst
    simp only [List.all_cons, Bool.and_eq_true] at hs
    refine wpAny_Call_Name_kw (ld_glob I hg hm ?_ hdb)
    exact PySem.W.callWith_K (h₀ := X.base) I.ok.mod.kin kC (thn (ha.run pos pins s σ H _ I h) fun us s1 ⟨vs, H1, I1, r1, q0⟩ => (hR _ _ _ q0).elim) (star_of hs.1) (any_star hs.2)
end
/-! #### the check -/
def fnB (P : Program) (K : PySem.W.Frag) (C : Addr) (f : Str) (fd : FuncData) : Bool :=
  decide (fd.globals = mainGlobals) && (decide (fd.builtins = builtinsNs) && (decide (fd.defaults = .none) && (PySem.W.codeIn K fd.code fd.qualname && (match fd.closure, fd.code, fd.body, fd.params.args with
    | [(z, cc)], .ref cda, .stmts body, [_, b] => decide (z = "__class__") && ((match K.lookup cc with
        | some ⟨_, _, .cell (some (.ref D)), _⟩ => decide (D = C)
        | _ => false) && ((match K.lookup cda with
        | some ⟨_, _, .fields vs, _⟩ => (match (vs[2]? : Option Value) with
          | some (.str file _) => P.main.file == file
          | _ => false)
        | _ => false) && (initP b.arg fd.params && (initB b.arg f body && initS b.arg fd.scope))))
    | _, _, _, _ => false))))
def exiB (P : Program) (K : PySem.W.Frag) (C : Addr) (f : Str) : Bool :=
  He.eqO (PySem.W.findIn K (.ref C) "__init__") (some (some (.ref (He.ma K C "__init__")))) && (decide (PySem.W.typeIn K (.ref (He.ma K C "__init__")) = some (.type "function")) && (decide (PySem.W.subIn K (.ref C) (.type "BaseException") = some true) && (decide (PySem.W.typeIn K (.ref C) = some (.type "type")) &&
    (excInitIn K C He.veBase "ValueError.__new__" && ((match PySem.W.clsIn K C with
      | some cd => PySem.HandSPX.refsVE cd.mro && cd.hasDict
      | none => false) && (decide (PySem.W.mroIn K C (.ref C) = some true) && (He.eqO (ks_superIn K C C "__init__") (some (some (.builtin "ValueError.__init__"))) && (decide (PySem.W.subIn K (.ref C) (.type "ValueError") = some true) &&
    (He.eqO (PySem.W.nsIn K mainGlobals "super") (some none) && (He.eqO (PySem.W.nsIn K cStatics "thirdparty.any") (some none) && (He.eqO (PySem.W.findIn K (.ref C) "__setattr__") (some (some (.builtin "object.__setattr__"))) && (He.eqO (PySem.W.findIn K (.ref C) f) (some none) &&
    (!(P.main.scope.names.lookup ("super" : Str)).isSome && (match K.lookup (He.ma K C "__init__") with
      | some ⟨_, _, .func fd, _⟩ => fnB P K C f fd
      | _ => false))))))))))))))
def xB (P : Program) (M : Nm) (T : Tb) (K : PySem.W.Frag) (c : Nat) : Bool := PySem.W.keepIn K (.ref (He.ga K (M.exc.getD c ""))) && (match T.exc.getD c [] with
  | [i] => decide (i < M.atts.length) && exiB P K (He.ga K (M.exc.getD c "")) (M.atts.getD i "")
  | _ => true)
theorem exi_of {P : Program} {K : PySem.W.Frag} {C : Addr} {f : Str} (h : exiB P K C f = true) : ∃ cc cda v qual params body scope cdv fd, ExI P K C (He.ma K C "__init__") cc cda v f qual params body scope cdv fd := by
  unfold exiB at h
  obtain ⟨h1, h⟩ := ban h
  obtain ⟨h2, h⟩ := ban h
  obtain ⟨h3, h⟩ := ban h
  obtain ⟨h4, h⟩ := ban h
  obtain ⟨h5, h⟩ := ban h
  obtain ⟨h6, h⟩ := ban h
  obtain ⟨h7, h⟩ := ban h
  obtain ⟨h8, h⟩ := ban h
  obtain ⟨h9, h⟩ := ban h
  obtain ⟨h10, h⟩ := ban h
  obtain ⟨h11, h⟩ := ban h
  obtain ⟨h12, h⟩ := ban h
  obtain ⟨h13, h⟩ := ban h
  obtain ⟨h14, h⟩ := ban h
  split at h
  · rename_i oc od fd osl lk
    obtain ⟨name, qual, params, fbody, scope, globals, closure, defaults, kV, doc, pm, an, cdv, ct, blt⟩ := fd
    unfold fnB at h
    obtain ⟨g1, h⟩ := ban h
    obtain ⟨g2, h⟩ := ban h
    obtain ⟨g3, h⟩ := ban h
    obtain ⟨g4, h⟩ := ban h
    have z1 : globals = mainGlobals := of_decide_eq_true g1
    have z2 : blt = builtinsNs := of_decide_eq_true g2
    have z3 : defaults = .none := of_decide_eq_true g3
    clear g1 g2 g3
    subst z1 z2 z3
    dsimp only at g4 h
    split at h
    · rename_i z cc cda body x b e4
      obtain ⟨j1, h⟩ := ban h
      obtain ⟨j2, h⟩ := ban h
      obtain ⟨j3, h⟩ := ban h
      obtain ⟨j4, h⟩ := ban h
      obtain ⟨j5, j6⟩ := ban h
      have y1 := of_decide_eq_true j1
      clear j1
      subst y1
      split at j2
      · rename_i cl cld D csl lcell
        have y2 := of_decide_eq_true j2
        clear j2
        subst y2
        split at j3
        · rename_i ccl cdd vs ccs lcd
          split at j3
          · rename_i file tf hvs
            refine ⟨_, _, _, qual, params, _, scope, _, _, { fnK := ⟨oc, od, osl, name, kV, doc, pm, an, ct, rfl, lk⟩, code := g4, cda := ⟨rfl, ccl, cdd, vs, ccs, file, tf, lcd, hvs, j3⟩, cell := ⟨cl, cld, csl, lcell⟩, ex := h5, mro := ?_, self := of_decide_eq_true h7, sup := He.eqO_ok h8, ve := of_decide_eq_true h9, sg := He.eqO_ok h10, st := He.eqO_ok h11, sa := He.eqO_ok h12, no := He.eqO_ok h13, pr := j4, bd := j5, sc := j6, top := ?_ }⟩
            · split at h6
              · rename_i cd ecd
                obtain ⟨k1, k2⟩ := ban h6
                exact ⟨cd, ecd, k1, k2⟩
              · cases h6
            · simpa using h14
          · cases j3
        · cases j3
      · cases j2
    · cases h
  · cases h
open He in
theorem xmk {P : Program} {w : World} {K : PySem.W.Frag} {mg : Str → Option Value} {base h : Heap} {M : Nm} {T : Tb} {es : List Ent} (a : AllK P w K mg base h M T es (xB P M T)) : XMk (mkG P w K mg base M T es) := by
  intro n X s W c nm ex p pos t ctx hn hg hst ha h0
  obtain ⟨g1, g2, g3, g4, g5⟩ := ctx.glo hg
  obtain ⟨m1, hc⟩ := a.xd.mg c nm hn
  have q := a.xbs c hc
  unfold xB at q
  obtain ⟨kC, q⟩ := ban q
  have hm : X.mg nm = some (.ref ((mkG P w K mg base M T es).xa c)) := by rw [ctx.mg]; exact m1
  have eK : X.K = K := ctx.K
  have eP : X.prog = P := ctx.prog
  have hexc : excF T c = T.exc.getD c [] := rfl
  split at q
  · rename_i i ei
    obtain ⟨hi, q⟩ := ban q
    obtain ⟨cc, cda, v, qual, params, body, scope, cdv, fd, xx⟩ := exi_of q
    have q' := q
    unfold exiB at q'
    obtain ⟨h1, q'⟩ := ban q'
    obtain ⟨h2, q'⟩ := ban q'
    obtain ⟨h3, q'⟩ := ban q'
    obtain ⟨h4, q'⟩ := ban q'
    have hroom : X.A.depth + 1 < recursionLimit := by have := ctx.rm.dp; omega
    refine pmk_x (C := ga K (M.exc.getD c "")) (by rw [eP, eK]; exact xx) (by rw [eK]; exact eqO_ok h1) (by rw [eK]; exact of_decide_eq_true h2) (by rw [eK]; exact of_decide_eq_true h3) (by rw [eK]; exact of_decide_eq_true h4) (by rw [eK]; exact kC) hroom g1 hm g2 hst ha h0 ?_
    rintro vs H1 Q ⟨j, y, ej, hv, hQ⟩
    have ej2 : T.exc.getD c [] = [j] := ej
    rw [ei] at ej2
    cases ej2
    refine ⟨y, hv, fun dx hdx => ?_⟩
    have := hQ dx hdx
    rw [att_at (of_decide_eq_true hi)] at this
    exact this
  · rename_i hne
    refine pmk_no (C := ga K (M.exc.getD c "")) (by rw [eK]; exact kC) g1 hm g2 hst ha h0 ?_
    rintro vs H1 Q ⟨j, y, ej, _, _⟩
    exact hne j ej
end Ev
end
section
set_option maxRecDepth 100000
set_option maxHeartbeats 8000000
/-! Ev, part 23: the law's end. -/
namespace Ev
open PySem PySem.Spec PyProof.Rows L2 He
def spL (K : PySem.W.Frag) : Sp := fun vs H Q _ => ∃ (a : Addr) (ns : List Int), vs = [.ref a] ∧ ns.length ≤ 63 ∧ SqL K H a (ns.map V.int) ∧ ∀ H', Q (.bl true) H'
theorem law_sp2 {G : Pg} {n f : Nat} (hps : (G.ps f).length = 1) (no : ∀ a o, G.K.lookup a = some o → o.cls ≠ .type "list") (hA : Asked G.T n f) {vs : List V} {H : Hp} {Q : VK} {E : XK} (h : spL G.K vs H Q E) : spF G n f vs H Q E := by
  obtain ⟨a, ns, rfl, hl, hS, hQ⟩ := h
  refine ⟨hps.symm, [], [], [.lst (ns.map .int)], rs_nil, RepL.cons (rep_script hS no) RepL.nil, ?_⟩
  obtain ⟨S, e⟩ := hA ns hl
  rw [e]
  intro m' H' v _ _ r
  rw [r.bl_inv]
  exact hQ H'
/-- an exception of any world -/
def CXw (P : Program) : CXT := fun o H s E e s' => ∃ w, L2N.CX P w o H s E e s'
theorem cx_any {P : Program} {w : World} {K : PySem.W.Frag} {mg : Str → Option Value} {base : Heap} {k : Nat} {f : Addr} {fd : FuncData} {ps : List Str} {sp : Sp} (F : FnOk P w K mg base (L2N.CX P w) k f fd ps sp) : FnOk P w K mg base (CXw P) k f fd ps sp :=
  ⟨F.len, fun A outer s H args us vs Q E hr e0 hb r hs => codeAny_mono (F.run A outer s H args us vs Q E hr e0 hb r hs) fun r s' h => by
    cases r with
    | error e => exact ⟨w, h⟩
    | ok fl => cases fl <;> exact h⟩
theorem cxw_no {P : Program} {H : Hp} {s : Shared} {e : Value} {s' : Shared} (h : CXw P [] H s (fun _ _ _ => False) e s') : False := by
  obtain ⟨w, a, B, H', cls, d, _, _, _, _, _, _, _, z⟩ := h
  exact z
theorem law_F {P : Program} {w : World} {K : PySem.W.Frag} {mg : Str → Option Value} {h : Heap} {M : Nm} {T : Tb} {es : List Ent} {xB : PySem.W.Frag → Nat → Bool} {f k : Nat} {fa : Addr} {e : Ent} (X : K.In h) (N : h.Ns mainGlobals mg) (t : textB M T es = true) (q : obsX (headB M T es xB) (es.map (·.d)) K = valD (es.map (·.d)))
    (bp : ∀ e ∈ es, BnP e) (bk : ∀ f n ks pm, (f, n, ks, pm) ∈ M.kws → ∀ e, es[f]? = some e → BnK e n ks pm) (bc : ∀ k n ks pm C f, (k, n, ks, pm) ∈ M.ckw → T.cls[k]? = some C → C.init = some f → ∀ e, es[f]? = some e → BnC e n ks pm) (bm : ∀ g n ks pm, (g, n, ks, pm) ∈ M.mkw → ∀ e, es[g]? = some e → BnC e n ks pm)
    (xm : ∀ base, K.In base → AllK P w K mg base h M T es xB → XMk (mkG P w K mg base M T es)) (he : es[f]? = some e) (hmf : M.fns[f]? = some ("law" : Str)) (hps : e.ps = [("script" : Str)]) (hd0 : e.d.dfl = []) (hfa : mg ("law" : Str) = some (.ref fa)) (hA : Asked T k f) :
    ∃ (K : PySem.W.Frag) (fd : FuncData) (sp : Sp), K.In h ∧ (∀ (s : Shared) (u : Value), BindsTo s fd ⟨[u], []⟩ [(("script" : Str), u)]) ∧
      (∀ (H : Hp) (a : Addr) (ns : List Int), ns.length ≤ 63 → Only H → SqL K H a (ns.map V.int) → sp [.ref a] H (fun v _ => v = .bl true) fun _ _ _ => False) ∧
      ∀ base : Heap, K.In base → base.Ns mainGlobals mg → FnOk P w K mg base (CXw P) k fa fd [("script" : Str)] sp := by
  have q1 : headB M T es xB K = true := congrArg (fun z : AlD => z.1) q
  have q2 : es.map (fun e => fnW K e.d.at_) = es.map fun e => e.d.val := by
    have := congrArg (fun z : AlD => z.2) q
    simp only [obsX, valD, List.map_map] at this
    exact this
  have c : ∀ base, AllK P w K mg base h M T es xB := fun base => ⟨X, N, t, q1, q2⟩
  have h0 := (c h).hd bp bk bc bm
  obtain ⟨g1, _⟩ := h0.fn f "law" hmf (by decide)
  have g1 : mg ("law" : Str) = some (.ref (fAd K (es.getD f entD).d.at_)) := g1
  rw [hfa] at g1
  have g1 : fa = fAd K (es.getD f entD).d.at_ := by
    have := Option.some.inj g1
    cases this
    rfl
  have hf : f < T.fns.length := h0.fnl f (List.getElem?_eq_some_iff.mp hmf).1
  refine ⟨K, (mkG P w K mg h M T es).fd f, spL K, X, fun s u => ?_, fun H a ns hl _ hS => ⟨a, ns, rfl, hl, hS, fun _ => rfl⟩, fun base hK _ => ?_⟩
  · have FD := (c h).funD he
    have e0 : e.d.dvs K = [] := by
      show e.d.dfl.map _ = []
      rw [hd0]; rfl
    rw [e0] at FD
    have := FunD.bindsA (ps := e.ps) FD (bp e (List.mem_of_getElem? he)) s [u] (by rw [hps]; rfl)
    rw [hps] at this
    exact this
  · have cb := c base
    have lv := (lv_all (cb.hd bp bk bc bm) cb.np cb.xd (xm base hK cb) cb.ff k).1 f hf
    have eps : (mkG P w K mg base M T es).ps f = [("script" : Str)] := by
      show (es.getD f entD).ps = _
      rw [getD_of he, hps]
    rw [eps] at lv
    rw [g1]
    exact cx_any <| lv.imp fun vs H Q E hsp => law_sp2 (by rw [eps]; rfl) cb.noL hA hsp
end Ev
end
section
set_option maxRecDepth 100000
set_option maxHeartbeats 8000000
/-! Ev, part 24: reckoning with the evaluator. -/
namespace Ev
open PySem
/-! #### steps -/
@[simp] theorem os_ok {α : Type} (a : α) (S : Store) (ρ : Fr) (k : α → Store → Os) (t : Tag k) : (Rs.ok a S).os ρ k t = k a S := rfl
@[simp] theorem os_ex {α : Type} (c : Nat) (l : List D) (S : Store) (ρ : Fr) (k : α → Store → Os) (t : Tag k) : (Rs.ex c l S : Rs α).os ρ k t = .ex c l ρ S := rfl
@[simp] theorem sq_nx (ρ : Fr) (S : Store) (k : Fr → Store → Os) (t : Tag k) : (Os.nx ρ S).sq k t = k ρ S := rfl
@[simp] theorem sq_rt (d : D) (S : Store) (k : Fr → Store → Os) (t : Tag k) : (Os.rt d S).sq k t = .rt d S := rfl
@[simp] theorem sq_bk (ρ : Fr) (S : Store) (k : Fr → Store → Os) (t : Tag k) : (Os.bk ρ S).sq k t = .bk ρ S := rfl
@[simp] theorem sq_ct (ρ : Fr) (S : Store) (k : Fr → Store → Os) (t : Tag k) : (Os.ct ρ S).sq k t = .ct ρ S := rfl
@[simp] theorem sq_ex (c : Nat) (l : List D) (ρ : Fr) (S : Store) (k : Fr → Store → Os) (t : Tag k) : (Os.ex c l ρ S).sq k t = .ex c l ρ S := rfl
@[simp] theorem nox_ok {α : Type} (a : α) (S : Store) : (Rs.ok a S).nox = .ok a S := rfl
@[simp] theorem ofO_some {α : Type} (a : α) (S : Store) : ofO (some a) S = .ok a S := rfl
@[simp] theorem toR_rt (d : D) (S : Store) : toR (.rt d S) = .ok d S := rfl
@[simp] theorem toR_nx (ρ : Fr) (S : Store) : toR (.nx ρ S) = .ok .non S := rfl
@[simp] theorem toR_ex (c : Nat) (l : List D) (ρ : Fr) (S : Store) : toR (.ex c l ρ S) = .ex c l S := rfl
@[simp] theorem th_ok2 {α β : Type} (a : α) (S : Store) (k : α → Store → Rs β) (t : Tag k) : (Rs.ok a S).th k t = k a S := th_ok a S k t
@[simp] theorem th_ex2 {α β : Type} (c : Nat) (l : List D) (S : Store) (k : α → Store → Rs β) (t : Tag k) : (Rs.ex c l S : Rs α).th k t = .ex c l S := th_ex c l S k t
theorem sq_ite {c : Prop} [Decidable c] (a b : Os) (k : Fr → Store → Os) (t : Tag k) : (if c then a else b).sq k t = if c then a.sq k t else b.sq k t := by split <;> rfl
theorem toR_ite {c : Prop} [Decidable c] (a b : Os) : toR (if c then a else b) = if c then toR a else toR b := by split <;> rfl
/-! #### a call's end -/
theorem tidy_len {fz : Bool} {S S' : Store} {d : D} (h : S'.length = S.length) : tidy fz S (.ok d S') = .ok d S' := by
  have e : S'.take S.length = S' := by rw [← h]; exact List.take_length
  unfold tidy
  simp only [e]
  split
  · split
    · rfl
    · rename_i hb
      split
      · split
        · rename_i n
          split
          · rename_i l el
            have := (List.getElem?_eq_some_iff.mp el).1
            simp only [below, decide_eq_true_eq] at hb
            omega
          · rfl
        · rfl
      · rfl
  · rfl
theorem tidy_same (fz : Bool) (S : Store) (d : D) : tidy fz S (.ok d S) = .ok d S := tidy_len rfl
theorem tidy_ex {fz : Bool} {S S' : Store} {c : Nat} {l : List D} (h : S'.length = S.length) : tidy fz S (.ex c l S') = .ex c l S' := by
  have e : S'.take S.length = S' := by rw [← h]; exact List.take_length
  unfold tidy
  simp only [e]
  split <;> rfl
theorem tidy_exS (fz : Bool) (S : Store) (c : Nat) (l : List D) : tidy fz S (.ex c l S) = .ex c l S := tidy_ex rfl
theorem run_def {T : Tb} {n f : Nat} {ds : List D} {S : Store} {F : Fn} (h : T.fns[f]? = some F) (hl : ds.length = F.np) : run T (n + 1) f ds S = tidy F.fz S (toR (exSs (csOf T n) F.body (startF F.nv ds) S)) := by
  rw [run_succ]
  unfold runB
  rw [csOf_T, h]
  simp only [hl, if_true]
/-! #### loops -/
section
variable {c : Fr → Store → Rs Bool} {f : Fr → Store → Os}
theorem whlN_mono : ∀ {n m : Nat} {ρ : Fr} {S : Store} {r : Os}, n ≤ m → whlN c f n ρ S = some r → whlN c f m ρ S = some r
  | 0, _, _, _, _, _, h => by cases h
  | n + 1, 0, _, _, _, hm, _ => absurd hm (Nat.not_succ_le_zero n)
  | n + 1, m + 1, ρ, S, r, hm, h => by
    have hm' : n ≤ m := Nat.le_of_succ_le_succ hm
    simp only [whlN] at h ⊢
    cases hc : c ρ S with
    | ok b S1 =>
      rw [hc] at h
      cases b with
      | false => exact h
      | true =>
        simp only at h ⊢
        cases hf : f ρ S1 with
        | nx ρ2 S2 => rw [hf] at h; exact whlN_mono hm' h
        | ct ρ2 S2 => rw [hf] at h; exact whlN_mono hm' h
        | bk ρ2 S2 => rw [hf] at h; exact h
        | rt d S2 => rw [hf] at h; exact h
        | ex a b c d => rw [hf] at h; exact h
        | bad => rw [hf] at h; exact h
    | ex x l S1 => rw [hc] at h; exact h
    | bad => rw [hc] at h; exact h
theorem whl_of {n : Nat} {ρ : Fr} {S : Store} {r : Os} (h : whlN c f n ρ S = some r) : whl c f ρ S = r := by
  have hx : ∃ n r, whlN c f n ρ S = some r := ⟨n, r, h⟩
  unfold whl
  rw [dif_pos hx]
  have h2 := hx.choose_spec.choose_spec
  generalize hx.choose_spec.choose = r2 at h2 ⊢
  generalize hx.choose = k at h2
  have a1 := whlN_mono (Nat.le_max_left n k) h
  have a2 := whlN_mono (Nat.le_max_right n k) h2
  rw [a1] at a2
  exact (Option.some.inj a2).symm
/-- a turn -/
theorem whlN_turn {n : Nat} {ρ ρ2 : Fr} {S S1 S2 : Store} (hc : c ρ S = .ok true S1) (hf : f ρ S1 = .nx ρ2 S2) : whlN c f (n + 1) ρ S = whlN c f n ρ2 S2 := by
  simp only [whlN, hc, hf]
theorem whlN_end {n : Nat} {ρ : Fr} {S S1 : Store} (hc : c ρ S = .ok false S1) : whlN c f (n + 1) ρ S = some (.nx ρ S1) := by
  simp only [whlN, hc]
end
theorem gOk_nil (S : Store) : gOk [] S = true := by unfold gOk; simp
@[simp] theorem csOf_T' (T : Tb) (n : Nat) : (csOf T n).T = T := csOf_T T n
@[simp] theorem csOf_fn' (T : Tb) (n : Nat) : (csOf T n).fn = run T n := rfl
theorem wd_small {i : Int} (h : i.natAbs < 2 ^ 3999) : i.natAbs < Wd := Nat.lt_trans h (by unfold Wd; exact Nat.pow_lt_pow_right (by decide) (by decide))
end Ev
end
section
set_option maxRecDepth 100000
set_option maxHeartbeats 8000000
/-! what the laws' own helpers compute, once for all tables -/
namespace Lg
open Ev
def bPickL : Sts := (.cons (.ife (.or (.cmp .gt (.idx (.var 0) (.int 2)) (.int 0)) (.cmp .ge (.idx (.var 0) (.int 1)) (.bi .len false (.cons (.var 2) .nil))))
    (.cons .brk
    .nil)
    .nil)
    (.cons (.ife (.cmp .ge (.bi .abs false (.cons (.idx (.var 2) (.idx (.var 0) (.int 1))) .nil)) (.bin .pow false (.int 10) (.int 15)))
    (.cons (.asgI (.var 0) (.int 2) (.bi .abs false (.cons (.idx (.var 2) (.idx (.var 0) (.int 1))) .nil)))
    .nil)
    .nil)
    (.cons (.asgI (.var 0) (.int 1) (.bin .add false (.idx (.var 0) (.int 1)) (.int 1)))
    .nil)))
def bPick2 : Sts :=     (.cons (.asg 5 (.bin .mod false (.bi .int false (.cons (.bin .add false (.bin .add false (.bin .mul false (.var 4) (.int 69069)) (.bin .mul false (.idx (.var 0) (.int 3)) (.int 40503))) (.int 271)) .nil)) (.int 4294967291)))
    (.cons (.asg 5 (.bin .mod false (.bi .int false (.cons (.bin .add false (.bin .add false (.bin .mul false (.var 5) (.var 5)) (.bin .mul false (.idx (.var 0) (.int 3)) (.int 26539))) (.int 97)) .nil)) (.int 4294967279)))
    (.cons (.asg 5 (.bin .mod false (.bi .int false (.cons (.bin .add false (.bin .add false (.bin .mul false (.var 5) (.int 31821)) (.bin .div false (.var 4) (.int 9))) (.int 11)) .nil)) (.int 2147483629)))
    (.cons (.ret (.bin .mod false (.bi .int false (.cons (.bin .div false (.var 5) (.int 6)) .nil)) (.var 1)))
    .nil))))
def bPick : Sts := (.cons (.asg 2 (.idx (.var 0) (.int 0)))
    (.cons (.asgI (.var 0) (.int 3) (.bin .add false (.idx (.var 0) (.int 3)) (.int 1)))
    (.cons (.forr (.nm 3) (.rng (.cons (.bi .len false (.cons (.var 2) .nil)) .nil))
    bPickL)
    (.cons (.ife (.cmp .gt (.idx (.var 0) (.int 2)) (.int 0))
    (.cons (.asg 6 (.bin .mod false (.bi .int false (.cons (.idx (.var 0) (.int 2)) .nil)) (.var 1)))
    (.cons (.asgI (.var 0) (.int 2) (.bin .div false (.idx (.var 0) (.int 2)) (.var 1)))
    (.cons (.ret (.var 6))
    .nil)))
    .nil)
    (.cons (.asg 4 (.int 0))
    (.cons (.ife (.cmp .gt (.bi .len false (.cons (.var 2) .nil)) (.int 0))
    (.cons (.asg 4 (.bin .mod false (.bi .int false (.cons (.bi .abs false (.cons (.idx (.var 2) (.bin .mod false (.bi .int false (.cons (.idx (.var 0) (.int 3)) .nil)) (.bi .len false (.cons (.var 2) .nil)))) .nil)) .nil)) (.int 1000000007)))
    .nil)
    .nil)
    bPick2))))))
def bGcdL : Sts := (.cons (.ife (.cmp .eq (.var 1) (.int 0))
    (.cons .brk
    .nil)
    .nil)
    (.cons (.asg 3 (.bin .mod false (.bi .int false (.cons (.var 0) .nil)) (.var 1)))
    (.cons (.asg 0 (.var 1))
    (.cons (.asg 1 (.var 3))
    .nil))))
def bGcd : Sts := (.cons (.asg 0 (.bi .abs false (.cons (.var 0) .nil)))
    (.cons (.asg 1 (.bi .abs false (.cons (.var 1) .nil)))
    (.cons (.forr (.nm 2) (.rng (.cons (.bin .add false (.bin .mul false (.int 2) (.bi .max false (.cons (.bm .bitLength (.var 0) .nil) (.cons (.bm .bitLength (.var 1) .nil) .nil)))) (.int 2)) .nil))
    bGcdL)
    (.cons (.ret (.var 0))
    .nil))))
def bStart : Sts := (.cons (.ret (.lst true (.cons (.lc false [1] (.nm 1) (.seq (.var 0)) .no (.bi .int false (.cons (.var 1) .nil))) (.cons (.int 0) (.cons (.int 0) (.cons (.int 0) .nil))))))
    .nil)
def stc (ns : List Int) (a b c : Int) : Cell := .lst [.lst (ns.map .int), .int a, .int b, .int c]
/-- items that change nothing -/
theorem lcL_map {ι : Type} {tg : Tg} {fc : Fr → Store → Rs Bool} {fe : Fr → Store → Rs D} {ρ : Fr} {g : Gd} {X : Store} (j : ι → D) (v : ι → D)
    (h : ∀ (i : ι) (acc : List D), gOk g (X ++ [.lst acc]) = true ∧ ∃ ρ1, setT tg (j i) ρ (X ++ [.lst acc]) = some ρ1 ∧ fc ρ1 (X ++ [.lst acc]) = .ok true (X ++ [.lst acc]) ∧ fe ρ1 (X ++ [.lst acc]) = .ok (v i) (X ++ [.lst acc])) :
    ∀ (l : List ι) (acc : List D), acc.length + l.length ≤ LIM → lcL tg fc fe ρ g X.length (l.map j) (X ++ [.lst acc]) = if gOk g (X ++ [.lst (acc ++ l.map v)]) then .ok () (X ++ [.lst (acc ++ l.map v)]) else .bad
  | [], acc, _ => by simp [lcL]
  | i :: l, acc, hl => by
    obtain ⟨hg, ρ1, h1, h2, h3⟩ := h i acc
    simp only [List.length_cons] at hl
    have := lcL_map j v h l (acc ++ [v i]) (by simp; omega)
    simp only [List.map_cons, lcL, hg, if_true, h1, h2, h3, th_ok]
    simp only [List.getElem?_append_right (Nat.le_refl _), Nat.sub_self, List.getElem?_cons_zero]
    rw [if_pos (by omega)]
    simp only [List.append_assoc, List.singleton_append] at this
    rw [show (X ++ [Cell.lst acc]).set X.length (.lst (acc ++ [v i])) = X ++ [Cell.lst (acc ++ [v i])] by simp, this]
theorem start_of {T : Tb} {f : Nat} (h : T.fns[f]? = some ⟨1, 2, bStart, false⟩) {ns : List Int} (hn : ns.length ≤ 63) (n : Nat) : run T (n + 1) f [.lst (ns.map .int)] [] = .ok (.ref 0) [stc ns 0 0 0] := by
  rw [run_def h rfl]
  have := lcL_map (tg := .nm 1) (fc := fun ρ S => evC (csOf T n) .no ρ S) (fe := fun ρ S => evE (csOf T n) (.bi .int false (.cons (.var 1) .nil)) ρ S) (ρ := wipe [some (D.lst (List.map D.int ns)), none] [1]) (g := []) (X := []) D.int D.int (fun i acc => ⟨gOk_nil _, _, rfl, by simp [exSs, exS, evE, evT, evL, evI, evC, evW, startF, toR_nx], by simp [setS, wipe, biD, exSs, exS, evE, evT, evL, evI, evC, evW, startF, toR_nx]⟩) ns [] (by simp [LIM]; omega)
  simp only [List.length_nil, List.nil_append, gOk_nil, if_true] at this
  have hb : belowL 0 (ns.map .int) = true := by
    clear this hn
    induction ns with
    | nil => rfl
    | cons i l ih => simp [belowL, below, ih]
  simp [exSs, exS, evE, evT, evL, evI, evC, evW, startF, toR_nx] at this
  simp [exSs, exS, evE, evT, evL, evI, evC, evW, startF, toR_nx, bStart, seqIt, seqOf, Ev.guard, this, lcE, cutOk, hb, mkL, tidy, below, stc]
theorem ixN_of {n : Nat} {i : Int} (h0 : 0 ≤ i) (h1 : i < n) : ixN n i = some i.toNat := by unfold ixN; rw [if_pos h0, if_pos h1]
theorem abs_of (i : Int) : (if i < 0 then -i else i) = (i.natAbs : Int) := by split <;> omega
section
variable {tg : Tg} {f : Fr → Store → Os} {d : D} {ds : List D} {ρ ρ1 ρ2 : Fr} {S S2 : Store} {g : Gd}
theorem forL_nil : forL tg f [] [] ρ S = .nx ρ S := by simp [forL, gOk_nil]
theorem forL_nx (h1 : setT tg d ρ S = some ρ1) (h2 : f ρ1 S = .nx ρ2 S2) : forL tg f [] (d :: ds) ρ S = forL tg f [] ds ρ2 S2 := by simp only [forL, gOk_nil, if_true, h1, h2]
theorem forL_ct (h1 : setT tg d ρ S = some ρ1) (h2 : f ρ1 S = .ct ρ2 S2) : forL tg f [] (d :: ds) ρ S = forL tg f [] ds ρ2 S2 := by simp only [forL, gOk_nil, if_true, h1, h2]
theorem forL_bk (h1 : setT tg d ρ S = some ρ1) (h2 : f ρ1 S = .bk ρ2 S2) : forL tg f [] (d :: ds) ρ S = .nx ρ2 S2 := by simp only [forL, gOk_nil, if_true, h1, h2]
theorem forL_rt {e : D} (h1 : setT tg d ρ S = some ρ1) (h2 : f ρ1 S = .rt e S2) : forL tg f [] (d :: ds) ρ S = .rt e S2 := by simp only [forL, gOk_nil, if_true, h1, h2]
end
theorem pick_loop (C : Cs) (ns : List Int) (m c : Int) (X : Store) : ∀ (L : List D) (x : Option D) (a b : Int), 0 ≤ a → 0 ≤ b → ∃ x' a' b', forL (.nm 3) (fun ρ S => exSs C bPickL ρ S) [] L [some (.ref 0), some (.int m), some (.lst (ns.map .int)), x, none, none, none] (stc ns a b c :: X) = .nx [some (.ref 0), some (.int m), some (.lst (ns.map .int)), x', none, none, none] (stc ns a' b' c :: X) ∧ 0 ≤ a' ∧ 0 ≤ b'
  | [], x, a, b, ha, hb => ⟨x, a, b, by simp [forL, gOk_nil], ha, hb⟩
  | d :: L, x, a, b, ha, hb => by
    by_cases h1 : 0 < b
    · exact ⟨some d, a, b, forL_bk rfl (by simp (dsimp := false) (implicitDefEqProofs := false) [setS, bPickL, stc, idxD, seqOf, ixN, cmpD, intCmp, cmpI, h1, exSs, exS, evE, evT, evL, evI, evC, evW, startF, toR_nx]), ha, hb⟩
    by_cases h2 : (ns.length : Int) ≤ a
    · exact ⟨some d, a, b, forL_bk rfl (by simp (dsimp := false) (implicitDefEqProofs := false) [setS, bPickL, stc, idxD, seqOf, ixN, cmpD, intCmp, cmpI, h1, h2, biD, exSs, exS, evE, evT, evL, evI, evC, evW, startF, toR_nx]), ha, hb⟩
    have h3 : a.toNat < ns.length := by omega
    have h4 : a < ns.length := by omega
    by_cases h5 : (1000000000000000 : Int) ≤ (ns[a.toNat]).natAbs
    · obtain ⟨x', a', b', e, h⟩ := pick_loop C ns m c X L (some d) (a + 1) (ns[a.toNat]).natAbs (by omega) (by omega)
      refine ⟨x', a', b', ?_, h⟩
      rw [← e]
      exact forL_nx rfl (by simp (dsimp := false) (implicitDefEqProofs := false) [setS, bPickL, stc, idxD, seqOf, ixN, cmpD, intCmp, cmpI, h1, h2, biD, ha, h3, h4, abs_of, binD, arI, setI, h5, exSs, exS, evE, evT, evL, evI, evC, evW, startF, toR_nx])
    · obtain ⟨x', a', b', e, h⟩ := pick_loop C ns m c X L (some d) (a + 1) b (by omega) (by omega)
      refine ⟨x', a', b', ?_, h⟩
      rw [← e]
      exact forL_nx rfl (by simp (dsimp := false) (implicitDefEqProofs := false) [setS, bPickL, stc, idxD, seqOf, ixN, cmpD, intCmp, cmpI, h1, h2, biD, ha, h3, h4, abs_of, binD, arI, setI, h5, exSs, exS, evE, evT, evL, evI, evC, evW, startF, toR_nx])
theorem lim_le {n : Nat} (h : n ≤ 1000) : n ≤ LIM := by unfold LIM; omega
theorem wd_n {n : Nat} (h : n < 2 ^ 200) : n < Wd := Nat.lt_trans h (by unfold Wd; exact Nat.pow_lt_pow_right (by decide) (by decide))
theorem wd_lt2 {i : Int} (h0 : 0 ≤ i) (h : i < 2 ^ 200) : i.natAbs < Wd := wd_n (by omega)
/-- the mixing at the end -/
theorem pick_of {T : Tb} {f : Nat} (h : T.fns[f]? = some ⟨2, 7, bPick, true⟩) {ns : List Int} (hn : ns.length ≤ 63) {a b c m : Int} (ha : 0 ≤ a) (hb : 0 ≤ b) (hc : 0 ≤ c) (hcw : c < 2 ^ 100) (hm : 0 < m) (hmw : m < 2 ^ 100) (n : Nat) (X : Store) :
    ∃ r a' b', run T (n + 1) f [.ref 0, .int m] (stc ns a b c :: X) = .ok (.int r) (stc ns a' b' (c + 1) :: X) ∧ 0 ≤ r ∧ r < m ∧ 0 ≤ a' ∧ 0 ≤ b' := by
  obtain ⟨x', a', b', e, ha', hb'⟩ := pick_loop (csOf T n) ns m (c + 1) X (upTo 0 ns.length) none a b ha hb
  have hl := lim_le (n := ns.length) (by omega)
  have hw : m.natAbs < Wd := wd_lt2 (by omega) (by omega)
  have cw : (c + 1).natAbs < Wd := wd_lt2 (by omega) (by omega)
  simp only [stc] at e
  by_cases h1 : 0 < b'
  · refine ⟨b' % m, a', b' / m, ?_, Int.emod_nonneg _ (by omega), Int.emod_lt_of_pos _ hm, ha', Int.ediv_nonneg hb' (by omega)⟩
    rw [run_def h rfl]
    simp (dsimp := false) (implicitDefEqProofs := false) [bPick, stc, idxD, seqOf, ixN, binD, arI, setI, setS, biD, rngIt, hl, e, cmpD, intCmp, cmpI, h1, hm, hw, exSs, exS, evE, evT, evL, evI, evC, evW, startF, toR_nx]
    exact tidy_len rfl
  · have fin : ∀ s : Int, 0 ≤ s → s < 1000000007 → ∃ r, 0 ≤ r ∧ r < m ∧ exSs (csOf T n) bPick2 [some (.ref 0), some (.int m), some (.lst (ns.map .int)), x', some (.int s), none, none] (stc ns a' b' (c + 1) :: X) = .rt (.int r) (stc ns a' b' (c + 1) :: X) := by
      intro s h0 h2
      have k1 : s.natAbs < Wd := wd_lt2 (by omega) (by omega)
      have g1 : ∀ i j : Int, 0 < j → j < 2 ^ 100 → (i % j).natAbs < Wd := fun i j x y => by
        have := Int.emod_nonneg i (show j ≠ 0 by omega)
        have := Int.emod_lt_of_pos i x
        exact wd_lt2 (by omega) (by omega)
      have g2 : ∀ i : Nat, i < 2 ^ 100 → i < Wd := fun i x => by
        have := wd_lt2 (i := (i : Int)) (by omega) (by omega)
        omega
      refine ⟨_, ?_, ?_, by
        simp (dsimp := false) (implicitDefEqProofs := false) [bPick2, stc, idxD, seqOf, ixN, binD, arI, setI, setS, biD, hm, k1, cw, g2, g1, exSs, exS, evE, evT, evL, evI, evC, evW, startF, toR_nx]
        rfl⟩
      · exact Int.emod_nonneg _ (by omega)
      · exact Int.emod_lt_of_pos _ hm
    simp only [stc] at fin
    by_cases h2 : 0 < ns.length
    · have n1 : ((c + 1) % (ns.length : Int)).toNat < ns.length := by
        have := Int.emod_lt_of_pos (c + 1) (show (0 : Int) < ns.length by omega)
        have := Int.emod_nonneg (c + 1) (show (ns.length : Int) ≠ 0 by omega)
        omega
      have n2 : (c + 1) % (ns.length : Int) < ns.length := Int.emod_lt_of_pos (c + 1) (show (0 : Int) < ns.length by omega)
      have n3 : 0 ≤ (c + 1) % (ns.length : Int) := Int.emod_nonneg (c + 1) (show (ns.length : Int) ≠ 0 by omega)
      obtain ⟨r, r0, r1, er⟩ := fin (((ns[((c + 1) % (ns.length : Int)).toNat]).natAbs : Int) % 1000000007) (Int.emod_nonneg _ (by omega)) (Int.emod_lt_of_pos _ (by omega))
      refine ⟨r, a', b', ?_, r0, r1, ha', hb'⟩
      rw [run_def h rfl]
      simp (dsimp := false) (implicitDefEqProofs := false) [bPick, stc, idxD, seqOf, ixN, binD, arI, setI, setS, biD, rngIt, hl, e, cmpD, intCmp, cmpI, h1, hm, hw, h2, n1, n2, n3, abs_of, er, exSs, exS, evE, evT, evL, evI, evC, evW, startF, toR_nx]
      exact tidy_len rfl
    · obtain ⟨r, r0, r1, er⟩ := fin 0 (by omega) (by omega)
      refine ⟨r, a', b', ?_, r0, r1, ha', hb'⟩
      rw [run_def h rfl]
      simp (dsimp := false) (implicitDefEqProofs := false) [bPick, stc, idxD, seqOf, ixN, binD, arI, setI, setS, biD, rngIt, hl, e, cmpD, intCmp, cmpI, h1, hm, hw, h2, er, exSs, exS, evE, evT, evL, evI, evC, evW, startF, toR_nx]
      exact tidy_len rfl
theorem bits_lt (i : Int) : i.natAbs < 2 ^ PySem.Builtin.Int.intBits i := by
  unfold PySem.Builtin.Int.intBits
  split
  · rename_i h0
    have : i = 0 := by simpa using h0
    subst this; decide
  · exact Nat.lt_log2_self
theorem bits_le {i : Int} {k : Nat} (h : i.natAbs < 2 ^ k) : PySem.Builtin.Int.intBits i ≤ k := by
  unfold PySem.Builtin.Int.intBits
  split
  · exact Nat.zero_le _
  · rename_i h0
    have h0 : i.natAbs ≠ 0 := by
      intro e
      exact h0 (by simpa using e)
    exact (Nat.log2_lt h0).mpr h
theorem gcd_loop (C : Cs) (S : Store) : ∀ (j : Nat) (L : List D) (x y : Option D) (a b : Nat), b < 2 ^ j → 2 * j ≤ L.length → ∃ x' y', forL (.nm 2) (fun ρ S => exSs C bGcdL ρ S) [] L [some (.int a), some (.int b), x, y] S = .nx [some (.int (a.gcd b : Nat)), some (.int 0), x', y'] S
  | j, L, x, y, a, 0, hb, hl => by
    rw [Nat.gcd_zero_right]
    match L with
    | [] => exact ⟨x, y, forL_nil⟩
    | d :: L => exact ⟨some d, y, forL_bk rfl (by simp (dsimp := false) (implicitDefEqProofs := false) [setS, bGcdL, cmpD, pln, vw, eqD, exSs, exS, evE, evT, evL, evI, evC, evW, startF, toR_nx])⟩
  | 0, _, _, _, _, b + 1, hb, _ => absurd hb (by simp)
  | j + 1, L, x, y, a, b + 1, hb, hl => by
    match L, hl with
    | d :: e :: L, hl =>
      have step : ∀ (d : D) (u v : Nat) (y : Option D), exSs C bGcdL [some (.int u), some (.int (v + 1 : Nat)), some d, y] S = .nx [some (.int (v + 1 : Nat)), some (.int (u % (v + 1) : Nat)), some d, some (.int (u % (v + 1) : Nat))] S := by
        intro d u v y
        have h1 : ((v : Int) + 1 == 0) = false := by
          apply beq_eq_false_iff_ne.mpr
          omega
        have h2 : (0 : Int) < (v : Int) + 1 := by omega
        simp (dsimp := false) (implicitDefEqProofs := false) [setS, bGcdL, cmpD, pln, vw, eqD, h1, binD, arI, biD, h2, exSs, exS, evE, evT, evL, evI, evC, evW, startF, toR_nx]
      rw [forL_nx rfl (step d a b y)]
      have e1 : a.gcd (b + 1) = (b + 1).gcd (a % (b + 1)) := by rw [Nat.gcd_comm, Nat.gcd_rec, Nat.gcd_comm]
      rw [e1]
      have hr : a % (b + 1) < b + 1 := Nat.mod_lt _ (Nat.succ_pos _)
      generalize a % (b + 1) = r at hr
      cases r with
      | zero =>
        rw [Nat.gcd_zero_right]
        exact ⟨some e, some (.int ((0 : Nat) : Int)), forL_bk rfl (by simp (dsimp := false) (implicitDefEqProofs := false) [setS, bGcdL, cmpD, pln, vw, eqD, exSs, exS, evE, evT, evL, evI, evC, evW, startF, toR_nx])⟩
      | succ r =>
        rw [forL_nx rfl (step e (b + 1) r _)]
        have e2 : (b + 1).gcd (r + 1) = (r + 1).gcd ((b + 1) % (r + 1)) := by rw [Nat.gcd_comm, Nat.gcd_rec, Nat.gcd_comm]
        rw [e2]
        have hq : (b + 1) % (r + 1) < 2 ^ j := by
          have t1 : (b + 1) % (r + 1) < r + 1 := Nat.mod_lt _ (Nat.succ_pos _)
          have t2 : (b + 1) % (r + 1) ≤ b + 1 - (r + 1) := by
            rw [Nat.mod_eq_sub_mod (by omega)]
            exact Nat.mod_le _ _
          rw [Nat.pow_succ] at hb
          omega
        exact gcd_loop C S j L _ _ _ _ hq (by simp at hl; omega)
theorem gcd_of {T : Tb} {f : Nat} (h : T.fns[f]? = some ⟨2, 4, bGcd, true⟩) (a b : Int) (ha : a.natAbs < 2 ^ 100000) (hb : b.natAbs < 2 ^ 100000) (n : Nat) (S : Store) : run T (n + 1) f [.int a, .int b] S = .ok (.int (Int.gcd a b : Nat)) S := by
  have q1 := bits_le (i := (a.natAbs : Int)) (by simpa using ha)
  have q2 := bits_le (i := (b.natAbs : Int)) (by simpa using hb)
  have q3 := bits_lt (b.natAbs : Int)
  rw [Int.natAbs_natCast] at q3
  generalize hu : PySem.Builtin.Int.intBits (a.natAbs : Int) = u at q1
  generalize hv : PySem.Builtin.Int.intBits (b.natAbs : Int) = v at q2 q3
  have hk : ∃ k : Nat, (2 * (if u < v then (v : Int) else u) + 2 = (k : Int)) ∧ 2 * v ≤ k ∧ k ≤ LIM := by
    refine ⟨2 * (if v > u then v else u) + 2, ?_, ?_, ?_⟩
    · split <;> omega
    · split <;> omega
    · unfold LIM; split <;> omega
  obtain ⟨k, k1, k2, k3⟩ := hk
  obtain ⟨x', y', e⟩ := gcd_loop (csOf T n) S v (upTo 0 k) none none a.natAbs b.natAbs q3 (by
    have : ∀ (k : Nat) (i : Int), (upTo i k).length = k := by
      intro k
      induction k with
      | zero => intro i; rfl
      | succ k ih => intro i; simp [upTo, ih]
    rw [this]; exact k2)
  have w1 : ∀ i : Nat, i < 2 ^ 200 → i < Wd := fun i x => wd_n x
  have w2 : (if u < v then (v : Int) else u).natAbs < Wd := wd_n (by split <;> omega)
  rw [run_def h rfl]
  simp (dsimp := false) (implicitDefEqProofs := false) [bGcd, setS, biD, abs_of, bmOk, bmD, hu, hv, binD, arI, w1, w2, rngIt, k1, k3, e, exSs, exS, evE, evT, evL, evI, evC, evW, startF, toR_nx]
  rw [← Int.gcd_eq_natAbs_gcd_natAbs]
  exact tidy_same _ _ _
def bSameL (f : Nat) : Sts := (.cons (.ife (.not (.call f (.cons (.idx (.var 0) (.var 2)) (.cons (.idx (.var 1) (.var 2)) .nil))))
    (.cons (.ret (.bl false))
    .nil)
    .nil)
    .nil)
def bSame (f : Nat) : Sts := (.cons (.ife (.isN false (.var 1))
    (.cons (.ret (.isN false (.var 0)))
    .nil)
    .nil)
    (.cons (.ife (.isI (.var 1) [.b .bool] false)
    (.cons (.ret (.and (.isI (.var 0) [.b .bool] false) (.cmp .eq (.var 0) (.var 1))))
    .nil)
    .nil)
    (.cons (.ife (.isI (.var 1) [.b .int] false)
    (.cons (.ret (.and (.isI (.var 0) [.b .int] false) (.and (.not (.isI (.var 0) [.b .bool] false)) (.cmp .eq (.var 0) (.var 1)))))
    .nil)
    .nil)
    (.cons (.ife (.isI (.var 1) [.b .str] false)
    (.cons (.ret (.and (.isI (.var 0) [.b .str] false) (.cmp .eq (.var 0) (.var 1))))
    .nil)
    .nil)
    (.cons (.ife (.or (.not (.isI (.var 0) [.b .tuple] false)) (.cmp .ne (.bi .len false (.cons (.var 0) .nil)) (.bi .len false (.cons (.var 1) .nil))))
    (.cons (.ret (.bl false))
    .nil)
    .nil)
    (.cons (.forr (.nm 2) (.rng (.cons (.bi .len false (.cons (.var 1) .nil)) .nil))
    (bSameL f))
    (.cons (.ret (.bl true))
    .nil)))))))
@[simp] theorem bt_beq (a b : Bt) : (a == b) = decide (a = b) := rfl
mutual
/-- what _law_same compares with itself -/
def sm : Nat → D → Bool
  | _, .non => true
  | _, .bl _ => true
  | _, .int _ => true
  | _, .str s => s.all (· < 0x110000)
  | 0, .tup _ => false
  | k + 1, .tup l => decide (l.length ≤ 1000) && smL k l
  | _, _ => false
def smL : Nat → List D → Bool
  | _, [] => true
  | k, d :: l => sm k d && smL k l
end
theorem smL_get : ∀ {k : Nat} {l : List D} {i : Nat} {d : D}, smL k l = true → l[i]? = some d → sm k d = true
  | _, [], _, _, _, h => by simp at h
  | k, x :: l, 0, d, h, e => by
    simp only [smL, Bool.and_eq_true] at h
    simp only [List.getElem?_cons_zero, Option.some.injEq] at e
    rw [← e]; exact h.1
  | k, x :: l, i + 1, d, h, e => by
    simp only [smL, Bool.and_eq_true] at h
    simp only [List.getElem?_cons_succ] at e
    exact smL_get h.2 e
theorem same_loop {C : Cs} {f : Nat} {l : List D} {S : Store} (h : ∀ d ∈ l, C.fn f [d, d] S = .ok (.bl true) S) : ∀ (m i : Nat) (x : Option D), i + m = l.length → ∃ x', forL (.nm 2) (fun ρ S => exSs C (bSameL f) ρ S) [] (upTo i m) [some (.tup l), some (.tup l), x] S = .nx [some (.tup l), some (.tup l), x'] S
  | 0, i, x, _ => ⟨x, forL_nil⟩
  | m + 1, i, x, hi => by
    have hl : i < l.length := by omega
    have hl2 : (i : Int) < l.length := by omega
    obtain ⟨x', e⟩ := same_loop h m (i + 1) (some (.int i)) (by omega)
    refine ⟨x', ?_⟩
    rw [← e]
    have hd := h _ (List.getElem_mem hl)
    exact forL_nx rfl (by simp (dsimp := false) (implicitDefEqProofs := false) [setS, bSameL, idxD, seqOf, ixN, hl, hd, truD, exSs, exS, evE, evT, evL, evI, evC, evW, startF, toR_nx])
theorem same_of {T : Tb} {f : Nat} (h : T.fns[f]? = some ⟨2, 3, bSame f, true⟩) : ∀ (k : Nat) (d : D), sm k d = true → ∀ (n : Nat) (S : Store), k ≤ n → run T (n + 1) f [d, d] S = .ok (.bl true) S := by
  intro k
  induction k with
  | zero =>
    intro d hd n S _
    rw [run_def h rfl]
    cases d with
    | non => simp (dsimp := false) (implicitDefEqProofs := false) [bSame, isNo, tidy_same, exSs, exS, evE, evT, evL, evI, evC, evW, startF, toR_nx]
    | bl b => simp (dsimp := false) (implicitDefEqProofs := false) [bSame, isNo, isAny, isD, truD, cmpD, pln, vw, eqD, tidy_same, exSs, exS, evE, evT, evL, evI, evC, evW, startF, toR_nx]
    | int i => simp (dsimp := false) (implicitDefEqProofs := false) [bSame, isNo, isAny, isD, truD, cmpD, pln, vw, eqD, tidy_same, exSs, exS, evE, evT, evL, evI, evC, evW, startF, toR_nx]
    | str s =>
      simp only [sm] at hd
      simp (dsimp := false) (implicitDefEqProofs := false) [bSame, isNo, isAny, isD, truD, cmpD, pln, vw, eqD, tidy_same, hd, exSs, exS, evE, evT, evL, evI, evC, evW, startF, toR_nx]
    | _ => simp [sm] at hd
  | succ k ih =>
    intro d hd n S hn
    rw [run_def h rfl]
    cases d with
    | non => simp (dsimp := false) (implicitDefEqProofs := false) [bSame, isNo, tidy_same, exSs, exS, evE, evT, evL, evI, evC, evW, startF, toR_nx]
    | bl b => simp (dsimp := false) (implicitDefEqProofs := false) [bSame, isNo, isAny, isD, truD, cmpD, pln, vw, eqD, tidy_same, exSs, exS, evE, evT, evL, evI, evC, evW, startF, toR_nx]
    | int i => simp (dsimp := false) (implicitDefEqProofs := false) [bSame, isNo, isAny, isD, truD, cmpD, pln, vw, eqD, tidy_same, exSs, exS, evE, evT, evL, evI, evC, evW, startF, toR_nx]
    | str s =>
      simp only [sm] at hd
      simp (dsimp := false) (implicitDefEqProofs := false) [bSame, isNo, isAny, isD, truD, cmpD, pln, vw, eqD, tidy_same, hd, exSs, exS, evE, evT, evL, evI, evC, evW, startF, toR_nx]
    | tup l =>
      simp only [sm, Bool.and_eq_true, decide_eq_true_eq] at hd
      obtain ⟨n, rfl⟩ : ∃ m, n = m + 1 := ⟨n - 1, by omega⟩
      have hl := lim_le hd.1
      obtain ⟨x', e⟩ := same_loop (C := csOf T (n + 1)) (f := f) (l := l) (S := S) (fun d hm => by
        obtain ⟨i, hi⟩ := List.mem_iff_getElem?.mp hm
        exact ih d (smL_get hd.2 hi) n S (by omega)) l.length 0 none (by omega)
      have e0 : (((0 : Nat) : Int)) = 0 := rfl
      rw [e0] at e
      simp (dsimp := false) (implicitDefEqProofs := false) [bSame, isNo, isAny, isD, truD, cmpD, pln, vw, eqD, tidy_same, biD, seqOf, rngIt, hl, e, tidy_same, exSs, exS, evE, evT, evL, evI, evC, evW, startF, toR_nx]
    | _ => simp [sm] at hd
end Lg
end
section
set_option maxRecDepth 100000
set_option maxHeartbeats 8000000
/-! comprehensions, data without cells -/
namespace Lg
open Ev
theorem flt_true {α : Type} (l : List α) : l.filter (fun _ => true) = l := List.filter_eq_self.mpr fun _ _ => rfl
theorem lcL_pure {tg : Tg} {fc : Fr → Store → Rs Bool} {fe : Fr → Store → Rs D} {ρ : Fr} {g : Gd} {X : Store} (p : D → Bool) (v : D → D) (hg : ∀ c, gOk g (X ++ [c]) = true) :
    ∀ (l : List D) (acc : List D), (∀ d ∈ l, ∀ c, ∃ ρ1, setT tg d ρ (X ++ [c]) = some ρ1 ∧ fc ρ1 (X ++ [c]) = .ok (p d) (X ++ [c]) ∧ (p d = true → fe ρ1 (X ++ [c]) = .ok (v d) (X ++ [c]))) → acc.length + l.length ≤ LIM →
      lcL tg fc fe ρ g X.length l (X ++ [.lst acc]) = .ok () (X ++ [.lst (acc ++ (l.filter p).map v)])
  | [], acc, _, _ => by simp [lcL, hg]
  | d :: l, acc, h, hl => by
    obtain ⟨ρ1, h1, h2, h3⟩ := h d List.mem_cons_self (.lst acc)
    simp only [List.length_cons] at hl
    have h' : ∀ d ∈ l, ∀ c, ∃ ρ1, setT tg d ρ (X ++ [c]) = some ρ1 ∧ fc ρ1 (X ++ [c]) = .ok (p d) (X ++ [c]) ∧ (p d = true → fe ρ1 (X ++ [c]) = .ok (v d) (X ++ [c])) := fun d hd => h d (List.mem_cons_of_mem _ hd)
    simp only [lcL, hg, if_true, h1, h2, th_ok]
    cases e : p d with
    | false =>
      simp only [Bool.false_eq_true, if_false]
      rw [lcL_pure p v hg l acc h' (by omega)]
      simp [e]
    | true =>
      simp only [if_true, h3 e, th_ok]
      simp only [List.getElem?_append_right (Nat.le_refl _), Nat.sub_self, List.getElem?_cons_zero]
      rw [if_pos (by omega)]
      rw [show (X ++ [Cell.lst acc]).set X.length (.lst (acc ++ [v d])) = X ++ [Cell.lst (acc ++ [v d])] by simp]
      rw [lcL_pure p v hg l (acc ++ [v d]) h' (by simp; omega)]
      simp [e]
theorem cut_self (S : Store) (c : Cell) : cutOk S (S ++ [c]) = true := by simp [cutOk]
theorem lcE_pure {S : Store} {l : List D} (hb : belowL S.length l = true) : lcE false S (S ++ [.lst l]) = .ok (.lst l) S := by
  simp [lcE, hb, cut_self]
/-- a comprehension that changes nothing -/
theorem lc_flt {C : Cs} {own : List Nat} {tg : Tg} {it : Iter} {c : Exo} {e : Ex} {ρ : Fr} {S : Store} {l : List D} {g : Gd} (p : D → Bool) (v : D → D)
    (hw : evW C it ρ S = .ok (l, g) S) (hg : ∀ c, gOk g (S ++ [c]) = true)
    (h : ∀ d ∈ l, ∀ x, ∃ ρ1, setT tg d (wipe ρ own) (S ++ [x]) = some ρ1 ∧ evC C c ρ1 (S ++ [x]) = .ok (p d) (S ++ [x]) ∧ (p d = true → evE C e ρ1 (S ++ [x]) = .ok (v d) (S ++ [x])))
    (hl : l.length ≤ LIM) (hb : belowL S.length ((l.filter p).map v) = true) : evE C (.lc false own tg it c e) ρ S = .ok (.lst ((l.filter p).map v)) S := by
  simp only [evE, hw, th_ok]
  rw [lcL_pure (fc := fun ρ S => evC C c ρ S) (fe := fun ρ S => evE C e ρ S) p v hg l [] h (by simpa using hl)]
  simp only [Rs.nox, th_ok, List.nil_append]
  exact lcE_pure hb
theorem lc_map {C : Cs} {own : List Nat} {tg : Tg} {it : Iter} {e : Ex} {ρ : Fr} {S : Store} {l : List D} {g : Gd} (v : D → D)
    (hw : evW C it ρ S = .ok (l, g) S) (hg : ∀ c, gOk g (S ++ [c]) = true)
    (h : ∀ d ∈ l, ∀ x, ∃ ρ1, setT tg d (wipe ρ own) (S ++ [x]) = some ρ1 ∧ evE C e ρ1 (S ++ [x]) = .ok (v d) (S ++ [x]))
    (hl : l.length ≤ LIM) (hb : belowL S.length (l.map v) = true) : evE C (.lc false own tg it .no e) ρ S = .ok (.lst (l.map v)) S := by
  have q := lc_flt (C := C) (own := own) (tg := tg) (it := it) (c := .no) (e := e) (fun _ => true) v hw hg (fun d hd x => by
    obtain ⟨ρ1, h1, h2⟩ := h d hd x
    exact ⟨ρ1, h1, by simp [evC], fun _ => h2⟩) hl (by rw [flt_true]; exact hb)
  rw [flt_true] at q
  exact q
/-- two generators -/
theorem lcL2_pure {tg tg2 : Tg} {fc fc2 : Fr → Store → Rs Bool} {fw : Fr → Store → Rs (List D × Gd)} {fe : Fr → Store → Rs D} {ρ : Fr} {g : Gd} {X : Store} (w : D → List D) (v : D → D → D) (hg : ∀ c, gOk g (X ++ [c]) = true) :
    ∀ (l : List D) (acc : List D), (∀ d ∈ l, ∀ c, ∃ ρ1 g1, setT tg d ρ (X ++ [c]) = some ρ1 ∧ fc ρ1 (X ++ [c]) = .ok true (X ++ [c]) ∧ fw ρ1 (X ++ [c]) = .ok (w d, g1) (X ++ [c]) ∧ (∀ c, gOk g1 (X ++ [c]) = true) ∧
        ∀ x ∈ w d, ∀ c, ∃ ρ2, setT tg2 x (wipe ρ1 (tgIx tg2)) (X ++ [c]) = some ρ2 ∧ fc2 ρ2 (X ++ [c]) = .ok true (X ++ [c]) ∧ fe ρ2 (X ++ [c]) = .ok (v d x) (X ++ [c])) → acc.length + (l.map fun d => (w d).length).sum ≤ LIM →
      lcL2 tg fc fw tg2 fc2 fe ρ g X.length l (X ++ [.lst acc]) = .ok () (X ++ [.lst (acc ++ l.flatMap fun d => (w d).map (v d))])
  | [], acc, _, _ => by simp [lcL2, hg]
  | d :: l, acc, h, hl => by
    obtain ⟨ρ1, g1, h1, h2, h3, h4, h5⟩ := h d List.mem_cons_self (.lst acc)
    simp only [List.map_cons, List.sum_cons] at hl
    simp only [lcL2, hg, if_true, h1, h2, h3, th_ok]
    rw [lcL_pure (fun _ => true) (v d) h4 (w d) acc (fun x hx c => by
      obtain ⟨ρ2, k1, k2, k3⟩ := h5 x hx c
      exact ⟨ρ2, k1, k2, fun _ => k3⟩) (by omega)]
    simp only [th_ok, flt_true]
    rw [lcL2_pure w v hg l _ (fun d hd => h d (List.mem_cons_of_mem _ hd)) (by simp; omega)]
    simp
theorem lc2_map {C : Cs} {own : List Nat} {tg tg2 : Tg} {it it2 : Iter} {e : Ex} {ρ : Fr} {S : Store} {l : List D} {g : Gd} (w : D → List D) (v : D → D → D)
    (hw : evW C it ρ S = .ok (l, g) S) (hg : ∀ c, gOk g (S ++ [c]) = true)
    (h : ∀ d ∈ l, ∀ c, ∃ ρ1 g1, setT tg d (wipe ρ own) (S ++ [c]) = some ρ1 ∧ evW C it2 ρ1 (S ++ [c]) = .ok (w d, g1) (S ++ [c]) ∧ (∀ c, gOk g1 (S ++ [c]) = true) ∧
        ∀ x ∈ w d, ∀ c, ∃ ρ2, setT tg2 x (wipe ρ1 (tgIx tg2)) (S ++ [c]) = some ρ2 ∧ evE C e ρ2 (S ++ [c]) = .ok (v d x) (S ++ [c]))
    (hl : (l.map fun d => (w d).length).sum ≤ LIM) (hb : belowL S.length (l.flatMap fun d => (w d).map (v d)) = true) : evE C (.lc2 false own tg it .no tg2 it2 .no e) ρ S = .ok (.lst (l.flatMap fun d => (w d).map (v d))) S := by
  simp only [evE, hw, th_ok]
  rw [lcL2_pure (fc := fun ρ S => evC C .no ρ S) (fw := fun ρ S => evW C it2 ρ S) (fc2 := fun ρ S => evC C .no ρ S) (fe := fun ρ S => evE C e ρ S) w v hg l [] (fun d hd c => by
    obtain ⟨ρ1, g1, h1, h2, h3, h4⟩ := h d hd c
    refine ⟨ρ1, g1, h1, by simp [evC], h2, h3, fun x hx c => ?_⟩
    obtain ⟨ρ2, k1, k2⟩ := h4 x hx c
    exact ⟨ρ2, k1, by simp [evC], k2⟩) (by simpa using hl)]
  simp only [Rs.nox, th_ok, List.nil_append]
  exact lcE_pure hb
/-! plain data -/
mutual
theorem pln_below {n : Nat} : ∀ (k : Nat) (d : D), pln k d = true → below n d = true
  | _, .non, _ => rfl
  | _, .bl _, _ => rfl
  | _, .int _, _ => rfl
  | _, .str _, _ => rfl
  | 0, .tup _, h => by simp [pln] at h
  | 0, .lst _, h => by simp [pln] at h
  | k + 1, .tup l, h => by simp only [pln] at h; simp only [below]; exact plnL_below k l h
  | k + 1, .lst l, h => by simp only [pln] at h; simp only [below]; exact plnL_below k l h
  | _, .ref _, h => by simp [pln] at h
  | _, .obj _ _, h => by simp [pln] at h
theorem plnL_below {n : Nat} : ∀ (k : Nat) (l : List D), plnL k l = true → belowL n l = true
  | _, [], _ => rfl
  | k, d :: l, h => by
    simp only [plnL, Bool.and_eq_true] at h
    simp only [belowL, Bool.and_eq_true]
    exact ⟨pln_below k d h.1, plnL_below k l h.2⟩
end
theorem plnL_of {k : Nat} {l : List D} : (∀ d ∈ l, pln k d = true) → plnL k l = true := by
  induction l with
  | nil => intro _; rfl
  | cons d l ih => intro h; simp [plnL, h d List.mem_cons_self, ih fun x hx => h x (List.mem_cons_of_mem _ hx)]
theorem belowL_of {n : Nat} {l : List D} : (∀ d ∈ l, below n d = true) → belowL n l = true := by
  induction l with
  | nil => intro _; rfl
  | cons d l ih => intro h; simp [belowL, h d List.mem_cons_self, ih fun x hx => h x (List.mem_cons_of_mem _ hx)]
@[simp] theorem plnL_ints (k : Nat) (l : List Int) : plnL k (l.map .int) = true := plnL_of fun d hd => by
  obtain ⟨i, _, rfl⟩ := List.mem_map.mp hd
  cases k <;> rfl
@[simp] theorem belowL_ints (k : Nat) (l : List Int) : belowL k (l.map .int) = true := plnL_below 0 _ (plnL_ints 0 l)
@[simp] theorem pln_tupI (k : Nat) (l : List Int) : pln (k + 1) (tupI l) = true := by simp [tupI, pln]
@[simp] theorem plnL_tups (k : Nat) (l : List (List Int)) : plnL (k + 1) (l.map tupI) = true := plnL_of fun d hd => by
  obtain ⟨i, _, rfl⟩ := List.mem_map.mp hd
  exact pln_tupI k i
@[simp] theorem below_tupI (k : Nat) (l : List Int) : below k (tupI l) = true := pln_below 1 _ (pln_tupI 0 l)
@[simp] theorem belowL_tups (k : Nat) (l : List (List Int)) : belowL k (l.map tupI) = true := plnL_below 1 _ (plnL_tups 0 l)
@[simp] theorem allInt_ints : ∀ l : List Int, allInt (l.map .int) = some l
  | [] => rfl
  | x :: l => by simp [allInt, allInt_ints l]
theorem allTup_tups : ∀ l : List (List Int), (∀ r ∈ l, r ≠ []) → allTup (l.map tupI) = some l
  | [], _ => rfl
  | r :: l, h => by
    have h1 := allTup_tups l fun x hx => h x (List.mem_cons_of_mem _ hx)
    have h2 := h r List.mem_cons_self
    cases r with
    | nil => exact absurd rfl h2
    | cons x xs =>
      have h3 := allInt_ints (x :: xs)
      simp only [List.map_cons] at h3 h1
      rw [List.map_cons]
      unfold tupI at h1 ⊢
      simp only [List.map_cons, allTup, h3, h1]
theorem allInt_tups {r : List Int} {l : List (List Int)} : allInt ((r :: l).map tupI) = none := by simp [tupI, allInt]
@[simp] theorem eqL_ints : ∀ l r : List Int, eqL (l.map .int) (r.map .int) = decide (l = r)
  | [], [] => by simp [eqL]
  | [], _ :: _ => by simp [eqL]
  | _ :: _, [] => by simp [eqL]
  | x :: l, y :: r => by
    simp only [List.map_cons, eqL, eqD, eqL_ints l r, List.cons.injEq]
    by_cases h : x = y <;> simp [h]
@[simp] theorem eqD_tupI (l r : List Int) : eqD (tupI l) (tupI r) = decide (l = r) := by simp [tupI, eqD]
@[simp] theorem eqL_tups : ∀ l r : List (List Int), eqL (l.map tupI) (r.map tupI) = decide (l = r)
  | [], [] => by simp [eqL]
  | [], _ :: _ => by simp [eqL]
  | _ :: _, [] => by simp [eqL]
  | x :: l, y :: r => by
    simp only [List.map_cons, eqL, eqD_tupI, eqL_tups l r, List.cons.injEq]
    by_cases h : x = y <;> simp [h]
theorem any_ints (l : List Int) (p : Int) : ((l.map D.int).any fun x => eqD x (.int p)) = decide (p ∈ l) := by
  induction l with
  | nil => rfl
  | cons x l ih =>
    simp only [List.map_cons, List.any_cons, ih, eqD, List.mem_cons]
    by_cases h : x = p
    · subst h; simp
    · have : ¬ p = x := fun z => h z.symm
      simp [h, this]
theorem flD_ints (l : List Int) : (l.map D.int).all flD = true := by
  rw [List.all_eq_true]
  intro d hd
  obtain ⟨i, _, rfl⟩ := List.mem_map.mp hd
  rfl
/-- p in a tuple of ints -/
theorem inD_tupI (p : Int) (l : List Int) (S : Store) : inD (.int p) (tupI l) S = some (decide (p ∈ l)) := by
  simp only [inD, tupI, flD_ints, any_ints]
  simp [flD]
theorem inD_lst (p : Int) (l : List Int) (S : Store) : inD (.int p) (.lst (l.map .int)) S = some (decide (p ∈ l)) := by
  simp only [inD, lstOf, vw, plnL_ints, any_ints]
  simp [pln]
theorem upTo_map : ∀ (n : Nat) (i : Int), upTo i n = ((List.range n).map fun k => .int (i + (k : Nat)))
  | 0, _ => rfl
  | n + 1, i => by
    rw [upTo, upTo_map n (i + 1), List.range_succ_eq_map, List.map_cons, List.map_map]
    simp only [List.cons.injEq]
    refine ⟨by simp, List.map_congr_left fun k _ => ?_⟩
    simp only [Function.comp]
    congr 1
    push_cast
    omega
theorem upTo0 (n : Nat) : upTo 0 n = (List.range n).map fun k => .int (k : Nat) := by
  rw [upTo_map]
  exact List.map_congr_left fun k _ => by simp
theorem allBl_map {α : Type} (f : α → Bool) : ∀ l : List α, allBl (l.map fun x => .bl (f x)) = some (l.map f)
  | [] => rfl
  | x :: l => by simp [allBl, allBl_map f l]
theorem band_nat (a b : Nat) : PySem.Builtin.bitAnd (a : Int) (b : Int) = ((a &&& b : Nat) : Int) := by
  unfold PySem.Builtin.bitAnd
  simp
theorem bor_nat (a b : Nat) : PySem.Builtin.bitOr (a : Int) (b : Int) = ((a ||| b : Nat) : Int) := by
  have nn : ∀ z : Int, PySem.Builtin.bitNot (PySem.Builtin.bitNot z) = z := fun z => by
    show -(-z - 1) - 1 = z
    omega
  have h1 : decide (0 ≤ PySem.Builtin.bitNot (a : Int)) = false := decide_eq_false (by show ¬ (0 : Int) ≤ -(a : Int) - 1; omega)
  have h2 : decide (0 ≤ PySem.Builtin.bitNot (b : Int)) = false := decide_eq_false (by show ¬ (0 : Int) ≤ -(b : Int) - 1; omega)
  unfold PySem.Builtin.bitOr PySem.Builtin.bitAnd
  simp only [h1, h2, nn, Int.toNat_natCast]
theorem bit_nat (m p : Nat) : PySem.Builtin.bitAnd ((m : Int) / 2 ^ p) 1 = if m.testBit p = true then 1 else 0 := by
  have e : (m : Int) / 2 ^ p = ((m / 2 ^ p : Nat) : Int) := by push_cast; rfl
  rw [e, show (1 : Int) = ((1 : Nat) : Int) from rfl, band_nat, Nat.and_one_is_mod, Nat.testBit_eq_decide_div_mod_eq]
  have := Nat.mod_lt (m / 2 ^ p) (show 0 < 2 by decide)
  by_cases h : m / 2 ^ p % 2 = 1
  · simp [h]
  · have h0 : m / 2 ^ p % 2 = 0 := by omega
    simp [h0]
theorem gOk_app (g : Gd) (S : Store) (h : g = []) (c : Cell) : gOk g (S ++ [c]) = true := by subst h; exact gOk_nil _
end Lg
end
section
set_option maxRecDepth 100000
set_option maxHeartbeats 8000000
/-! the helpers of the laws k00 to k25 -/
namespace Lg
open Ev
def bDrawL : Sts := (.cons (.ife (.or (.cmp .gt (.idx (.var 0) (.int 2)) (.int 0)) (.cmp .ge (.idx (.var 0) (.int 3)) (.bi .len false (.cons (.var 2) .nil))))
    (.cons .brk
    .nil)
    .nil)
    (.cons (.ife (.cmp .ge (.bi .abs false (.cons (.idx (.var 2) (.idx (.var 0) (.int 3))) .nil)) (.bin .pow false (.int 10) (.int 15)))
    (.cons (.asgI (.var 0) (.int 2) (.bi .abs false (.cons (.idx (.var 2) (.idx (.var 0) (.int 3))) .nil)))
    .nil)
    .nil)
    (.cons (.asgI (.var 0) (.int 3) (.bin .add false (.idx (.var 0) (.int 3)) (.int 1)))
    .nil)))
def bDraw2 : Sts :=     (.cons (.asg 5 (.bin .mod false (.bi .int false (.cons (.bin .add false (.bin .add false (.bin .mul false (.var 4) (.int 40692)) (.bin .mul false (.idx (.var 0) (.int 1)) (.int 52774))) (.int 11)) .nil)) (.int 2147483399)))
    (.cons (.asg 5 (.bin .mod false (.bi .int false (.cons (.bin .add false (.bin .add false (.bin .mul false (.var 5) (.var 5)) (.bin .mul false (.idx (.var 0) (.int 1)) (.int 40014))) (.bin .div false (.var 4) (.int 3))) .nil)) (.int 2147483563)))
    (.cons (.asg 5 (.bin .mod false (.bi .int false (.cons (.bin .add false (.bin .mul false (.var 5) (.int 16807)) (.int 29)) .nil)) (.int 998244353)))
    (.cons (.ret (.bin .mod false (.bi .int false (.cons (.bin .div false (.var 5) (.int 7)) .nil)) (.var 1)))
    .nil))))
def bDraw : Sts := (.cons (.asg 2 (.idx (.var 0) (.int 0)))
    (.cons (.asgI (.var 0) (.int 1) (.bin .add false (.idx (.var 0) (.int 1)) (.int 1)))
    (.cons (.forr (.nm 3) (.rng (.cons (.bi .len false (.cons (.var 2) .nil)) .nil))
    bDrawL)
    (.cons (.ife (.cmp .gt (.idx (.var 0) (.int 2)) (.int 0))
    (.cons (.asg 6 (.bin .mod false (.bi .int false (.cons (.idx (.var 0) (.int 2)) .nil)) (.var 1)))
    (.cons (.asgI (.var 0) (.int 2) (.bin .div false (.idx (.var 0) (.int 2)) (.var 1)))
    (.cons (.ret (.var 6))
    .nil)))
    .nil)
    (.cons (.asg 4 (.int 0))
    (.cons (.ife (.cmp .gt (.bi .len false (.cons (.var 2) .nil)) (.int 0))
    (.cons (.asg 4 (.bin .mod false (.bi .int false (.cons (.bi .abs false (.cons (.idx (.var 2) (.bin .mod false (.bi .int false (.cons (.idx (.var 0) (.int 1)) .nil)) (.bi .len false (.cons (.var 2) .nil)))) .nil)) .nil)) (.int 1000000007)))
    .nil)
    .nil)
    bDraw2))))))
def std (ns : List Int) (a b c : Int) : Cell := .lst [.lst (ns.map .int), .int c, .int b, .int a]
theorem draw_loop (C : Cs) (ns : List Int) (m c : Int) (X : Store) : ∀ (L : List D) (x : Option D) (a b : Int), 0 ≤ a → 0 ≤ b → ∃ x' a' b', forL (.nm 3) (fun ρ S => exSs C bDrawL ρ S) [] L [some (.ref 0), some (.int m), some (.lst (ns.map .int)), x, none, none, none] (std ns a b c :: X) = .nx [some (.ref 0), some (.int m), some (.lst (ns.map .int)), x', none, none, none] (std ns a' b' c :: X) ∧ 0 ≤ a' ∧ 0 ≤ b'
  | [], x, a, b, ha, hb => ⟨x, a, b, by simp [forL, gOk_nil], ha, hb⟩
  | d :: L, x, a, b, ha, hb => by
    by_cases h1 : 0 < b
    · exact ⟨some d, a, b, forL_bk rfl (by simp (dsimp := false) (implicitDefEqProofs := false) [setS, bDrawL, std, idxD, seqOf, ixN, cmpD, intCmp, cmpI, h1, exSs, exS, evE, evT, evL, evI, evC, evW, startF, toR_nx]), ha, hb⟩
    by_cases h2 : (ns.length : Int) ≤ a
    · exact ⟨some d, a, b, forL_bk rfl (by simp (dsimp := false) (implicitDefEqProofs := false) [setS, bDrawL, std, idxD, seqOf, ixN, cmpD, intCmp, cmpI, h1, h2, biD, exSs, exS, evE, evT, evL, evI, evC, evW, startF, toR_nx]), ha, hb⟩
    have h3 : a.toNat < ns.length := by omega
    have h4 : a < ns.length := by omega
    by_cases h5 : (1000000000000000 : Int) ≤ (ns[a.toNat]).natAbs
    · obtain ⟨x', a', b', e, h⟩ := draw_loop C ns m c X L (some d) (a + 1) (ns[a.toNat]).natAbs (by omega) (by omega)
      refine ⟨x', a', b', ?_, h⟩
      rw [← e]
      exact forL_nx rfl (by simp (dsimp := false) (implicitDefEqProofs := false) [setS, bDrawL, std, idxD, seqOf, ixN, cmpD, intCmp, cmpI, h1, h2, biD, ha, h3, h4, abs_of, binD, arI, setI, h5, exSs, exS, evE, evT, evL, evI, evC, evW, startF, toR_nx])
    · obtain ⟨x', a', b', e, h⟩ := draw_loop C ns m c X L (some d) (a + 1) b (by omega) (by omega)
      refine ⟨x', a', b', ?_, h⟩
      rw [← e]
      exact forL_nx rfl (by simp (dsimp := false) (implicitDefEqProofs := false) [setS, bDrawL, std, idxD, seqOf, ixN, cmpD, intCmp, cmpI, h1, h2, biD, ha, h3, h4, abs_of, binD, arI, setI, h5, exSs, exS, evE, evT, evL, evI, evC, evW, startF, toR_nx])
/-- the mixing at the end -/
theorem draw_of {T : Tb} {f : Nat} (h : T.fns[f]? = some ⟨2, 7, bDraw, true⟩) {ns : List Int} (hn : ns.length ≤ 63) {a b c m : Int} (ha : 0 ≤ a) (hb : 0 ≤ b) (hc : 0 ≤ c) (hcw : c < 2 ^ 100) (hm : 0 < m) (hmw : m < 2 ^ 100) (n : Nat) (X : Store) :
    ∃ r a' b', run T (n + 1) f [.ref 0, .int m] (std ns a b c :: X) = .ok (.int r) (std ns a' b' (c + 1) :: X) ∧ 0 ≤ r ∧ r < m ∧ 0 ≤ a' ∧ 0 ≤ b' := by
  obtain ⟨x', a', b', e, ha', hb'⟩ := draw_loop (csOf T n) ns m (c + 1) X (upTo 0 ns.length) none a b ha hb
  have hl := lim_le (n := ns.length) (by omega)
  have hw : m.natAbs < Wd := wd_lt2 (by omega) (by omega)
  have cw : (c + 1).natAbs < Wd := wd_lt2 (by omega) (by omega)
  simp only [std] at e
  by_cases h1 : 0 < b'
  · refine ⟨b' % m, a', b' / m, ?_, Int.emod_nonneg _ (by omega), Int.emod_lt_of_pos _ hm, ha', Int.ediv_nonneg hb' (by omega)⟩
    rw [run_def h rfl]
    simp (dsimp := false) (implicitDefEqProofs := false) [bDraw, std, idxD, seqOf, ixN, binD, arI, setI, setS, biD, rngIt, hl, e, cmpD, intCmp, cmpI, h1, hm, hw, exSs, exS, evE, evT, evL, evI, evC, evW, startF, toR_nx]
    exact tidy_len rfl
  · have fin : ∀ s : Int, 0 ≤ s → s < 1000000007 → ∃ r, 0 ≤ r ∧ r < m ∧ exSs (csOf T n) bDraw2 [some (.ref 0), some (.int m), some (.lst (ns.map .int)), x', some (.int s), none, none] (std ns a' b' (c + 1) :: X) = .rt (.int r) (std ns a' b' (c + 1) :: X) := by
      intro s h0 h2
      have k1 : s.natAbs < Wd := wd_lt2 (by omega) (by omega)
      have g1 : ∀ i j : Int, 0 < j → j < 2 ^ 100 → (i % j).natAbs < Wd := fun i j x y => by
        have := Int.emod_nonneg i (show j ≠ 0 by omega)
        have := Int.emod_lt_of_pos i x
        exact wd_lt2 (by omega) (by omega)
      have g2 : ∀ i : Nat, i < 2 ^ 100 → i < Wd := fun i x => by
        have := wd_lt2 (i := (i : Int)) (by omega) (by omega)
        omega
      refine ⟨_, ?_, ?_, by
        simp (dsimp := false) (implicitDefEqProofs := false) [bDraw2, std, idxD, seqOf, ixN, binD, arI, setI, setS, biD, hm, k1, cw, g2, g1, exSs, exS, evE, evT, evL, evI, evC, evW, startF, toR_nx]
        rfl⟩
      · exact Int.emod_nonneg _ (by omega)
      · exact Int.emod_lt_of_pos _ hm
    simp only [std] at fin
    by_cases h2 : 0 < ns.length
    · have n1 : ((c + 1) % (ns.length : Int)).toNat < ns.length := by
        have := Int.emod_lt_of_pos (c + 1) (show (0 : Int) < ns.length by omega)
        have := Int.emod_nonneg (c + 1) (show (ns.length : Int) ≠ 0 by omega)
        omega
      have n2 : (c + 1) % (ns.length : Int) < ns.length := Int.emod_lt_of_pos (c + 1) (show (0 : Int) < ns.length by omega)
      have n3 : 0 ≤ (c + 1) % (ns.length : Int) := Int.emod_nonneg (c + 1) (show (ns.length : Int) ≠ 0 by omega)
      obtain ⟨r, r0, r1, er⟩ := fin (((ns[((c + 1) % (ns.length : Int)).toNat]).natAbs : Int) % 1000000007) (Int.emod_nonneg _ (by omega)) (Int.emod_lt_of_pos _ (by omega))
      refine ⟨r, a', b', ?_, r0, r1, ha', hb'⟩
      rw [run_def h rfl]
      simp (dsimp := false) (implicitDefEqProofs := false) [bDraw, std, idxD, seqOf, ixN, binD, arI, setI, setS, biD, rngIt, hl, e, cmpD, intCmp, cmpI, h1, hm, hw, h2, n1, n2, n3, abs_of, er, exSs, exS, evE, evT, evL, evI, evC, evW, startF, toR_nx]
      exact tidy_len rfl
    · obtain ⟨r, r0, r1, er⟩ := fin 0 (by omega) (by omega)
      refine ⟨r, a', b', ?_, r0, r1, ha', hb'⟩
      rw [run_def h rfl]
      simp (dsimp := false) (implicitDefEqProofs := false) [bDraw, std, idxD, seqOf, ixN, binD, arI, setI, setS, biD, rngIt, hl, e, cmpD, intCmp, cmpI, h1, hm, hw, h2, er, exSs, exS, evE, evT, evL, evI, evC, evW, startF, toR_nx]
      exact tidy_len rfl
theorem std0 (ns : List Int) : stc ns 0 0 0 = std ns 0 0 0 := rfl
end Lg
end
section
set_option maxRecDepth 100000
set_option maxHeartbeats 8000000
/-! families of places: what is left by taking places and lots away -/
namespace Lg
open Ev
def ddl {α : Type} [DecidableEq α] : List α → List α → List α
  | acc, [] => acc
  | acc, x :: r => if acc.getLast? = some x then ddl acc r else ddl (acc ++ [x]) r
theorem ddl_map {α β : Type} [DecidableEq α] [DecidableEq β] (f : α → β) (hf : ∀ a b, f a = f b → a = b) : ∀ (L acc : List α), ddl (acc.map f) (L.map f) = (ddl acc L).map f
  | [], acc => rfl
  | x :: L, acc => by
    simp only [List.map_cons, ddl, List.getLast?_map]
    have e : (acc.getLast?.map f = some (f x)) ↔ acc.getLast? = some x := by
      cases acc.getLast? with
      | none => simp
      | some y => simp only [Option.map_some, Option.some.injEq]; exact ⟨hf _ _, fun h => by rw [h]⟩
    by_cases h : acc.getLast? = some x
    · rw [if_pos h, if_pos (e.mpr h)]
      exact ddl_map f hf L acc
    · rw [if_neg h, if_neg (fun z => h (e.mp z))]
      have := ddl_map f hf L (acc ++ [x])
      simpa using this
theorem ddl_len {α : Type} [DecidableEq α] : ∀ (L acc : List α), (ddl acc L).length ≤ acc.length + L.length
  | [], acc => by simp [ddl]
  | x :: L, acc => by
    simp only [ddl]
    split
    · have := ddl_len L acc
      simp only [List.length_cons]; omega
    · have := ddl_len L (acc ++ [x])
      simp only [List.length_cons, List.length_append, List.length_nil] at this ⊢; omega
abbrev Fam := List (List Int)
def gt (F : Fam) (k : Nat) : List Int := F.getD k []
def un (F : Fam) : List Int := ddl [] (sortI F.flatten)
def cnt (p : Int) (F : Fam) : Nat := (F.filter fun r => decide (p ∈ r)).length
def lon (F : Fam) : List Int := (un F).filter fun p => decide (cnt p F = 1)
def lo (r P : List Int) : List Int := r.filter fun p => !decide (p ∈ P)
def wi (r q : List Int) : Bool := r.all fun p => decide (p ∈ q)
def swj (F : Fam) (k j : Nat) : Bool := decide (j ≠ k) && (wi (gt F k) (gt F j) && (decide ((gt F k).length < (gt F j).length) || decide (j < k)))
def swl (F : Fam) (k : Nat) : Bool := (gt F k).isEmpty || (List.range F.length).any (swj F k)
def slim (F : Fam) : Fam := F.map fun r => lo r (lon F)
def keep (s : Fam) : Fam := ((List.range s.length).filter fun k => !swl s k).map (gt s)
def bo (F : Fam) : Fam := keep (slim F)
def Sm (F : Fam) : Prop := F.length ≤ 100 ∧ ∀ r ∈ F, r.length ≤ 8
theorem gt_lt {F : Fam} {k : Nat} (h : k < F.length) : gt F k = F[k] := by simp [gt, h]
theorem gt_mem {F : Fam} {k : Nat} (h : k < F.length) : gt F k ∈ F := by rw [gt_lt h]; exact List.getElem_mem h
theorem gt_map (F : Fam) : (List.range F.length).map (gt F) = F := by
  apply List.ext_getElem
  · simp
  · intro i h1 h2
    simp [gt_lt h2]
theorem flat_len : ∀ (F : Fam), (∀ r ∈ F, r.length ≤ 8) → F.flatten.length ≤ 8 * F.length
  | [], _ => by simp
  | r :: F, h => by
    have h1 := h r List.mem_cons_self
    have h2 := flat_len F fun x hx => h x (List.mem_cons_of_mem _ hx)
    simp only [List.flatten_cons, List.length_append, List.length_cons]
    omega

theorem mem_ddl {α : Type} [DecidableEq α] (x : α) : ∀ (L acc : List α), x ∈ ddl acc L ↔ x ∈ acc ∨ x ∈ L
  | [], acc => by simp [ddl]
  | y :: L, acc => by
    simp only [ddl]
    split
    · rename_i h
      rw [mem_ddl x L acc]
      have hy : y ∈ acc := List.mem_of_getLast? h
      constructor
      · rintro (h | h)
        · exact .inl h
        · exact .inr (List.mem_cons_of_mem _ h)
      · rintro (h | h)
        · exact .inl h
        · rcases List.mem_cons.mp h with rfl | h
          · exact .inl hy
          · exact .inr h
    · rw [mem_ddl x L (acc ++ [y])]
      simp only [List.mem_append, List.mem_cons, List.not_mem_nil, or_false, or_assoc]
theorem ddl_nodup {α : Type} [DecidableEq α] : ∀ (L acc : List α), (acc ++ L).Nodup → ddl acc L = acc ++ L
  | [], acc, _ => by simp [ddl]
  | y :: L, acc, h => by
    simp only [ddl]
    rw [if_neg, ddl_nodup L (acc ++ [y]) (by simpa using h)]
    · simp
    · intro e
      have := List.mem_of_getLast? e
      have h2 := (List.nodup_append.mp h).2.2 y this y List.mem_cons_self
      exact h2 rfl
theorem mem_un {F : Fam} {p : Int} : p ∈ un F ↔ ∃ r ∈ F, p ∈ r := by
  unfold un
  rw [mem_ddl, (sortI_perm _).mem_iff, List.mem_flatten]
  simp
theorem mem_lo {r P : List Int} {p : Int} : p ∈ lo r P ↔ p ∈ r ∧ p ∉ P := by simp [lo]
theorem wi_iff {r q : List Int} : wi r q = true ↔ ∀ p ∈ r, p ∈ q := by simp [wi]
theorem wi_refl (r : List Int) : wi r r = true := wi_iff.mpr fun _ h => h
theorem mem_lon {F : Fam} {p : Int} (h : p ∈ lon F) : cnt p F = 1 := by
  have := (List.mem_filter.mp h).2
  simpa using this
/-! #### two in a list -/
theorem two_of {α : Type} {l : List α} {a b : α} (ha : a ∈ l) (hb : b ∈ l) (h : a ≠ b) : 2 ≤ l.length := by
  match l with
  | [] => simp at ha
  | [x] =>
    rw [List.mem_singleton] at ha hb
    exact absurd (ha.trans hb.symm) h
  | _ :: _ :: l => simp
theorem of_two {α : Type} {l : List α} (hn : l.Nodup) (h : 2 ≤ l.length) : ∃ a ∈ l, ∃ b ∈ l, a ≠ b := by
  match l, h with
  | a :: b :: l, _ =>
    refine ⟨a, by simp, b, by simp, ?_⟩
    intro e
    subst e
    simp at hn
theorem nodup_sub_len {α : Type} [DecidableEq α] : ∀ {l m : List α}, l.Nodup → (∀ x ∈ l, x ∈ m) → l.length ≤ m.length
  | [], _, _, _ => Nat.zero_le _
  | x :: l, m, hn, h => by
    obtain ⟨h1, h2⟩ := List.nodup_cons.mp hn
    have hx := h x List.mem_cons_self
    have := nodup_sub_len (m := m.erase x) h2 fun y hy => (List.mem_erase_of_ne (fun e => by subst e; exact h1 hy)).mpr (h y (List.mem_cons_of_mem _ hy))
    rw [List.length_erase_of_mem hx] at this
    have := List.length_pos_of_mem hx
    simp only [List.length_cons]
    omega
theorem nodup_sub_eq {α : Type} [DecidableEq α] {l m : List α} (hn : l.Nodup) (h : ∀ x ∈ l, x ∈ m) (hl : m.length ≤ l.length) : ∀ x ∈ m, x ∈ l := by
  intro x hx
  by_cases hxl : x ∈ l
  · exact hxl
  · exfalso
    have := nodup_sub_len (l := x :: l) (m := m) (List.nodup_cons.mpr ⟨hxl, hn⟩) fun y hy => by
      rcases List.mem_cons.mp hy with rfl | hy
      · exact hx
      · exact h y hy
    simp only [List.length_cons] at this
    omega
/-! #### what stays -/
def Tr (S : Int → Prop) (F G : Fam) : Prop := ∀ r ∈ F, (∃ p, p ∈ r ∧ S p) → ∃ q ∈ G, ∀ p ∈ r, S p → p ∈ q
def TT (S : Int → Prop) (F G : Fam) : Prop := Tr S F G ∧ Tr S G F
def Stab (F : Fam) (S : Int → Prop) : Prop := ∀ G, TT S F G → ∀ p, S p → ∃ a ∈ G, ∃ b ∈ G, a ≠ b ∧ p ∈ a ∧ p ∈ b
def Rel (F G : Fam) : Prop := ∀ S, (Stab F S ↔ Stab G S) ∧ (Stab F S → TT S F G)
def Red (F : Fam) : Prop := (∀ p, cnt p F ≠ 1) ∧ (∀ r ∈ F, r ≠ []) ∧ F.Pairwise fun a b => wi a b = false ∧ wi b a = false
def Srt (F : Fam) : Prop := ∀ r ∈ F, r.Pairwise (· < ·)
theorem Tr.refl (S : Int → Prop) (F : Fam) : Tr S F F := fun r hr _ => ⟨r, hr, fun _ h _ => h⟩
theorem Tr.trans {S : Int → Prop} {F G K : Fam} (h : Tr S F G) (k : Tr S G K) : Tr S F K := fun r hr ⟨p, hp, sp⟩ => by
  obtain ⟨q, hq, e⟩ := h r hr ⟨p, hp, sp⟩
  obtain ⟨u, hu, e2⟩ := k q hq ⟨p, e p hp sp, sp⟩
  exact ⟨u, hu, fun x hx sx => e2 x (e x hx sx) sx⟩
theorem TT.refl (S : Int → Prop) (F : Fam) : TT S F F := ⟨Tr.refl S F, Tr.refl S F⟩
theorem TT.symm {S : Int → Prop} {F G : Fam} (h : TT S F G) : TT S G F := ⟨h.2, h.1⟩
theorem TT.trans {S : Int → Prop} {F G K : Fam} (h : TT S F G) (k : TT S G K) : TT S F K := ⟨h.1.trans k.1, k.2.trans h.2⟩
theorem Stab.tt {S : Int → Prop} {F G : Fam} (t : TT S F G) (h : Stab F S) : Stab G S := fun K k => h K (t.trans k)
theorem Stab.two {S : Int → Prop} {F : Fam} (h : Stab F S) {p : Int} (hp : S p) : 2 ≤ cnt p F := by
  obtain ⟨a, ha, b, hb, e, pa, pb⟩ := h F (TT.refl S F) p hp
  exact two_of (List.mem_filter.mpr ⟨ha, by simpa using pa⟩) (List.mem_filter.mpr ⟨hb, by simpa using pb⟩) e
theorem Rel.refl (F : Fam) : Rel F F := fun S => ⟨Iff.rfl, fun _ => TT.refl S F⟩
theorem Rel.symm {F G : Fam} (h : Rel F G) : Rel G F := fun S => ⟨(h S).1.symm, fun s => ((h S).2 ((h S).1.mpr s)).symm⟩
theorem Rel.trans {F G K : Fam} (h : Rel F G) (k : Rel G K) : Rel F K := fun S => ⟨(h S).1.trans (k S).1, fun s => ((h S).2 s).trans ((k S).2 ((h S).1.mp s))⟩
theorem rel_of {F G : Fam} (h1 : ∀ S, Stab F S → TT S F G) (h2 : ∀ S, Stab G S → TT S F G) : Rel F G := fun S => ⟨⟨fun s => s.tt (h1 S s), fun s => s.tt (h2 S s).symm⟩, h1 S⟩
/-- lots within others are taken away -/
theorem rel_sub {F G : Fam} (h1 : ∀ r ∈ G, r ∈ F) (h2 : ∀ r ∈ F, r = [] ∨ ∃ q ∈ G, wi r q = true) : Rel F G := by
  have t : ∀ S, TT S F G := fun S => ⟨fun r hr ⟨p, hp, _⟩ => by
    rcases h2 r hr with rfl | ⟨q, hq, e⟩
    · simp at hp
    · exact ⟨q, hq, fun x hx _ => wi_iff.mp e x hx⟩, fun r hr _ => ⟨r, h1 r hr, fun _ h _ => h⟩⟩
  exact rel_of (fun S _ => t S) fun S _ => t S
/-- lonely places are taken away -/
theorem rel_lone {F : Fam} (P : Int → Bool) (h : ∀ p, P p = true → cnt p F ≤ 1) : Rel F (F.map fun r => r.filter fun p => !P p) := by
  have t : ∀ S : Int → Prop, (∀ p, S p → P p = false) → TT S F (F.map fun r => r.filter fun p => !P p) := fun S n => by
    refine ⟨fun r hr _ => ⟨_, List.mem_map.mpr ⟨r, hr, rfl⟩, fun p hp sp => List.mem_filter.mpr ⟨hp, by rw [n p sp]; rfl⟩⟩, fun r hr _ => ?_⟩
    obtain ⟨q, hq, rfl⟩ := List.mem_map.mp hr
    exact ⟨q, hq, fun p hp _ => (List.mem_filter.mp hp).1⟩
  refine rel_of (fun S s => t S fun p sp => ?_) fun S s => t S fun p sp => ?_
  · have := s.two sp
    cases e : P p with
    | false => rfl
    | true =>
      have := h p e
      omega
  · obtain ⟨a, ha, _, _, _, pa, _⟩ := s _ (TT.refl S _) p sp
    obtain ⟨q, hq, rfl⟩ := List.mem_map.mp ha
    have := (List.mem_filter.mp pa).2
    simpa using this
theorem Red.nodup {F : Fam} (h : Red F) : F.Nodup := h.2.2.imp fun {a b} e z => by
  subst z
  rw [wi_refl] at e
  exact absurd e.1 (by decide)
theorem Red.eq {F : Fam} (h : Red F) {a b : List Int} (ha : a ∈ F) (hb : b ∈ F) (w : wi a b = true) : a = b := by
  obtain ⟨i, hi, rfl⟩ := List.mem_iff_getElem.mp ha
  obtain ⟨j, hj, rfl⟩ := List.mem_iff_getElem.mp hb
  rcases Nat.lt_trichotomy i j with e | e | e
  · have := (List.pairwise_iff_getElem.mp h.2.2 i j hi hj e).1
    rw [w] at this
    exact absurd this (by decide)
  · subst e; rfl
  · have := (List.pairwise_iff_getElem.mp h.2.2 j i hj hi e).2
    rw [w] at this
    exact absurd this (by decide)
theorem Red.stab {F : Fam} (h : Red F) : Stab F fun p => ∃ r ∈ F, p ∈ r := by
  intro G t p ⟨r, hr, pr⟩
  have n0 : 0 < cnt p F := List.length_pos_of_mem (List.mem_filter.mpr ⟨hr, by simpa using pr⟩)
  have n1 := h.1 p
  obtain ⟨a, ha, b, hb, ab⟩ := of_two (l := F.filter fun r => decide (p ∈ r)) (h.nodup.filter _) (by unfold cnt at n0 n1; omega)
  obtain ⟨ha, pa⟩ := List.mem_filter.mp ha
  obtain ⟨hb, pb⟩ := List.mem_filter.mp hb
  have pa : p ∈ a := by simpa using pa
  have pb : p ∈ b := by simpa using pb
  obtain ⟨a', ha', ea⟩ := t.1 a ha ⟨p, pa, a, ha, pa⟩
  obtain ⟨b', hb', eb⟩ := t.1 b hb ⟨p, pb, b, hb, pb⟩
  refine ⟨a', ha', b', hb', fun z => ?_, ea p pa ⟨a, ha, pa⟩, eb p pb ⟨b, hb, pb⟩⟩
  subst z
  obtain ⟨q, hq, eq⟩ := t.2 a' ha' ⟨p, ea p pa ⟨a, ha, pa⟩, a, ha, pa⟩
  have e1 := h.eq ha hq (wi_iff.mpr fun x hx => eq x (ea x hx ⟨a, ha, hx⟩) ⟨a, ha, hx⟩)
  have e2 := h.eq hb hq (wi_iff.mpr fun x hx => eq x (eb x hx ⟨b, hb, hx⟩) ⟨b, hb, hx⟩)
  exact ab (e1.trans e2.symm)
theorem Rel.cover {F G : Fam} (h : Rel F G) (hF : Red F) : ∀ p, (∃ r ∈ F, p ∈ r) → ∃ r ∈ G, p ∈ r := by
  intro p hp
  obtain ⟨a, ha, _, _, _, pa, _⟩ := ((h _).1.mp hF.stab) G (TT.refl _ G) p hp
  exact ⟨a, ha, pa⟩
theorem rel_uniq {F G : Fam} (h : Rel F G) (hF : Red F) (hG : Red G) : ∀ r ∈ F, ∃ q ∈ G, ∀ p, p ∈ r ↔ p ∈ q := by
  intro r hr
  have t := (h _).2 hF.stab
  obtain ⟨p0, hp0⟩ : ∃ p, p ∈ r := List.exists_mem_of_ne_nil r (hF.2.1 r hr)
  obtain ⟨q, hq, e⟩ := t.1 r hr ⟨p0, hp0, r, hr, hp0⟩
  have c := h.symm.cover hG
  obtain ⟨r', hr', e'⟩ := t.2 q hq ⟨p0, e p0 hp0 ⟨r, hr, hp0⟩, r, hr, hp0⟩
  have e'' : ∀ x ∈ q, x ∈ r' := fun x hx => e' x hx (c x ⟨q, hq, hx⟩)
  have er := hF.eq hr hr' (wi_iff.mpr fun x hx => e'' x (e x hx ⟨r, hr, hx⟩))
  refine ⟨q, hq, fun p => ⟨fun hp => e p hp ⟨r, hr, hp⟩, fun hp => ?_⟩⟩
  rw [er]
  exact e'' p hp
theorem srt_nodup {l : List Int} (h : l.Pairwise (· < ·)) : l.Nodup := h.imp fun {a b} e z => by omega
theorem srt_ext {l m : List Int} (hl : l.Pairwise (· < ·)) (hm : m.Pairwise (· < ·)) (h : ∀ p, p ∈ l ↔ p ∈ m) : l = m :=
  List.Perm.eq_of_pairwise (fun a b _ _ h1 h2 => by omega) hl hm ((List.perm_ext_iff_of_nodup (srt_nodup hl) (srt_nodup hm)).mpr h)
theorem rel_same {F G : Fam} (h : Rel F G) (hF : Red F) (hG : Red G) (sF : Srt F) (sG : Srt G) : ∀ r, r ∈ F ↔ r ∈ G := by
  intro r
  constructor
  · intro hr
    obtain ⟨q, hq, e⟩ := rel_uniq h hF hG r hr
    rw [srt_ext (sF r hr) (sG q hq) e]
    exact hq
  · intro hr
    obtain ⟨q, hq, e⟩ := rel_uniq h.symm hG hF r hr
    rw [srt_ext (sG r hr) (sF q hq) e]
    exact hq
theorem rel_sort {F G : Fam} (h : Rel F G) (hF : Red F) (hG : Red G) (sF : Srt F) (sG : Srt G) : sortT F = sortT G :=
  sortT_uniq (((sortT_perm F).trans ((List.perm_ext_iff_of_nodup hF.nodup hG.nodup).mpr (rel_same h hF hG sF sG)))) (sortT_sorted F)
end Lg
end
section
set_option maxRecDepth 100000
set_option maxHeartbeats 8000000
/-! the program's way: all lonely places, all swallowed lots at once -/
namespace Lg
open Ev
def sl (F : Fam) : Nat := (F.map List.length).sum
def mu (F : Fam) : Nat := F.length + sl F
theorem slim_len (F : Fam) : (slim F).length = F.length := by simp [slim]
theorem filt_sl (p : Int → Bool) : ∀ F : Fam, sl (F.map fun r => r.filter p) ≤ sl F ∧ (sl (F.map fun r => r.filter p) = sl F → (F.map fun r => r.filter p) = F)
  | [] => ⟨Nat.le_refl _, fun _ => rfl⟩
  | r :: F => by
    obtain ⟨h1, h2⟩ := filt_sl p F
    have h3 := List.length_filter_le p r
    simp only [sl, List.map_cons, List.sum_cons] at h1 h2 ⊢
    refine ⟨by omega, fun e => ?_⟩
    rw [h2 (by omega)]
    congr 1
    exact List.Sublist.eq_of_length (List.filter_sublist) (by omega)
theorem slim_sl (F : Fam) : sl (slim F) ≤ sl F ∧ (sl (slim F) = sl F → slim F = F) := filt_sl _ F
theorem sub_sl {F G : Fam} (h : F.Sublist G) : sl F ≤ sl G := by
  induction h with
  | slnil => exact Nat.le_refl _
  | cons a _ ih => simp only [sl, List.map_cons, List.sum_cons] at ih ⊢; omega
  | cons_cons a _ ih => simp only [sl, List.map_cons, List.sum_cons] at ih ⊢; omega
theorem keep_sub (s : Fam) : (keep s).Sublist s := by
  have := (List.filter_sublist (p := fun k => !swl s k) (l := List.range s.length)).map (gt s)
  rw [gt_map] at this
  exact this
theorem mu_bo (F : Fam) (h : bo F ≠ F) : mu (bo F) < mu F := by
  have h1 := keep_sub (slim F)
  have h2 := h1.length_le
  have h3 := sub_sl h1
  have h4 := slim_sl F
  have h5 := slim_len F
  unfold mu bo
  rcases Nat.lt_or_ge (keep (slim F)).length F.length with hl | hl
  · omega
  · have e : keep (slim F) = slim F := h1.eq_of_length (by omega)
    rw [e]
    rcases Nat.lt_or_ge (sl (slim F)) (sl F) with h6 | h6
    · omega
    · exact absurd (show bo F = F by unfold bo; rw [e]; exact h4.2 (by omega)) h
def it : Nat → Fam → Fam
  | 0, F => F
  | n + 1, F => it n (bo F)
theorem it_end : ∀ (m : Nat) (F : Fam), mu F ≤ m → ∃ j, bo (it j F) = it j F
  | m, F, h => by
    by_cases e : bo F = F
    · exact ⟨0, e⟩
    · have := mu_bo F e
      match m with
      | 0 => omega
      | m + 1 =>
        obtain ⟨j, hj⟩ := it_end m (bo F) (by omega)
        exact ⟨j + 1, hj⟩
theorem slim_srt {F : Fam} (h : Srt F) : Srt (slim F) := fun r hr => by
  obtain ⟨q, hq, rfl⟩ := List.mem_map.mp hr
  exact (h q hq).filter _
theorem bo_srt {F : Fam} (h : Srt F) : Srt (bo F) := fun r hr => slim_srt h r ((keep_sub _).subset hr)
theorem it_srt : ∀ (j : Nat) {F : Fam}, Srt F → Srt (it j F)
  | 0, _, h => h
  | j + 1, _, h => it_srt j (bo_srt h)
theorem slim_sm {F : Fam} (h : Sm F) : Sm (slim F) := by
  refine ⟨by rw [slim_len]; exact h.1, fun r hr => ?_⟩
  obtain ⟨q, hq, rfl⟩ := List.mem_map.mp hr
  exact Nat.le_trans (List.length_filter_le _ _) (h.2 q hq)
theorem bo_sm {F : Fam} (h : Sm F) : Sm (bo F) := ⟨Nat.le_trans (keep_sub _).length_le (slim_sm h).1, fun r hr => (slim_sm h).2 r ((keep_sub _).subset hr)⟩
theorem it_sm : ∀ (j : Nat) {F : Fam}, Sm F → Sm (it j F)
  | 0, _, h => h
  | j + 1, _, h => it_sm j (bo_sm h)
theorem rel_slim (F : Fam) : Rel F (slim F) := rel_lone (fun p => decide (p ∈ lon F)) fun p h => Nat.le_of_eq (mem_lon (by simpa using h))
theorem swj_iff {s : Fam} {k j : Nat} : swj s k j = true ↔ j ≠ k ∧ wi (gt s k) (gt s j) = true ∧ ((gt s k).length < (gt s j).length ∨ j < k) := by
  simp [swj]
theorem mem_sl {F : Fam} {r : List Int} (h : r ∈ F) : r.length ≤ sl F := by
  induction F with
  | nil => simp at h
  | cons a F ih =>
    simp only [sl, List.map_cons, List.sum_cons] at ih ⊢
    rcases List.mem_cons.mp h with rfl | h
    · omega
    · have := ih h
      omega
theorem keep_has {s : Fam} (hs : Srt s) : ∀ (m k : Nat), k < s.length → (sl s - (gt s k).length) * (s.length + 1) + k ≤ m → gt s k ≠ [] → ∃ j, j < s.length ∧ swl s j = false ∧ wi (gt s k) (gt s j) = true
  | m, k, hk, hm, hne => by
    cases e : swl s k with
    | false => exact ⟨k, hk, e, wi_refl _⟩
    | true =>
      simp only [swl, Bool.or_eq_true, List.isEmpty_iff, List.any_eq_true] at e
      rcases e with e | ⟨j, hj, e⟩
      · exact absurd e hne
      · obtain ⟨e1, e2, e3⟩ := swj_iff.mp e
        have hj := List.mem_range.mp hj
        have le : (gt s k).length ≤ (gt s j).length := nodup_sub_len (srt_nodup (hs _ (gt_mem hk))) (wi_iff.mp e2)
        have bj := mem_sl (gt_mem hj)
        have lt : (sl s - (gt s j).length) * (s.length + 1) + j < (sl s - (gt s k).length) * (s.length + 1) + k := by
          rcases Nat.lt_or_ge (gt s k).length (gt s j).length with h | h
          · have h2 : sl s - (gt s j).length + 1 ≤ sl s - (gt s k).length := by omega
            have h3 := Nat.mul_le_mul_right (s.length + 1) h2
            rw [Nat.add_mul, Nat.one_mul] at h3
            omega
          · have h2 : (gt s k).length = (gt s j).length := by omega
            rw [h2]
            omega
        match m with
        | 0 => omega
        | m + 1 =>
          obtain ⟨i, hi, h1, h2⟩ := keep_has hs m j hj (by omega) (fun z => by
            rw [z] at e2
            obtain ⟨p, hp⟩ := List.exists_mem_of_ne_nil _ hne
            have := wi_iff.mp e2 p hp
            simp at this)
          exact ⟨i, hi, h1, wi_iff.mpr fun p hp => wi_iff.mp h2 p (wi_iff.mp e2 p hp)⟩
theorem rel_keep {s : Fam} (hs : Srt s) : Rel s (keep s) := by
  refine rel_sub (fun r hr => (keep_sub s).subset hr) fun r hr => ?_
  obtain ⟨k, hk, rfl⟩ := List.mem_iff_getElem.mp hr
  rw [← gt_lt hk]
  by_cases h : gt s k = []
  · exact .inl h
  · obtain ⟨j, hj, h1, h2⟩ := keep_has hs _ k hk (Nat.le_refl _) h
    exact .inr ⟨gt s j, List.mem_map.mpr ⟨j, List.mem_filter.mpr ⟨List.mem_range.mpr hj, by rw [h1]; rfl⟩, rfl⟩, h2⟩
theorem rel_bo {F : Fam} (h : Srt F) : Rel F (bo F) := (rel_slim F).trans (rel_keep (slim_srt h))
theorem rel_it : ∀ (j : Nat) {F : Fam}, Srt F → Rel F (it j F)
  | 0, F, _ => Rel.refl F
  | j + 1, F, h => (rel_bo h).trans (rel_it j (bo_srt h))
theorem red_end {R : Fam} (h : bo R = R) (hs : Srt R) : Red R := by
  have h1 := keep_sub (slim R)
  have e1 : keep (slim R) = slim R := h1.eq_of_length (by rw [show keep (slim R) = R from h, slim_len])
  have e2 : slim R = R := e1.symm.trans h
  rw [e2] at e1
  have sw : ∀ k < R.length, swl R k = false := by
    intro k hk
    have hl := congrArg List.length e1
    unfold keep at hl
    rw [List.length_map] at hl
    have e3 : (List.range R.length).filter (fun k => !swl R k) = List.range R.length := List.filter_sublist.eq_of_length (by rw [hl, List.length_range])
    have := List.filter_eq_self.mp e3 k (List.mem_range.mpr hk)
    simpa using this
  refine ⟨fun p hp => ?_, fun r hr z => ?_, ?_⟩
  · obtain ⟨r, hr⟩ : ∃ r, r ∈ R.filter fun r => decide (p ∈ r) := List.exists_mem_of_length_pos (by unfold cnt at hp; omega)
    obtain ⟨hr, pr⟩ := List.mem_filter.mp hr
    have pr : p ∈ r := by simpa using pr
    have pl : p ∈ lon R := List.mem_filter.mpr ⟨mem_un.mpr ⟨r, hr, pr⟩, by simpa using hp⟩
    have hr2 : r ∈ slim R := by rw [e2]; exact hr
    obtain ⟨q, hq, e⟩ := List.mem_map.mp hr2
    rw [← e] at pr
    exact (mem_lo.mp pr).2 pl
  · obtain ⟨k, hk, rfl⟩ := List.mem_iff_getElem.mp hr
    have := sw k hk
    simp only [swl, gt_lt hk, z] at this
    simp at this
  · rw [List.pairwise_iff_getElem]
    intro i j hi hj hij
    have no : ∀ {a b : Nat}, a < R.length → b < R.length → b ≠ a → wi (gt R a) (gt R b) = true → ¬ (gt R a).length < (gt R b).length ∧ ¬ b < a := by
      intro a b ha hb hab w
      have := sw a ha
      simp only [swl, Bool.or_eq_false_iff, List.any_eq_false] at this
      have := this.2 b (List.mem_range.mpr hb)
      refine ⟨fun z => this (swj_iff.mpr ⟨hab, w, .inl z⟩), fun z => this (swj_iff.mpr ⟨hab, w, .inr z⟩)⟩
    have w2 : wi (gt R j) (gt R i) = false := by
      cases e : wi (gt R j) (gt R i) with
      | false => rfl
      | true => exact absurd hij (no hj hi (by omega) e).2
    rw [← gt_lt hi, ← gt_lt hj]
    refine ⟨?_, w2⟩
    cases e : wi (gt R i) (gt R j) with
    | false => rfl
    | true =>
      have h3 := (no hi hj (by omega) e).1
      have := nodup_sub_eq (srt_nodup (hs _ (gt_mem hi))) (wi_iff.mp e) (by omega)
      rw [wi_iff.mpr this] at w2
      cases w2
/-- what the program tells -/
theorem bared_is {F G : Fam} (hF : Srt F) (hG : Red G) (sG : Srt G) (h : Rel F G) {j : Nat} (hj : bo (it j F) = it j F) : ddl [] (sortT (it j F)) = sortT G ∧ (it j F).length = G.length := by
  have hs := it_srt j hF
  have hr := red_end hj hs
  have rel : Rel (it j F) G := ((rel_it j hF).symm).trans h
  have e := rel_sort rel hr hG hs sG
  refine ⟨?_, ?_⟩
  · rw [ddl_nodup _ _ (by simpa using (sortT_perm _).nodup_iff.mpr hr.nodup), List.nil_append]
    exact e
  · have := congrArg List.length e
    rwa [(sortT_perm _).length_eq, (sortT_perm _).length_eq] at this
end Lg
end
section
set_option maxRecDepth 100000
set_option maxHeartbeats 8000000
/-! lots as bits -/
namespace Lg
open Ev
def bits (m : Nat) : List Int := ((List.range 8).filter fun p => m.testBit p).map fun p => ((p : Nat) : Int)
theorem mem_bits {m : Nat} {p : Int} : p ∈ bits m ↔ ∃ k : Nat, k < 8 ∧ m.testBit k = true ∧ p = k := by
  unfold bits
  simp only [List.mem_map, List.mem_filter, List.mem_range]
  constructor
  · rintro ⟨k, ⟨h1, h2⟩, rfl⟩
    exact ⟨k, h1, h2, rfl⟩
  · rintro ⟨k, h1, h2, rfl⟩
    exact ⟨k, ⟨h1, h2⟩, rfl⟩
theorem mem_bits_nat {m k : Nat} (h : k < 8) : ((k : Nat) : Int) ∈ bits m ↔ m.testBit k = true := by
  rw [mem_bits]
  constructor
  · rintro ⟨j, _, h2, e⟩
    have : k = j := by omega
    rw [this]; exact h2
  · intro h2
    exact ⟨k, h, h2, rfl⟩
theorem bits_srt (m : Nat) : (bits m).Pairwise (· < ·) := by
  unfold bits
  rw [List.pairwise_map]
  refine (List.Pairwise.filter _ (List.pairwise_lt_range)).imp fun {a b} h => ?_
  exact Int.ofNat_lt.mpr h
theorem srt_bits (L : List Nat) : Srt (L.map bits) := fun r hr => by
  obtain ⟨m, _, rfl⟩ := List.mem_map.mp hr
  exact bits_srt m
theorem bits_len (m : Nat) : (bits m).length ≤ 8 := by
  unfold bits
  rw [List.length_map]
  exact Nat.le_trans (List.length_filter_le _ _) (by simp)
theorem sm_bits {L : List Nat} (h : L.length ≤ 100) : Sm (L.map bits) := ⟨by simpa using h, fun r hr => by
  obtain ⟨m, _, rfl⟩ := List.mem_map.mp hr
  exact bits_len m⟩
theorem tb_ge {m k : Nat} (h : m < 256) (hk : 8 ≤ k) : m.testBit k = false := Nat.testBit_lt_two_pow (Nat.lt_of_lt_of_le h (Nat.pow_le_pow_right (n := 2) (i := 8) (by decide) hk))
theorem bits_inj {a b : Nat} (ha : a < 256) (hb : b < 256) (h : bits a = bits b) : a = b := by
  apply Nat.eq_of_testBit_eq
  intro k
  rcases Nat.lt_or_ge k 8 with hk | hk
  · have e : (((k : Nat) : Int) ∈ bits a) ↔ ((k : Nat) : Int) ∈ bits b := by rw [h]
    rw [mem_bits_nat hk, mem_bits_nat hk] at e
    cases h1 : a.testBit k <;> cases h2 : b.testBit k <;> simp_all
  · rw [tb_ge ha hk, tb_ge hb hk]
theorem bits_nil {m : Nat} (h : m < 256) : bits m = [] ↔ m = 0 := by
  constructor
  · intro e
    exact bits_inj h (by decide) (by rw [e]; decide)
  · rintro rfl
    decide
theorem wi_bits {a b : Nat} (ha : a < 256) : wi (bits a) (bits b) = true ↔ b &&& a = a := by
  rw [wi_iff]
  constructor
  · intro h
    apply Nat.eq_of_testBit_eq
    intro k
    rw [Nat.testBit_and]
    cases h1 : a.testBit k with
    | false => simp
    | true =>
      have hk : k < 8 := by
        rcases Nat.lt_or_ge k 8 with hk | hk
        · exact hk
        · rw [tb_ge ha hk] at h1; cases h1
      rw [(mem_bits_nat hk).mp (h _ ((mem_bits_nat hk).mpr h1))]
      rfl
  · intro h p hp
    obtain ⟨k, hk, h1, rfl⟩ := mem_bits.mp hp
    refine (mem_bits_nat hk).mpr ?_
    rw [← h, Nat.testBit_and] at h1
    simp at h1
    exact h1.1
/-- a place taken away -/
def clr (p m : Nat) : Nat := m - (m &&& 2 ^ p)
theorem clr_tb : ∀ m < 256, ∀ p < 8, ∀ k < 8, (clr p m).testBit k = (m.testBit k && !decide (k = p)) := by decide +kernel
theorem clr_le (p m : Nat) : clr p m ≤ m := Nat.sub_le _ _
theorem bits_clr {m p : Nat} (hm : m < 256) (hp : p < 8) : bits (clr p m) = (bits m).filter fun x => !decide (x = (p : Int)) := by
  refine srt_ext (bits_srt _) ((bits_srt m).filter _) fun x => ?_
  rw [List.mem_filter]
  constructor
  · intro h
    obtain ⟨k, hk, h1, rfl⟩ := mem_bits.mp h
    rw [clr_tb m hm p hp k hk] at h1
    simp only [Bool.and_eq_true, Bool.not_eq_true', decide_eq_false_iff_not] at h1
    refine ⟨(mem_bits_nat hk).mpr h1.1, ?_⟩
    simp only [Bool.not_eq_true', decide_eq_false_iff_not]
    intro z
    exact h1.2 (by omega)
  · rintro ⟨h, h2⟩
    obtain ⟨k, hk, h1, rfl⟩ := mem_bits.mp h
    simp only [Bool.not_eq_true', decide_eq_false_iff_not] at h2
    refine (mem_bits_nat hk).mpr ?_
    rw [clr_tb m hm p hp k hk, h1]
    simp only [Bool.true_and, Bool.not_eq_true', decide_eq_false_iff_not]
    intro z
    exact h2 (by rw [z])
def Mk (L : List Nat) : Prop := ∀ m ∈ L, m < 256
theorem cnt_bits {L : List Nat} {p : Nat} (hp : p < 8) : cnt (p : Int) (L.map bits) = (L.filter fun m => m.testBit p).length := by
  unfold cnt
  rw [List.filter_map, List.length_map]
  congr 1
  apply List.filter_congr
  intro m _
  have := mem_bits_nat (m := m) hp
  simp only [Function.comp]
  cases h : m.testBit p
  · rw [h] at this
    simp at this
    simpa using this
  · rw [h] at this
    simpa using this
/-! #### one step -/
def stA (p : Nat) (L : List Nat) : List Nat := if (L.filter fun m => m.testBit p).length = 1 then L.map (clr p) else L
def rest (a : Nat) (L : List Nat) : List Nat := L.take a ++ L.drop (a + 1)
def swm (a : Nat) (L : List Nat) : Bool := L.getD a 0 == 0 || ((rest a L).any fun x => x &&& L.getD a 0 == L.getD a 0)
def stB (a : Nat) (L : List Nat) : List Nat := if a < L.length ∧ swm a L = true then rest a L else L
theorem stA_mk {p : Nat} {L : List Nat} (h : Mk L) : Mk (stA p L) := by
  unfold stA
  split
  · intro m hm
    obtain ⟨x, hx, rfl⟩ := List.mem_map.mp hm
    exact Nat.lt_of_le_of_lt (clr_le p x) (h x hx)
  · exact h
theorem rest_sub (a : Nat) (L : List Nat) : ∀ m ∈ rest a L, m ∈ L := fun m hm => by
  rcases List.mem_append.mp hm with h | h
  · exact List.mem_of_mem_take h
  · exact List.mem_of_mem_drop h
theorem stB_sub (a : Nat) (L : List Nat) : ∀ m ∈ stB a L, m ∈ L := by
  unfold stB
  split
  · exact rest_sub a L
  · exact fun _ h => h
theorem stB_mk {a : Nat} {L : List Nat} (h : Mk L) : Mk (stB a L) := fun m hm => h m (stB_sub a L m hm)
theorem rel_stA {p : Nat} (hp : p < 8) {L : List Nat} (h : Mk L) : Rel (L.map bits) ((stA p L).map bits) := by
  unfold stA
  split
  · rename_i e
    have := rel_lone (F := L.map bits) (fun x => decide (x = (p : Int))) (fun x hx => by
      have : x = (p : Int) := by simpa using hx
      subst this
      rw [cnt_bits hp, e]
      exact Nat.le_refl _)
    have e2 : (L.map (clr p)).map bits = (L.map bits).map fun r => r.filter fun x => !decide (x = (p : Int)) := by
      rw [List.map_map, List.map_map]
      exact List.map_congr_left fun m hm => bits_clr (h m hm) hp
    rw [e2]
    exact this
  · exact Rel.refl _
theorem mem_rest {a : Nat} {L : List Nat} (ha : a < L.length) {m : Nat} (hm : m ∈ L) : m = L.getD a 0 ∨ m ∈ rest a L := by
  have e : L.take a ++ L[a] :: L.drop (a + 1) = L := by rw [← List.drop_eq_getElem_cons ha, List.take_append_drop]
  rw [← e] at hm
  rcases List.mem_append.mp hm with h | h
  · exact .inr (List.mem_append_left _ h)
  · rcases List.mem_cons.mp h with h | h
    · refine .inl ?_
      rw [h]
      simp [ha]
    · exact .inr (List.mem_append_right _ h)
theorem getD_mem {a : Nat} {L : List Nat} (ha : a < L.length) : L.getD a 0 ∈ L := by
  have : L.getD a 0 = L[a] := by simp [ha]
  rw [this]
  exact List.getElem_mem ha
theorem rel_stB {a : Nat} {L : List Nat} (h : Mk L) : Rel (L.map bits) ((stB a L).map bits) := by
  unfold stB
  split
  · rename_i e
    obtain ⟨ha, e⟩ := e
    refine rel_sub (fun r hr => ?_) fun r hr => ?_
    · obtain ⟨m, hm, rfl⟩ := List.mem_map.mp hr
      exact List.mem_map.mpr ⟨m, rest_sub a L m hm, rfl⟩
    · obtain ⟨m, hm, rfl⟩ := List.mem_map.mp hr
      rcases mem_rest ha hm with rfl | hm'
      · simp only [swm, Bool.or_eq_true, beq_iff_eq, List.any_eq_true] at e
        rcases e with e | ⟨x, hx, e⟩
        · exact .inl ((bits_nil (h _ hm)).mpr e)
        · exact .inr ⟨bits x, List.mem_map.mpr ⟨x, hx, rfl⟩, (wi_bits (h _ hm)).mpr e⟩
      · exact .inr ⟨bits m, List.mem_map.mpr ⟨m, hm', rfl⟩, wi_refl _⟩
  · exact Rel.refl _
/-! #### how long it lasts -/
def cov (L : List Nat) : List Nat := (List.range 8).filter fun p => L.any fun m => m.testBit p
def nu (L : List Nat) : Nat := L.length + (cov L).length
theorem cov_nodup (L : List Nat) : (cov L).Nodup := List.nodup_range.filter _
theorem mem_cov {L : List Nat} {p : Nat} : p ∈ cov L ↔ p < 8 ∧ ∃ m ∈ L, m.testBit p = true := by
  unfold cov
  rw [List.mem_filter, List.mem_range, List.any_eq_true]
theorem nu_le (L : List Nat) : nu L ≤ L.length + 8 := by
  have : (cov L).length ≤ 8 := Nat.le_trans (List.length_filter_le _ _) (by simp)
  unfold nu; omega
theorem nu_stA {p : Nat} (hp : p < 8) {L : List Nat} (h : Mk L) : nu (stA p L) ≤ nu L ∧ (nu (stA p L) = nu L → stA p L = L) := by
  unfold stA
  split
  · rename_i e
    have hpc : p ∈ cov L := by
      obtain ⟨m, hm⟩ : ∃ m, m ∈ L.filter fun m => m.testBit p := List.exists_mem_of_length_pos (by omega)
      obtain ⟨h1, h2⟩ := List.mem_filter.mp hm
      exact mem_cov.mpr ⟨hp, m, h1, h2⟩
    have sub : ∀ q ∈ cov (L.map (clr p)), q ∈ cov L ∧ q ≠ p := by
      intro q hq
      obtain ⟨hq8, m, hm, h1⟩ := mem_cov.mp hq
      obtain ⟨x, hx, rfl⟩ := List.mem_map.mp hm
      rw [clr_tb x (h x hx) p hp q hq8] at h1
      simp only [Bool.and_eq_true, Bool.not_eq_true', decide_eq_false_iff_not] at h1
      exact ⟨mem_cov.mpr ⟨hq8, x, hx, h1.1⟩, h1.2⟩
    have := nodup_sub_len (l := p :: cov (L.map (clr p))) (m := cov L) (List.nodup_cons.mpr ⟨fun z => (sub p z).2 rfl, cov_nodup _⟩) fun q hq => by
      rcases List.mem_cons.mp hq with rfl | hq
      · exact hpc
      · exact (sub q hq).1
    simp only [List.length_cons] at this
    unfold nu
    rw [List.length_map]
    refine ⟨by omega, fun z => by omega⟩
  · exact ⟨Nat.le_refl _, fun _ => rfl⟩
theorem rest_len {a : Nat} {L : List Nat} (h : a < L.length) : (rest a L).length + 1 = L.length := by
  unfold rest
  simp
  omega
theorem nu_stB (a : Nat) (L : List Nat) : nu (stB a L) ≤ nu L ∧ (nu (stB a L) = nu L → stB a L = L) := by
  have sub : ∀ q ∈ cov (stB a L), q ∈ cov L := by
    intro q hq
    obtain ⟨hq8, m, hm, h1⟩ := mem_cov.mp hq
    exact mem_cov.mpr ⟨hq8, m, stB_sub a L m hm, h1⟩
  have hc := nodup_sub_len (cov_nodup _) sub
  by_cases e : a < L.length ∧ swm a L = true
  · have e1 : stB a L = rest a L := if_pos e
    have := rest_len e.1
    rw [e1] at hc ⊢
    unfold nu
    exact ⟨by omega, fun z => by omega⟩
  · have e1 : stB a L = L := if_neg e
    rw [e1]
    exact ⟨Nat.le_refl _, fun _ => rfl⟩
/-! #### a turn -/
def runA : List Nat → List Nat → List Nat
  | [], L => L
  | p :: P, L => runA P (stA p L)
def stepB (bw : Bool) (k : Nat) (L : List Nat) : List Nat := if bw then stB k L else if k < L.length then stB (L.length - 1 - k) L else L
def runB (bw : Bool) : Nat → List Nat → List Nat
  | 0, L => L
  | n + 1, L => runB bw n (stepB bw n L)
def turn (P : List Nat) (bw : Bool) (L : List Nat) : List Nat := runB bw (runA P L).length (runA P L)
def lft (P : List Nat) (bw : Bool) : Nat → List Nat → List Nat
  | 0, L => L
  | n + 1, L => if turn P bw L = L then turn P bw L else lft P bw n (turn P bw L)
theorem runA_mk : ∀ (P : List Nat) {L : List Nat}, Mk L → Mk (runA P L)
  | [], _, h => h
  | _ :: P, _, h => runA_mk P (stA_mk h)
theorem stepB_mk {bw : Bool} {k : Nat} {L : List Nat} (h : Mk L) : Mk (stepB bw k L) := by
  unfold stepB
  split
  · exact stB_mk h
  · split
    · exact stB_mk h
    · exact h
theorem runB_mk {bw : Bool} : ∀ (n : Nat) {L : List Nat}, Mk L → Mk (runB bw n L)
  | 0, _, h => h
  | n + 1, _, h => runB_mk n (stepB_mk h)
theorem turn_mk {P : List Nat} {bw : Bool} {L : List Nat} (h : Mk L) : Mk (turn P bw L) := runB_mk _ (runA_mk P h)
theorem rel_runA : ∀ (P : List Nat) {L : List Nat}, (∀ p ∈ P, p < 8) → Mk L → Rel (L.map bits) ((runA P L).map bits)
  | [], _, _, _ => Rel.refl _
  | p :: P, _, hP, h => (rel_stA (hP p List.mem_cons_self) h).trans (rel_runA P (fun q hq => hP q (List.mem_cons_of_mem _ hq)) (stA_mk h))
theorem rel_stepB {bw : Bool} {k : Nat} {L : List Nat} (h : Mk L) : Rel (L.map bits) ((stepB bw k L).map bits) := by
  unfold stepB
  split
  · exact rel_stB h
  · split
    · exact rel_stB h
    · exact Rel.refl _
theorem rel_runB {bw : Bool} : ∀ (n : Nat) {L : List Nat}, Mk L → Rel (L.map bits) ((runB bw n L).map bits)
  | 0, _, _ => Rel.refl _
  | n + 1, _, h => (rel_stepB h).trans (rel_runB n (stepB_mk h))
theorem rel_turn {P : List Nat} {bw : Bool} (hP : ∀ p ∈ P, p < 8) {L : List Nat} (h : Mk L) : Rel (L.map bits) ((turn P bw L).map bits) := (rel_runA P hP h).trans (rel_runB _ (runA_mk P h))
theorem nu_stepB (bw : Bool) (k : Nat) (L : List Nat) : nu (stepB bw k L) ≤ nu L ∧ (nu (stepB bw k L) = nu L → stepB bw k L = L) := by
  unfold stepB
  split
  · exact nu_stB _ _
  · split
    · exact nu_stB _ _
    · exact ⟨Nat.le_refl _, fun _ => rfl⟩
theorem nu_runA : ∀ (P : List Nat) {L : List Nat}, (∀ p ∈ P, p < 8) → Mk L → nu (runA P L) ≤ nu L ∧ (nu (runA P L) = nu L → runA P L = L ∧ ∀ p ∈ P, stA p L = L)
  | [], L, _, _ => ⟨Nat.le_refl _, fun _ => ⟨rfl, fun _ h => by simp at h⟩⟩
  | p :: P, L, hP, h => by
    obtain ⟨a1, a2⟩ := nu_stA (hP p List.mem_cons_self) h
    obtain ⟨b1, b2⟩ := nu_runA P (fun q hq => hP q (List.mem_cons_of_mem _ hq)) (stA_mk (p := p) h)
    refine ⟨Nat.le_trans b1 a1, fun z => ?_⟩
    simp only [runA] at z ⊢
    have e := a2 (by omega)
    rw [e] at b2 z ⊢
    obtain ⟨c1, c2⟩ := b2 z
    refine ⟨c1, fun q hq => ?_⟩
    rcases List.mem_cons.mp hq with rfl | hq
    · exact e
    · exact c2 q hq
theorem nu_runB (bw : Bool) : ∀ (n : Nat) (L : List Nat), nu (runB bw n L) ≤ nu L ∧ (nu (runB bw n L) = nu L → runB bw n L = L ∧ ∀ k < n, stepB bw k L = L)
  | 0, L => ⟨Nat.le_refl _, fun _ => ⟨rfl, fun _ h => by omega⟩⟩
  | n + 1, L => by
    obtain ⟨a1, a2⟩ := nu_stepB bw n L
    obtain ⟨b1, b2⟩ := nu_runB bw n (stepB bw n L)
    refine ⟨Nat.le_trans b1 a1, fun z => ?_⟩
    simp only [runB] at z ⊢
    have e := a2 (by omega)
    rw [e] at b2 z ⊢
    obtain ⟨c1, c2⟩ := b2 z
    refine ⟨c1, fun k hk => ?_⟩
    rcases Nat.lt_or_ge k n with h | h
    · exact c2 k h
    · rw [show k = n by omega]; exact e
theorem nu_turn {P : List Nat} {bw : Bool} (hP : ∀ p ∈ P, p < 8) {L : List Nat} (h : Mk L) : nu (turn P bw L) ≤ nu L ∧ (nu (turn P bw L) = nu L → turn P bw L = L ∧ (∀ p ∈ P, stA p L = L) ∧ ∀ k < L.length, stepB bw k L = L) := by
  obtain ⟨a1, a2⟩ := nu_runA P hP h
  obtain ⟨b1, b2⟩ := nu_runB bw (runA P L).length (runA P L)
  refine ⟨Nat.le_trans b1 a1, fun z => ?_⟩
  unfold turn at z ⊢
  obtain ⟨e, c⟩ := a2 (by omega)
  rw [e] at b2 z ⊢
  obtain ⟨d1, d2⟩ := b2 z
  exact ⟨d1, c, d2⟩
theorem lft_fix {P : List Nat} {bw : Bool} (hP : ∀ p ∈ P, p < 8) : ∀ (n : Nat) {L : List Nat}, Mk L → nu L < n → turn P bw (lft P bw n L) = lft P bw n L
  | 0, _, _, hn => by omega
  | n + 1, L, h, hn => by
    unfold lft
    split
    · rename_i e
      rw [e, e]
    · rename_i e
      obtain ⟨h1, h2⟩ := nu_turn (bw := bw) hP h
      rcases Nat.lt_or_ge (nu (turn P bw L)) (nu L) with h3 | h3
      · exact lft_fix hP n (turn_mk h) (by omega)
      · exact absurd (h2 (by omega)).1 e
theorem lft_mk {P : List Nat} {bw : Bool} : ∀ (n : Nat) {L : List Nat}, Mk L → Mk (lft P bw n L)
  | 0, _, h => h
  | n + 1, L, h => by
    unfold lft
    split
    · exact turn_mk h
    · exact lft_mk n (turn_mk h)
theorem rel_lft {P : List Nat} {bw : Bool} (hP : ∀ p ∈ P, p < 8) : ∀ (n : Nat) {L : List Nat}, Mk L → Rel (L.map bits) ((lft P bw n L).map bits)
  | 0, _, _ => Rel.refl _
  | n + 1, L, h => by
    unfold lft
    split
    · exact rel_turn hP h
    · exact (rel_turn hP h).trans (rel_lft hP n (turn_mk h))
theorem turn_len {P : List Nat} {bw : Bool} (L : List Nat) : (turn P bw L).length ≤ L.length := by
  have hA : ∀ (P L : List Nat), (runA P L).length = L.length := by
    intro P
    induction P with
    | nil => intro L; rfl
    | cons p P ih =>
      intro L
      show (runA P (stA p L)).length = _
      rw [ih]
      unfold stA
      split <;> simp
  have hb : ∀ (a : Nat) (L : List Nat), (stB a L).length ≤ L.length := by
    intro a L
    unfold stB
    split
    · rename_i e
      have := rest_len e.1
      omega
    · exact Nat.le_refl _
  have hs : ∀ (k : Nat) (L : List Nat), (stepB bw k L).length ≤ L.length := by
    intro k L
    unfold stepB
    split
    · exact hb _ _
    · split
      · exact hb _ _
      · exact Nat.le_refl _
  have hB : ∀ (n : Nat) (L : List Nat), (runB bw n L).length ≤ L.length := by
    intro n
    induction n with
    | zero => intro L; exact Nat.le_refl _
    | succ n ih =>
      intro L
      exact Nat.le_trans (ih _) (hs _ _)
  unfold turn
  exact Nat.le_trans (hB _ _) (Nat.le_of_eq (hA P L))
theorem lft_len {P : List Nat} {bw : Bool} : ∀ (n : Nat) (L : List Nat), (lft P bw n L).length ≤ L.length
  | 0, _ => Nat.le_refl _
  | n + 1, L => by
    unfold lft
    split
    · exact turn_len L
    · exact Nat.le_trans (lft_len n _) (turn_len L)
/-- nothing more to be taken -/
theorem red_fix {P : List Nat} {bw : Bool} (hP : ∀ p ∈ P, p < 8) {L : List Nat} (h : Mk L) (hc : ∀ p, p < 8 → (∃ m ∈ L, m.testBit p = true) → p ∈ P) (e : turn P bw L = L) : Red (L.map bits) := by
  obtain ⟨_, h1⟩ := nu_turn (bw := bw) hP h
  obtain ⟨_, hA, hB⟩ := h1 (by rw [e])
  have sB : ∀ a, a < L.length → swm a L = false := by
    intro a ha
    have key : stB a L = L := by
      cases bw with
      | true =>
        have := hB a ha
        unfold stepB at this
        simpa using this
      | false =>
        have := hB (L.length - 1 - a) (by omega)
        unfold stepB at this
        rw [if_neg (by simp), if_pos (by omega)] at this
        rw [show L.length - 1 - (L.length - 1 - a) = a by omega] at this
        exact this
    cases e2 : swm a L with
    | false => rfl
    | true =>
      have e3 : stB a L = rest a L := if_pos ⟨ha, e2⟩
      have := rest_len ha
      rw [← e3, key] at this
      omega
  refine ⟨fun p hp => ?_, fun r hr z => ?_, ?_⟩
  · obtain ⟨r, hr⟩ : ∃ r, r ∈ (L.map bits).filter fun r => decide (p ∈ r) := List.exists_mem_of_length_pos (by unfold cnt at hp; omega)
    obtain ⟨hr, pr⟩ := List.mem_filter.mp hr
    obtain ⟨m, hm, rfl⟩ := List.mem_map.mp hr
    have pr : p ∈ bits m := by simpa using pr
    obtain ⟨k, hk, h2, rfl⟩ := mem_bits.mp pr
    rw [cnt_bits hk] at hp
    have e2 := hA k (hc k hk ⟨m, hm, h2⟩)
    unfold stA at e2
    rw [if_pos hp] at e2
    have hm2 : m ∈ L.map (clr k) := by rw [e2]; exact hm
    obtain ⟨x, hx, rfl⟩ := List.mem_map.mp hm2
    rw [clr_tb x (h x hx) k hk k hk] at h2
    simp at h2
  · obtain ⟨m, hm, rfl⟩ := List.mem_map.mp hr
    obtain ⟨a, ha, rfl⟩ := List.mem_iff_getElem.mp hm
    have := sB a ha
    have e0 : L.getD a 0 = L[a] := by simp [ha]
    simp only [swm, e0, (bits_nil (h _ hm)).mp z] at this
    simp at this
  · rw [List.pairwise_map, List.pairwise_iff_getElem]
    intro i j hi hj hij
    have no : ∀ {a b : Nat} (ha : a < L.length) (hb : b < L.length), b ≠ a → wi (bits L[a]) (bits L[b]) = false := by
      intro a b ha hb hab
      cases e2 : wi (bits L[a]) (bits L[b]) with
      | false => rfl
      | true =>
        exfalso
        have e3 := (wi_bits (h _ (List.getElem_mem ha))).mp e2
        have := sB a ha
        have e0 : L.getD a 0 = L[a] := by simp [ha]
        simp only [swm, e0, Bool.or_eq_false_iff, List.any_eq_false] at this
        refine this.2 L[b] ?_ (by rw [e3]; simp)
        unfold rest
        rcases Nat.lt_or_ge b a with hlt | hge
        · refine List.mem_append_left _ ?_
          rw [List.mem_iff_getElem]
          exact ⟨b, by simp; omega, by simp⟩
        · refine List.mem_append_right _ ?_
          rw [List.mem_iff_getElem]
          exact ⟨b - (a + 1), by simp; omega, by simp; congr 1; omega⟩
    exact ⟨no hi hj (by omega), no hj hi (by omega)⟩
end Lg
end
section
set_option maxRecDepth 100000
set_option maxHeartbeats 8000000
namespace Lw
open Ev Lg
theorem tb_int {m : Nat} {p : Int} : p ∈ bits m ↔ ∃ k : Nat, k < 8 ∧ m.testBit k = true ∧ p = k := mem_bits
theorem bits_and (a b : Nat) : (bits a).filter (fun p => decide (p ∈ bits b)) = bits (a &&& b) := by
  unfold bits
  rw [List.filter_map, List.filter_filter]
  congr 1
  refine List.filter_congr fun p hp => ?_
  have h8 := List.mem_range.mp hp
  have := mem_bits_nat (m := b) h8
  simp only [Function.comp]
  rw [Nat.testBit_and]
  cases hb : b.testBit p with
  | true =>
    rw [hb] at this
    have h1 : ((p : Nat) : Int) ∈ bits b := this.mpr rfl
    unfold bits at h1
    simp [h1]
  | false =>
    have h1 : ¬ ((p : Nat) : Int) ∈ bits b := fun h => by rw [this.mp h] at hb; exact absurd hb (by decide)
    unfold bits at h1
    simp [h1]
theorem wi_and {a b : Nat} (ha : a < 256) : wi (bits a) (bits b) = (b &&& a == a) := by
  have := wi_bits (b := b) ha
  cases h : wi (bits a) (bits b) with
  | true => exact (beq_iff_eq.mpr (this.mp h)).symm
  | false =>
    symm
    refine beq_eq_false_iff_ne.mpr fun e => ?_
    rw [this.mpr e] at h
    exact absurd h (by decide)
/-- a proper part -/
def pp (a b : Nat) : Bool := decide ((bits a).length < (bits b).length) && (b &&& a == a)
theorem pp_of {a b : Nat} (ha : a < 256) (hb : b < 256) (h : b &&& a = a) (hne : a ≠ b) : pp a b = true := by
  have e := bits_and b a
  rw [h] at e
  have l := List.length_filter_le (fun p => decide (p ∈ bits a)) (bits b)
  rw [e] at l
  have : (bits a).length ≠ (bits b).length := fun hl => by
    rw [← e] at hl
    have h2 := List.filter_eq_self.mpr (List.length_filter_eq_length_iff.mp hl)
    rw [e] at h2
    exact hne (bits_inj ha hb h2)
  unfold pp
  rw [decide_eq_true (by omega : (bits a).length < (bits b).length), h]
  simp
theorem pp_ne {a b : Nat} (h : pp a b = true) : b &&& a = a ∧ a ≠ b := by
  unfold pp at h
  rw [Bool.and_eq_true] at h
  refine ⟨beq_iff_eq.mp h.2, fun e => ?_⟩
  subst e
  have := of_decide_eq_true h.1
  omega
def topm (L : List Nat) (a : Nat) : Bool := decide ((L.filter fun b => b &&& a == a).length = 1)
theorem top_iff {L : List Nat} (hL : Mk L) (hn : L.Nodup) {a : Nat} (ha : a ∈ L) : (!(L.any fun b => pp a b)) = topm L a := by
  have hm : a ∈ L.filter fun b => b &&& a == a := List.mem_filter.mpr ⟨ha, by simp⟩
  have hnf : (L.filter fun b => b &&& a == a).Nodup := hn.filter _
  cases h : L.any fun b => pp a b with
  | true =>
    obtain ⟨b, hb, hp⟩ := List.any_eq_true.mp h
    obtain ⟨h1, h2⟩ := pp_ne hp
    have hm2 : b ∈ L.filter fun b => b &&& a == a := List.mem_filter.mpr ⟨hb, by rw [h1]; simp⟩
    symm
    refine decide_eq_false fun hl => ?_
    obtain ⟨x, hx⟩ := List.length_eq_one_iff.mp hl
    rw [hx] at hm hm2
    exact h2 ((List.mem_singleton.mp hm).trans (List.mem_singleton.mp hm2).symm)
  | false =>
    symm
    refine decide_eq_true ?_
    have all : ∀ b ∈ L.filter (fun b => b &&& a == a), b = a := fun b hb => by
      obtain ⟨h1, h2⟩ := List.mem_filter.mp hb
      refine Classical.byContradiction fun hne => ?_
      have := pp_of (hL a ha) (hL b h1) (beq_iff_eq.mp h2) (fun e => hne e.symm)
      rw [List.any_eq_false] at h
      exact h b h1 this
    generalize L.filter (fun b => b &&& a == a) = F at *
    match F, hm, hnf, all with
    | [x], _, _, _ => rfl
    | x :: y :: r, _, hnf, all =>
      exfalso
      have h1 := all x List.mem_cons_self
      have h2 := all y (List.mem_cons_of_mem _ List.mem_cons_self)
      rw [List.nodup_cons] at hnf
      exact hnf.1 (by rw [h1, h2]; exact List.mem_cons_self)
/-! traces -/
def stp (t : Nat) (A : List Nat) (m : Nat) : List Nat := if 0 < m &&& t ∧ m &&& t ∉ A then A ++ [m &&& t] else A
def trc (t : Nat) (L : List Nat) : List Nat := L.foldl (stp t) []
theorem stp_len (t : Nat) (A : List Nat) (m : Nat) : (stp t A m).length ≤ A.length + 1 := by
  unfold stp
  split <;> simp
theorem fold_len (t : Nat) : ∀ (L A : List Nat), (L.foldl (stp t) A).length ≤ A.length + L.length
  | [], A => by simp
  | m :: L, A => by
    have h1 := fold_len t L (stp t A m)
    have h2 := stp_len t A m
    simp only [List.foldl_cons, List.length_cons]
    omega
theorem trc_len (t : Nat) (L : List Nat) : (trc t L).length ≤ L.length := by simpa [trc] using fold_len t L []
def Tr (s : Nat) (A : List Nat) : Prop := A.Nodup ∧ ∀ x ∈ A, 0 < x ∧ x < 2 ^ s
theorem stp_tr {s t : Nat} (ht : t < 2 ^ s) {A : List Nat} (h : Tr s A) (m : Nat) : Tr s (stp t A m) := by
  unfold stp
  split
  · rename_i c
    refine ⟨?_, fun x hx => ?_⟩
    · rw [List.nodup_append]
      refine ⟨h.1, by simp, fun a ha b hb => ?_⟩
      rw [List.mem_singleton.mp hb]
      intro z
      subst z
      exact c.2 ha
    · rcases List.mem_append.mp hx with hx | hx
      · exact h.2 x hx
      · rw [List.mem_singleton.mp hx]; exact ⟨c.1, Nat.and_lt_two_pow _ ht⟩
  · exact h
theorem fold_tr {s t : Nat} (ht : t < 2 ^ s) : ∀ (L : List Nat) {A : List Nat}, Tr s A → Tr s (L.foldl (stp t) A)
  | [], _, h => h
  | m :: L, _, h => fold_tr ht L (stp_tr ht h m)
theorem trc_tr {s t : Nat} (ht : t < 2 ^ s) (L : List Nat) : Tr s (trc t L) := fold_tr ht L ⟨List.nodup_nil, fun x hx => by simp at hx⟩
theorem stp_sub (t : Nat) (A : List Nat) (m : Nat) : ∀ x ∈ A, x ∈ stp t A m := fun x hx => by
  unfold stp
  split
  · exact List.mem_append_left _ hx
  · exact hx
theorem fold_sub (t : Nat) : ∀ (L A : List Nat), ∀ x ∈ A, x ∈ L.foldl (stp t) A
  | [], _, _, h => h
  | m :: L, A, x, h => fold_sub t L _ x (stp_sub t A m x h)
theorem stp_in (t : Nat) (A : List Nat) (m : Nat) : m &&& t = 0 ∨ m &&& t ∈ stp t A m := by
  rcases Nat.eq_zero_or_pos (m &&& t) with h | h
  · exact .inl h
  · refine .inr ?_
    unfold stp
    split
    · exact List.mem_append_right _ (by simp)
    · rename_i c
      exact Classical.byContradiction fun z => c ⟨h, z⟩
theorem fold_in (t : Nat) : ∀ (L A : List Nat) (m : Nat), m ∈ L → m &&& t = 0 ∨ m &&& t ∈ L.foldl (stp t) A
  | x :: L, A, m, h => by
    rcases List.mem_cons.mp h with rfl | h
    · rcases stp_in t A m with h | h
      · exact .inl h
      · exact .inr (fold_sub t L _ _ h)
    · exact fold_in t L _ m h
theorem stp_id {t : Nat} {A : List Nat} {m : Nat} (h : m &&& t = 0 ∨ m &&& t ∈ A) : stp t A m = A := by
  unfold stp
  rw [if_neg]
  rintro ⟨h1, h2⟩
  rcases h with h | h
  · omega
  · exact h2 h
/-- a trace of the traces -/
theorem trc_trc {t f : Nat} (h : t &&& f = f) (L : List Nat) : trc f (trc t L) = trc f L := by
  have main : ∀ R : List Nat, trc f (trc t R.reverse) = trc f R.reverse := by
    intro R
    induction R with
    | nil => rfl
    | cons m R ih =>
      have e1 : ∀ u : Nat, trc u (m :: R).reverse = stp u (trc u R.reverse) m := fun u => by
        unfold trc
        rw [List.reverse_cons, List.foldl_append]
        rfl
      rw [e1, e1, ← ih]
      generalize trc t R.reverse = A
      have mf : m &&& t &&& f = m &&& f := by rw [Nat.and_assoc, h]
      by_cases c : 0 < m &&& t ∧ m &&& t ∉ A
      · have e2 : stp t A m = A ++ [m &&& t] := if_pos c
        rw [e2]
        have e3 : trc f (A ++ [m &&& t]) = stp f (trc f A) (m &&& t) := by
          unfold trc
          rw [List.foldl_append]
          rfl
        rw [e3]
        unfold stp
        rw [mf]
      · have e2 : stp t A m = A := if_neg c
        rw [e2]
        symm
        refine stp_id ?_
        rcases Nat.eq_zero_or_pos (m &&& t) with h0 | h0
        · left
          rw [← mf, h0, Nat.zero_and]
        · have h1 : m &&& t ∈ A := Classical.byContradiction fun z => c ⟨h0, z⟩
          have := fold_in f A [] (m &&& t) h1
          rw [mf] at this
          exact this
  have := main L.reverse
  rw [List.reverse_reverse] at this
  exact this
end Lw
end
section
set_option maxRecDepth 100000
set_option maxHeartbeats 0
namespace Lw
open PySem PySem.Spec PyProof.Rows L2 He Ev
def top (i : Nat) : Stmt := PySem.Challenge.pw_piecerealm_k00_lots_taken_and_refused.main.body.getD i (.Pass ⟨0, 0, 0, 0⟩)
def b0t0 : Ex := (.bl true)
def b0l0 : Sts := (.cons .pas
    .nil)
def b0 : Sts := (.cons (.whl b0t0
    b0l0)
    .nil)
def b1 : Sts := (.cons (.ret (.and (.isI (.var 0) [.b .int] false) (.not (.isI (.var 0) [.b .bool] false))))
    .nil)
def b2 : Sts := (.cons (.ret (.and (.call 1 (.cons (.var 0) .nil)) (.chn .le .lt (.int 0) (.var 0) (.var 1))))
    .nil)
def b3 : Sts := (.cons (.ret (.and (.call 1 (.cons (.var 0) .nil)) (.chn .le .le (.var 1) (.var 0) (.var 2))))
    .nil)
def b4 : Sts := (.cons (.ret (.isI (.var 0) [.b .list, .b .tuple] true))
    .nil)
def b5e0 : Ex := (.call 1 (.cons (.var 1) .nil))
def b5 : Sts := (.cons (.ret (.and (.isI (.var 0) [.b .tuple] false) (.bi .all false (.cons (.lc false [1] (.nm 1) (.seq (.var 0)) .no b5e0) .nil))))
    .nil)
def b6e0 : Ex := (.cmp .lt (.idx (.var 0) (.var 1)) (.idx (.var 0) (.bin .add false (.var 1) (.int 1))))
def b6 : Sts := (.cons (.ife (.not (.call 5 (.cons (.var 0) .nil)))
    (.cons (.ret (.bl false))
    .nil)
    .nil)
    (.cons (.ret (.bi .all false (.cons (.lc false [1] (.nm 1) (.rng (.cons (.bin .sub false (.bi .len false (.cons (.var 0) .nil)) (.int 1)) .nil)) .no b6e0) .nil)))
    .nil))
def b7e0 : Ex := (.chn .le .lt (.int 0) (.var 2) (.var 1))
def b7 : Sts := (.cons (.ret (.and (.call 6 (.cons (.var 0) .nil)) (.bi .all false (.cons (.lc false [2] (.nm 2) (.seq (.var 0)) .no b7e0) .nil))))
    .nil)
def b8e0 : Ex := (.cmp .ne (.idx (.var 1) (.var 2)) (.idx (.var 1) (.bin .add false (.var 2) (.int 1))))
def b8 : Sts := (.cons (.asg 1 (.bi .sorted false (.cons (.var 0) .nil)))
    (.cons (.ret (.bi .all false (.cons (.lc false [2] (.nm 2) (.rng (.cons (.bin .sub false (.bi .len false (.cons (.var 1) .nil)) (.int 1)) .nil)) .no b8e0) .nil)))
    .nil))
def b9e0 : Ex := (.call 9 (.cons (.var 1) .nil))
def b9 : Sts := (.cons (.ife (.call 4 (.cons (.var 0) .nil))
    (.cons (.ret (.bi .tuple false (.cons (.lc false [1] (.nm 1) (.seq (.var 0)) .no b9e0) .nil)))
    .nil)
    .nil)
    (.cons (.ret (.var 0))
    .nil))
def b10f0 : Exo := (.yes (.cmp .isIn (.var 2) (.var 1)))
def b10e0 : Ex := (.var 2)
def b10 : Sts := (.cons (.ret (.bi .tuple false (.cons (.lc false [2] (.nm 2) (.seq (.var 0)) b10f0 b10e0) .nil)))
    .nil)
def b11 : Sts := (.cons (.ret (.and (.call 7 (.cons (.var 0) (.cons (.var 1) .nil))) (.cmp .gt (.bi .len false (.cons (.var 0) .nil)) (.int 0))))
    .nil)
def b12e0 : Ex := (.call 11 (.cons (.var 2) (.cons (.var 0) .nil)))
def b12 : Sts := (.cons (.ife (.or (.not (.call 3 (.cons (.var 0) (.cons (.int 0) (.cons (.glb 0) .nil))))) (.not (.isI (.var 1) [.b .tuple] false)))
    (.cons (.ret (.bl false))
    .nil)
    .nil)
    (.cons (.ife (.not (.bi .all false (.cons (.lc false [2] (.nm 2) (.seq (.var 1)) .no b12e0) .nil)))
    (.cons (.ret (.bl false))
    .nil)
    .nil)
    (.cons (.ret (.call 8 (.cons (.var 1) .nil)))
    .nil)))
def b13e0 : Ex := (.bi .int false (.cons (.var 1) .nil))
def b13 : Sts := (.cons (.ret (.lst true (.cons (.lc false [1] (.nm 1) (.seq (.var 0)) .no b13e0) (.cons (.int 0) (.cons (.int 0) (.cons (.int 0) .nil))))))
    .nil)
def b14l0 : Sts := (.cons (.ife (.or (.cmp .gt (.idx (.var 0) (.int 2)) (.int 0)) (.cmp .ge (.idx (.var 0) (.int 3)) (.bi .len false (.cons (.var 2) .nil))))
    (.cons .brk
    .nil)
    .nil)
    (.cons (.ife (.cmp .ge (.bi .abs false (.cons (.idx (.var 2) (.idx (.var 0) (.int 3))) .nil)) (.bin .pow false (.int 10) (.int 15)))
    (.cons (.asgI (.var 0) (.int 2) (.bi .abs false (.cons (.idx (.var 2) (.idx (.var 0) (.int 3))) .nil)))
    .nil)
    .nil)
    (.cons (.asgI (.var 0) (.int 3) (.bin .add false (.idx (.var 0) (.int 3)) (.int 1)))
    .nil)))
def b14 : Sts := (.cons (.asg 2 (.idx (.var 0) (.int 0)))
    (.cons (.asgI (.var 0) (.int 1) (.bin .add false (.idx (.var 0) (.int 1)) (.int 1)))
    (.cons (.forr (.nm 3) (.rng (.cons (.bi .len false (.cons (.var 2) .nil)) .nil))
    b14l0)
    (.cons (.ife (.cmp .gt (.idx (.var 0) (.int 2)) (.int 0))
    (.cons (.asg 6 (.bin .mod false (.bi .int false (.cons (.idx (.var 0) (.int 2)) .nil)) (.var 1)))
    (.cons (.asgI (.var 0) (.int 2) (.bin .div false (.idx (.var 0) (.int 2)) (.var 1)))
    (.cons (.ret (.var 6))
    .nil)))
    .nil)
    (.cons (.asg 4 (.int 0))
    (.cons (.ife (.cmp .gt (.bi .len false (.cons (.var 2) .nil)) (.int 0))
    (.cons (.asg 4 (.bin .mod false (.bi .int false (.cons (.bi .abs false (.cons (.idx (.var 2) (.bin .mod false (.bi .int false (.cons (.idx (.var 0) (.int 1)) .nil)) (.bi .len false (.cons (.var 2) .nil)))) .nil)) .nil)) (.int 1000000007)))
    .nil)
    .nil)
    (.cons (.asg 5 (.bin .mod false (.bi .int false (.cons (.bin .add false (.bin .add false (.bin .mul false (.var 4) (.int 40692)) (.bin .mul false (.idx (.var 0) (.int 1)) (.int 52774))) (.int 11)) .nil)) (.int 2147483399)))
    (.cons (.asg 5 (.bin .mod false (.bi .int false (.cons (.bin .add false (.bin .add false (.bin .mul false (.var 5) (.var 5)) (.bin .mul false (.idx (.var 0) (.int 1)) (.int 40014))) (.bin .div false (.var 4) (.int 3))) .nil)) (.int 2147483563)))
    (.cons (.asg 5 (.bin .mod false (.bi .int false (.cons (.bin .add false (.bin .mul false (.var 5) (.int 16807)) (.int 29)) .nil)) (.int 998244353)))
    (.cons (.ret (.bin .mod false (.bi .int false (.cons (.bin .div false (.var 5) (.int 7)) .nil)) (.var 1)))
    .nil))))))))))
def b15l0 : Sts := (.cons (.asg 5 (.call 14 (.cons (.var 0) (.cons (.bi .len false (.cons (.var 2) .nil)) .nil))))
    (.cons (.ex (.bm .append (.var 3) (.cons (.idx (.var 2) (.var 5)) .nil)))
    (.cons (.asg 2 (.bin .add false (.slc false (.var 2) .no (.yes (.var 5))) (.slc false (.var 2) (.yes (.bin .add false (.var 5) (.int 1))) .no)))
    .nil)))
def b15e0 : Ex := (.var 4)
def b15 : Sts := (.cons (.asg 2 (.lc false [4] (.nm 4) (.rng (.cons (.var 1) .nil)) .no b15e0))
    (.cons (.asg 3 (.lst true .nil))
    (.cons (.forr (.nm 4) (.rng (.cons (.var 1) .nil))
    b15l0)
    (.cons (.ret (.var 3))
    .nil))))
def b16e0 : Ex := (.call 16 (.cons (.idx (.var 0) (.var 2)) (.cons (.idx (.var 1) (.var 2)) .nil)))
def b16 : Sts := (.cons (.ife (.isN false (.var 1))
    (.cons (.ret (.isN false (.var 0)))
    .nil)
    .nil)
    (.cons (.ife (.isI (.var 1) [.b .bool] false)
    (.cons (.ret (.and (.isI (.var 0) [.b .bool] false) (.cmp .eq (.var 0) (.var 1))))
    .nil)
    .nil)
    (.cons (.ife (.isI (.var 1) [.b .int] false)
    (.cons (.ret (.and (.isI (.var 0) [.b .int] false) (.and (.not (.isI (.var 0) [.b .bool] false)) (.cmp .eq (.var 0) (.var 1)))))
    .nil)
    .nil)
    (.cons (.ife (.isI (.var 1) [.b .str] false)
    (.cons (.ret (.and (.isI (.var 0) [.b .str] false) (.cmp .eq (.var 0) (.var 1))))
    .nil)
    .nil)
    (.cons (.ife (.and (.isI (.var 1) [.b .tuple] false) (.not (.isI (.var 0) [.b .tuple] false)))
    (.cons (.ret (.bl false))
    .nil)
    .nil)
    (.cons (.ife (.and (.isI (.var 1) [.b .list] false) (.not (.isI (.var 0) [.b .list] false)))
    (.cons (.ret (.bl false))
    .nil)
    .nil)
    (.cons (.ife (.cmp .ne (.bi .len false (.cons (.var 0) .nil)) (.bi .len false (.cons (.var 1) .nil)))
    (.cons (.ret (.bl false))
    .nil)
    .nil)
    (.cons (.ret (.cmp .notIn (.bl false) (.lc false [2] (.nm 2) (.rng (.cons (.bi .len false (.cons (.var 1) .nil)) .nil)) .no b16e0)))
    .nil))))))))
def b17f0 : Exo := (.yes (.cmp .eq (.bin .band false (.bin .shr false (.var 0) (.var 1)) (.int 1)) (.int 1)))
def b17e0 : Ex := (.var 1)
def b17 : Sts := (.cons (.ret (.bi .tuple false (.cons (.lc false [1] (.nm 1) (.rng (.cons (.int 8) .nil)) b17f0 b17e0) .nil)))
    .nil)
def b18l0 : Sts := (.cons (.ex (.bm .append (.var 7) (.cons (.bin .band false (.call 14 (.cons (.var 0) (.cons (.bin .shl false (.int 1) (.var 1)) .nil))) (.call 14 (.cons (.var 0) (.cons (.bin .shl false (.int 1) (.var 1)) .nil)))) .nil)))
    .nil)
def b18l1 : Sts := (.cons (.asg 9 (.bin .sub false (.var 5) (.bin .shl false (.int 1) (.idx (.var 3) (.var 8)))))
    (.cons (.ife (.not (.var 2))
    (.cons (.asg 9 (.bin .bor false (.bin .shl false (.int 1) (.idx (.var 3) (.var 8))) (.bin .shl false (.int 1) (.idx (.var 3) (.bin .mod false (.bi .int false (.cons (.bin .add false (.var 8) (.int 1)) .nil)) (.var 4))))))
    .nil)
    .nil)
    (.cons (.ex (.bm .append (.var 7) (.cons (.bin .bor false (.var 9) (.bin .band false (.bin .band false (.var 6) (.call 14 (.cons (.var 0) (.cons (.int 256) .nil)))) (.call 14 (.cons (.var 0) (.cons (.int 256) .nil))))) .nil)))
    .nil)))
def b18e0 : Ex := (.bin .shl false (.int 1) (.var 10))
def b18 : Sts := (.cons (.asg 3 (.call 15 (.cons (.var 0) (.cons (.var 1) .nil))))
    (.cons (.asg 4 (.bi .min false (.cons (.var 1) (.cons (.bin .add false (.int 3) (.call 14 (.cons (.var 0) (.cons (.int 5) .nil)))) .nil))))
    (.cons (.asg 5 (.bi .sum false (.cons (.lc false [10] (.nm 10) (.seq (.slc false (.var 3) .no (.yes (.var 4)))) .no b18e0) .nil)))
    (.cons (.asg 6 (.bin .sub false (.bin .sub false (.bin .shl false (.int 1) (.var 1)) (.int 1)) (.var 5)))
    (.cons (.asg 7 (.lst true .nil))
    (.cons (.forr (.nm 8) (.rng (.cons (.var 4) .nil))
    b18l1)
    (.cons (.forr (.nm 8) (.rng (.cons (.call 14 (.cons (.var 0) (.cons (.int 3) .nil))) .nil))
    b18l0)
    (.cons (.ret (.var 7))
    .nil))))))))
def b19l0 : Sts := (.cons (.asg 7 (.bin .band false (.var 4) (.call 14 (.cons (.var 0) (.cons (.bin .shl false (.int 1) (.var 1)) .nil)))))
    (.cons (.ife (.or (.var 5) (.cmp .eq (.call 14 (.cons (.var 0) (.cons (.int 2) .nil))) (.int 0)))
    (.cons (.asg 7 (.bin .band false (.var 7) (.call 14 (.cons (.var 0) (.cons (.bin .shl false (.int 1) (.var 1)) .nil)))))
    .nil)
    .nil)
    (.cons (.asg 4 (.bin .sub false (.var 4) (.var 7)))
    (.cons (.ife (.and (.var 5) (.cmp .gt (.bi .len false (.cons (.var 3) .nil)) (.int 0)))
    (.cons (.asg 7 (.bin .bor false (.var 7) (.bin .band false (.idx (.var 3) (.neg (.int 1))) (.bin .bor false (.call 14 (.cons (.var 0) (.cons (.bin .shl false (.int 1) (.var 1)) .nil))) (.call 14 (.cons (.var 0) (.cons (.bin .shl false (.int 1) (.var 1)) .nil)))))))
    .nil)
    (.cons (.ife (.cmp .gt (.bi .len false (.cons (.var 3) .nil)) (.int 0))
    (.cons (.asg 7 (.bin .bor false (.var 7) (.bin .band false (.idx (.var 3) (.call 14 (.cons (.var 0) (.cons (.bi .len false (.cons (.var 3) .nil)) .nil)))) (.call 14 (.cons (.var 0) (.cons (.bin .shl false (.int 1) (.var 1)) .nil))))))
    .nil)
    .nil)
    .nil))
    (.cons (.ife (.and (.cmp .gt (.var 7) (.int 0)) (.cmp .notIn (.var 7) (.var 3)))
    (.cons (.ex (.bm .append (.var 3) (.cons (.var 7) .nil)))
    .nil)
    .nil)
    .nil)))))
def b19 : Sts := (.cons (.asg 3 (.lst true .nil))
    (.cons (.asg 4 (.bin .sub false (.bin .shl false (.int 1) (.var 1)) (.int 1)))
    (.cons (.asg 5 (.cmp .eq (.call 14 (.cons (.var 0) (.cons (.int 3) .nil))) (.int 0)))
    (.cons (.forr (.nm 6) (.rng (.cons (.var 2) .nil))
    b19l0)
    (.cons (.ret (.var 3))
    .nil)))))
def b20l0 : Sts := (.cons (.ife (.and (.cmp .gt (.idx (.var 4) (.var 6)) (.int 0)) (.and (.cmp .notIn (.idx (.var 4) (.var 6)) (.var 5)) (.cmp .lt (.bi .len false (.cons (.var 5) .nil)) (.var 2))))
    (.cons (.ex (.bm .append (.var 5) (.cons (.idx (.var 4) (.var 6)) .nil)))
    .nil)
    .nil)
    .nil)
def b20e0 : Ex := (.call 14 (.cons (.var 0) (.cons (.bin .shl false (.int 1) (.var 1)) .nil)))
def b20e1 : Ex := (.bin .band false (.call 14 (.cons (.var 0) (.cons (.bin .shl false (.int 1) (.var 1)) .nil))) (.call 14 (.cons (.var 0) (.cons (.bin .shl false (.int 1) (.var 1)) .nil))))
def b20 : Sts := (.cons (.asg 3 (.call 14 (.cons (.var 0) (.cons (.int 6) .nil))))
    (.cons (.asg 4 (.lst false .nil))
    (.cons (.ife (.cmp .eq (.var 3) (.int 0))
    (.cons (.asg 4 (.lc false [6] (.nm 6) (.rng (.cons (.call 14 (.cons (.var 0) (.cons (.bin .add false (.var 2) (.int 1)) .nil))) .nil)) .no b20e0))
    .nil)
    (.cons (.ife (.cmp .eq (.var 3) (.int 1))
    (.cons (.asg 4 (.lc false [6] (.nm 6) (.rng (.cons (.bin .add false (.var 2) (.int 1)) .nil)) .no b20e1))
    .nil)
    (.cons (.ife (.cmp .lt (.var 3) (.int 4))
    (.cons (.asg 4 (.call 18 (.cons (.var 0) (.cons (.var 1) (.cons (.cmp .eq (.var 3) (.int 3)) .nil)))))
    .nil)
    (.cons (.asg 4 (.call 19 (.cons (.var 0) (.cons (.var 1) (.cons (.bin .add false (.int 1) (.call 14 (.cons (.var 0) (.cons (.var 2) .nil)))) .nil)))))
    .nil))
    .nil))
    .nil))
    (.cons (.asg 5 (.lst true .nil))
    (.cons (.forr (.nm 6) (.seq (.call 15 (.cons (.var 0) (.cons (.bi .len false (.cons (.var 4) .nil)) .nil))))
    b20l0)
    (.cons (.ret (.var 5))
    .nil))))))
def b21l0 : Sts := (.cons (.ife (.cmp .eq (.call 14 (.cons (.var 0) (.cons (.int 2) .nil))) (.int 0))
    (.cons (.ex (.bm .append (.var 2) (.cons (.bi .list false (.cons (.var 3) .nil)) .nil)))
    .nil)
    (.cons (.ex (.bm .append (.var 2) (.cons (.bi .tuple false (.cons (.var 3) .nil)) .nil)))
    .nil))
    .nil)
def b21 : Sts := (.cons (.asg 2 (.lst true .nil))
    (.cons (.forr (.nm 3) (.seq (.var 1))
    b21l0)
    (.cons (.ife (.cmp .eq (.call 14 (.cons (.var 0) (.cons (.int 2) .nil))) (.int 0))
    (.cons (.ret (.var 2))
    .nil)
    .nil)
    (.cons (.ret (.bi .tuple false (.cons (.var 2) .nil)))
    .nil))))
def b22e0 : Ex := (.idx (.lst false (.cons (.var 5) (.cons (.bl true) .nil))) (.bi .int false (.cons (.cmp .eq (.var 5) (.int 1)) .nil)))
def b22 : Sts := (.cons (.asg 3 (.call 14 (.cons (.var 0) (.cons (.bi .len false (.cons (.var 2) .nil)) .nil))))
    (.cons (.asg 4 (.call 14 (.cons (.var 0) (.cons (.int 9) .nil))))
    (.cons (.ife (.and (.cmp .eq (.var 4) (.int 0)) (.cmp .gt (.bi .len false (.cons (.var 2) .nil)) (.int 1)))
    (.cons (.ret (.slr (.var 2)))
    .nil)
    .nil)
    (.cons (.ife (.cmp .eq (.var 4) (.int 1))
    (.cons (.ret (.bin .add false (.tup (.cons (.bin .sub false (.neg (.int 1)) (.call 14 (.cons (.var 0) (.cons (.int 3) .nil)))) .nil)) (.var 2)))
    .nil)
    .nil)
    (.cons (.ife (.cmp .eq (.var 4) (.int 2))
    (.cons (.ret (.bin .add false (.var 2) (.tup (.cons (.bin .add false (.var 1) (.call 14 (.cons (.var 0) (.cons (.int 2) .nil)))) .nil))))
    .nil)
    .nil)
    (.cons (.ife (.and (.cmp .eq (.var 4) (.int 3)) (.cmp .eq (.idx (.var 2) (.int 0)) (.int 0)))
    (.cons (.ret (.bin .add false (.tup (.cons (.bl false) .nil)) (.slc false (.var 2) (.yes (.int 1)) .no)))
    .nil)
    .nil)
    (.cons (.ife (.cmp .eq (.var 4) (.int 3))
    (.cons (.ret (.bin .add false (.tup (.cons (.bl false) .nil)) (.var 2)))
    .nil)
    .nil)
    (.cons (.ife (.and (.cmp .eq (.var 4) (.int 4)) (.cmp .isIn (.int 1) (.var 2)))
    (.cons (.ret (.bi .tuple false (.cons (.lc false [5] (.nm 5) (.seq (.var 2)) .no b22e0) .nil)))
    .nil)
    .nil)
    (.cons (.ife (.cmp .eq (.var 4) (.int 5))
    (.cons (.ret (.bin .add false (.bin .add false (.slc false (.var 2) .no (.yes (.var 3))) (.tup (.cons (.idx (.lst false (.cons .non (.cons (.str []) (.cons (.str [48]) (.cons (.tup (.cons (.int 0) .nil)) (.cons (.lst false (.cons (.int 1) .nil)) (.cons (.tup .nil) .nil))))))) (.call 14 (.cons (.var 0) (.cons (.int 6) .nil)))) .nil))) (.slc false (.var 2) (.yes (.bin .add false (.var 3) (.int 1))) .no)))
    .nil)
    .nil)
    (.cons (.ife (.cmp .eq (.var 4) (.int 6))
    (.cons (.ret (.idx (.lst false (.cons .non (.cons (.int 0) (.cons (.bl true) (.cons (.str []) (.cons (.str [48, 49]) (.cons (.str [48, 44, 49]) (.cons (.neg (.int 1)) .nil)))))))) (.call 14 (.cons (.var 0) (.cons (.int 7) .nil)))))
    .nil)
    .nil)
    (.cons (.ife (.cmp .eq (.var 4) (.int 7))
    (.cons (.ret (.slc false (.var 2) .no (.yes (.int 0))))
    .nil)
    .nil)
    (.cons (.ret (.bin .add false (.bin .add false (.slc false (.var 2) .no (.yes (.var 3))) (.tup (.cons (.idx (.var 2) (.var 3)) .nil))) (.slc false (.var 2) (.yes (.var 3)) .no)))
    .nil))))))))))))
def b23 : Sts := (.cons (.asg 3 (.call 14 (.cons (.var 0) (.cons (.int 8) .nil))))
    (.cons (.asg 4 (.call 14 (.cons (.var 0) (.cons (.bin .add false (.bi .len false (.cons (.var 2) .nil)) (.int 1)) .nil))))
    (.cons (.ife (.cmp .eq (.var 3) (.int 0))
    (.cons (.ret (.tup (.cons (.idx (.lst false (.cons (.neg (.int 1)) (.cons (.int 9) (.cons (.int 10) (.cons (.int 64) (.cons .non (.cons (.bl true) (.cons (.bl false) (.cons (.str [51]) (.cons (.tup (.cons (.int 3) .nil)) (.cons (.lst false (.cons (.int 3) .nil)) (.cons (.str []) (.cons (.bin .sub false (.bin .sub false (.int 0) (.var 1)) (.int 1)) .nil))))))))))))) (.call 14 (.cons (.var 0) (.cons (.int 12) .nil)))) (.cons (.var 2) .nil))))
    .nil)
    .nil)
    (.cons (.ife (.cmp .eq (.var 3) (.int 1))
    (.cons (.ret (.tup (.cons (.var 1) (.cons (.idx (.lst false (.cons .non (.cons (.int 0) (.cons (.int 3) (.cons (.bl true) (.cons (.str []) (.cons (.str [48, 49]) (.cons (.str [108, 111, 116, 115]) (.cons (.neg (.int 1)) .nil))))))))) (.call 14 (.cons (.var 0) (.cons (.int 8) .nil)))) .nil))))
    .nil)
    .nil)
    (.cons (.ife (.or (.cmp .eq (.var 3) (.int 2)) (.cmp .eq (.bi .len false (.cons (.var 2) .nil)) (.int 0)))
    (.cons (.ret (.tup (.cons (.var 1) (.cons (.bin .add false (.bin .add false (.slc false (.var 2) .no (.yes (.var 4))) (.tup (.cons (.idx (.lst false (.cons (.tup .nil) (.cons (.lst false .nil) .nil))) (.call 14 (.cons (.var 0) (.cons (.int 2) .nil)))) .nil))) (.slc false (.var 2) (.yes (.var 4)) .no)) .nil))))
    .nil)
    .nil)
    (.cons (.asg 5 (.idx (.var 2) (.bin .mod false (.bi .int false (.cons (.var 4) .nil)) (.bi .len false (.cons (.var 2) .nil)))))
    (.cons (.ife (.cmp .eq (.var 3) (.int 3))
    (.cons (.ret (.tup (.cons (.call 14 (.cons (.var 0) (.cons (.bin .add false (.idx (.var 5) (.neg (.int 1))) (.int 1)) .nil))) (.cons (.var 2) .nil))))
    .nil)
    .nil)
    (.cons (.ife (.cmp .eq (.var 3) (.int 4))
    (.cons (.ret (.tup (.cons (.var 1) (.cons (.bin .add false (.bin .add false (.slc false (.var 2) .no (.yes (.var 4))) (.tup (.cons (.var 5) .nil))) (.slc false (.var 2) (.yes (.var 4)) .no)) .nil))))
    .nil)
    .nil)
    (.cons (.ife (.cmp .eq (.var 3) (.int 5))
    (.cons (.ret (.tup (.cons (.var 1) (.cons (.bin .add false (.bin .add false (.slc false (.var 2) .no (.yes (.var 4))) (.tup (.cons (.bi .list false (.cons (.var 5) .nil)) .nil))) (.slc false (.var 2) (.yes (.var 4)) .no)) .nil))))
    .nil)
    .nil)
    (.cons (.asg 4 (.bin .mod false (.bi .int false (.cons (.var 4) .nil)) (.bi .len false (.cons (.var 2) .nil))))
    (.cons (.ret (.tup (.cons (.var 1) (.cons (.bin .add false (.bin .add false (.slc false (.var 2) .no (.yes (.var 4))) (.tup (.cons (.call 22 (.cons (.var 0) (.cons (.var 1) (.cons (.var 5) .nil)))) .nil))) (.slc false (.var 2) (.yes (.bin .add false (.var 4) (.int 1))) .no)) .nil))))
    .nil)))))))))))
def b24 : Sts := (.cons (.tryE (.cons (.ife (.var 2)
    (.cons (.ex (.makk false 0 .nil (.cons (.var 1) (.cons (.var 0) .nil)) [1, 0]))
    .nil)
    (.cons (.ex (.mak false 0 (.cons (.var 0) (.cons (.var 1) .nil))))
    .nil))
    .nil)
    0 (some 3) (.ife (.isx [1, 3, 4, 5, 6, 7, 8] true) (.ret (.pl (.bl false))) (.ret (.and (.isx [2] false) (.call 16 (.cons (.fld 0) (.cons (.pl (.tup (.cons (.var 0) (.cons (.var 1) .nil)))) .nil)))))))
    (.cons (.ret (.bl false))
    .nil))
def b25 : Sts := (.cons (.ret (.and (.call 16 (.cons (.eqo (.var 0) (.var 1) 5) (.cons (.var 2) .nil))) (.and (.call 16 (.cons (.neo (.var 0) (.var 1) 5) (.cons (.not (.var 2)) .nil))) (.call 16 (.cons (.eqo (.var 1) (.var 0) 5) (.cons (.var 2) .nil))))))
    .nil)
def b26l0 : Sts := (.cons (.ife (.or (.not (.call 16 (.cons (.eqo (.var 1) (.var 5) 5) (.cons (.bl false) .nil)))) (.not (.call 16 (.cons (.neo (.var 1) (.var 5) 5) (.cons (.bl true) .nil)))))
    (.cons (.ret (.bl false))
    .nil)
    .nil)
    .nil)
def b26 : Sts := (.cons (.asg 4 (.call 14 (.cons (.var 0) (.cons (.bin .add false (.bi .len false (.cons (.var 3) .nil)) (.int 1)) .nil))))
    (.cons (.ife (.not (.call 25 (.cons (.var 1) (.cons (.makk false 0 .nil (.cons (.call 21 (.cons (.var 0) (.cons (.var 3) .nil))) (.cons (.var 2) .nil)) [1, 0]) (.cons (.bl true) .nil)))))
    (.cons (.ret (.bl false))
    .nil)
    .nil)
    (.cons (.ife (.and (.cmp .lt (.var 2) (.int 8)) (.not (.call 25 (.cons (.var 1) (.cons (.mak false 0 (.cons (.bin .add false (.var 2) (.int 1)) (.cons (.var 3) .nil))) (.cons (.bl false) .nil))))))
    (.cons (.ret (.bl false))
    .nil)
    .nil)
    (.cons (.ife (.and (.cmp .lt (.var 4) (.bi .len false (.cons (.var 3) .nil))) (.not (.call 25 (.cons (.var 1) (.cons (.mak false 0 (.cons (.var 2) (.cons (.bin .add false (.slc false (.var 3) .no (.yes (.var 4))) (.slc false (.var 3) (.yes (.bin .add false (.var 4) (.int 1))) .no)) .nil))) (.cons (.bl false) .nil))))))
    (.cons (.ret (.bl false))
    .nil)
    .nil)
    (.cons (.ife (.and (.cmp .gt (.var 4) (.int 1)) (.not (.call 25 (.cons (.var 1) (.cons (.mak false 0 (.cons (.var 2) (.cons (.bin .add false (.bin .add false (.slc false (.var 3) (.yes (.int 1)) (.yes (.var 4))) (.slc false (.var 3) .no (.yes (.int 1)))) (.slc false (.var 3) (.yes (.var 4)) .no)) .nil))) (.cons (.bl false) .nil))))))
    (.cons (.ret (.bl false))
    .nil)
    .nil)
    (.cons (.forr (.nm 5) (.seq (.lst false (.cons (.tup (.cons (.var 2) (.cons (.var 3) .nil))) (.cons (.var 3) (.cons .non (.cons (.var 2) (.cons (.bl true) (.cons (.str []) .nil))))))))
    b26l0)
    (.cons (.ret (.bl true))
    .nil)))))))
def b27l0 : Sts := (.cons (.asgT [9, 10] (.call 23 (.cons (.var 1) (.cons (.var 2) (.cons (.var 3) .nil)))))
    (.cons (.ife (.and (.isI (.var 10) [.b .tuple] false) (.cmp .eq (.call 14 (.cons (.var 1) (.cons (.int 2) .nil))) (.int 0)))
    (.cons (.asg 10 (.bi .list false (.cons (.var 10) .nil)))
    .nil)
    .nil)
    (.cons (.ife (.not (.call 24 (.cons (.var 9) (.cons (.var 10) (.cons (.cmp .eq (.bin .mod false (.bi .int false (.cons (.var 7) .nil)) (.int 4)) (.int 3)) .nil)))))
    (.cons (.ret (.bl false))
    .nil)
    .nil)
    (.cons (.asg 8 (.mak false 0 (.cons (.var 2) (.cons (.call 21 (.cons (.var 1) (.cons (.var 3) .nil))) .nil))))
    (.cons (.ife (.or (.not (.call 16 (.cons (.att (.var 8) 4) (.cons (.var 3) .nil)))) (.not (.call 16 (.cons (.lno (.var 8) 6) (.cons (.bi .len false (.cons (.var 3) .nil)) .nil)))))
    (.cons (.ret (.bl false))
    .nil)
    .nil)
    .nil)))))
def b27l1 : Sts := (.cons (.ex (.bm .append (.var 6) (.cons (.int 0) .nil)))
    .nil)
def b27e0 : Ex := (.bi .list true (.cons (.var 6) .nil))
def b27e1 : Ex := (.call 17 (.cons (.var 11) .nil))
def b27 : Sts := (.cons (.asg 1 (.call 13 (.cons (.var 0) .nil)))
    (.cons (.asg 2 (.idx (.lst false (.cons (.int 0) (.cons (.int 1) (.cons (.int 2) (.cons (.int 3) (.cons (.int 3) (.cons (.int 4) (.cons (.int 5) (.cons (.int 6) (.cons (.int 7) (.cons (.int 8) .nil))))))))))) (.call 14 (.cons (.var 1) (.cons (.int 10) .nil)))))
    (.cons (.asg 3 (.bi .tuple false (.cons (.lc false [11] (.nm 11) (.seq (.call 20 (.cons (.var 1) (.cons (.var 2) (.cons (.int 8) .nil))))) .no b27e1) .nil)))
    (.cons (.asg 4 (.lc true [6] (.nm 6) (.seq (.var 3)) .no b27e0))
    (.cons (.asg 5 (.mak false 0 (.cons (.var 2) (.cons (.var 4) .nil))))
    (.cons (.forr (.nm 6) (.seq (.var 4))
    b27l1)
    (.cons (.ex (.bm .append (.var 4) (.cons (.lst true (.cons (.int 0) .nil)) .nil)))
    (.cons (.ife (.or (.not (.call 16 (.cons (.att (.var 5) 3) (.cons (.var 2) .nil)))) (.or (.not (.call 16 (.cons (.att (.var 5) 4) (.cons (.var 3) .nil)))) (.not (.call 16 (.cons (.lno (.var 5) 6) (.cons (.bi .len false (.cons (.var 3) .nil)) .nil))))))
    (.cons (.ret (.bl false))
    .nil)
    .nil)
    (.cons (.ife (.not (.call 26 (.cons (.var 1) (.cons (.var 5) (.cons (.var 2) (.cons (.var 3) .nil))))))
    (.cons (.ret (.bl false))
    .nil)
    .nil)
    (.cons (.forr (.nm 7) (.rng (.cons (.int 10) .nil))
    b27l0)
    (.cons (.ret (.and (.call 16 (.cons (.att (.var 5) 4) (.cons (.var 3) .nil))) (.call 16 (.cons (.att (.var 5) 3) (.cons (.var 2) .nil)))))
    .nil)))))))))))
def b28 : Sts := (.cons (.tryE (.cons (.ret (.call 27 (.cons (.var 0) .nil)))
    .nil)
    0 none (.ret (.pl (.bl false))))
    .nil)
def b29 : Sts := (.cons (.asg 3 (.call 9 (.cons (.var 2) .nil)))
    (.cons (.ife (.not (.call 12 (.cons (.var 1) (.cons (.var 3) .nil))))
    (.cons (.rai 2 (.cons (.tup (.cons (.var 1) (.cons (.var 2) .nil))) .nil))
    .nil)
    .nil)
    (.cons (.asgA (.var 0) 3 (.var 1))
    (.cons (.asgA (.var 0) 4 (.var 3))
    .nil))))
def b30 : Sts := (.cons (.ret (.and (.isI (.var 1) [.c 0] false) (.and (.cmp .eq (.att (.var 0) 3) (.att (.var 1) 3)) (.cmp .eq (.att (.var 0) 4) (.att (.var 1) 4)))))
    .nil)
def b31 : Sts := (.cons (.ret (.bi .len false (.cons (.att (.var 0) 4) .nil)))
    .nil)
def b32 : Sts := (.cons (.ex (.call 0 (.cons (.int 0) .nil)))
    .nil)
def b33 : Sts := (.cons (.ex (.call 0 (.cons (.int 1) .nil)))
    .nil)
def b34l0 : Sts := (.cons (.ife (.not (.call 2 (.cons (.var 3) (.cons (.bi .len false (.cons (.att (.var 0) 4) .nil)) .nil))))
    (.cons (.rai 1 (.cons (.var 3) .nil))
    .nil)
    .nil)
    .nil)
def b34 : Sts := (.cons (.forr (.nm 3) (.seq (.tup (.cons (.var 1) (.cons (.var 2) .nil))))
    b34l0)
    (.cons (.ret (.call 10 (.cons (.idx (.att (.var 0) 4) (.var 1)) (.cons (.idx (.att (.var 0) 4) (.var 2)) .nil))))
    .nil))
def T : Tb where
  fns := [⟨1, 1, b0, true⟩, ⟨1, 1, b1, true⟩, ⟨2, 2, b2, true⟩, ⟨3, 3, b3, true⟩, ⟨1, 1, b4, true⟩, ⟨1, 2, b5, true⟩, ⟨1, 2, b6, true⟩, ⟨2, 3, b7, true⟩, ⟨1, 3, b8, true⟩, ⟨1, 2, b9, true⟩, ⟨2, 3, b10, true⟩, ⟨2, 2, b11, true⟩, ⟨2, 3, b12, true⟩, ⟨1, 2, b13, false⟩, ⟨2, 7, b14, true⟩, ⟨2, 6, b15, true⟩, ⟨2, 3, b16, true⟩, ⟨1, 2, b17, true⟩, ⟨3, 11, b18, true⟩, ⟨3, 8, b19, true⟩, ⟨3, 7, b20, true⟩, ⟨2, 4, b21, true⟩, ⟨3, 6, b22, true⟩, ⟨3, 6, b23, true⟩, ⟨3, 4, b24, true⟩, ⟨3, 3, b25, true⟩, ⟨4, 6, b26, true⟩, ⟨1, 12, b27, true⟩, ⟨1, 1, b28, true⟩, ⟨3, 4, b29, true⟩, ⟨2, 2, b30, true⟩, ⟨1, 1, b31, true⟩, ⟨2, 2, b32, true⟩, ⟨1, 1, b33, true⟩, ⟨3, 4, b34, true⟩]
  cls := [⟨[3, 4], some 29, [(5, 30), (6, 31), (7, 32), (8, 33), (9, 34)]⟩]
  exc := [[], [0], [0], [0], [0], [1], [0], [0], [2]]
  anc := [[0], [1, 0], [2, 0], [3, 0], [4, 0], [5, 0], [6, 0], [7, 0], [8, 0]]
  glb := [(.int 8)]
def M : Nm where
  fns := ("_wall" :: "is_integer" :: "is_number_below" :: "is_between" :: "is_sequence" :: "are_integers" :: "is_rising" :: "is_rising_below" :: "all_unlike" :: "frozen" :: "common_places" :: "is_lot" :: "are_lots" :: "_law_box" :: "_law_draw" :: "_law_order" :: "_law_same" :: "_law_lot" :: "_law_planted" :: "_law_grown" :: "_law_family" :: "_law_passed" :: "_law_bad_lot" :: "_law_wrong" :: "_law_refused" :: "_law_equal" :: "_law_compared" :: "_law_all" :: "law" :: "" :: "" :: "" :: "" :: "" :: "" :: ([] : List Str))
  kws := []
  cls := ["Lots"]
  ckw := [(0, 0, ["members", "size"], [1, 0])]
  mkw := []
  exc := ["PieceError", "InvalidNumber", "InvalidLots", "InvalidLot", "InvalidWidths", "InvalidTable", "InvalidRow", "InvalidWeb", "Undefined"]
  atts := ["value", "at", "what", "size", "members", "__eq__", "__len__", "seen_at", "tops", "common"]
  glb := ["MOST_PLACES"]
  hot := [16]
def e0 : Ent := ⟨⟨("_wall", none), "_wall", "_wall", defArgs (top 0), defBody (top 0), defScope (top 0), [], []⟩, ["k"], ["k"]⟩
def e1 : Ent := ⟨⟨("is_integer", none), "is_integer", "is_integer", defArgs (top 2), defBody (top 2), defScope (top 2), [], []⟩, ["value"], ["value"]⟩
def e2 : Ent := ⟨⟨("is_number_below", none), "is_number_below", "is_number_below", defArgs (top 3), defBody (top 3), defScope (top 3), [], []⟩, ["value", "limit"], ["value", "limit"]⟩
def e3 : Ent := ⟨⟨("is_between", none), "is_between", "is_between", defArgs (top 4), defBody (top 4), defScope (top 4), [], []⟩, ["value", "low", "high"], ["value", "low", "high"]⟩
def e4 : Ent := ⟨⟨("is_sequence", none), "is_sequence", "is_sequence", defArgs (top 5), defBody (top 5), defScope (top 5), [], []⟩, ["value"], ["value"]⟩
def e5 : Ent := ⟨⟨("are_integers", none), "are_integers", "are_integers", defArgs (top 6), defBody (top 6), defScope (top 6), [], []⟩, ["value", "one"], ["value"]⟩
def e6 : Ent := ⟨⟨("is_rising", none), "is_rising", "is_rising", defArgs (top 7), defBody (top 7), defScope (top 7), [], []⟩, ["value", "k"], ["value"]⟩
def e7 : Ent := ⟨⟨("is_rising_below", none), "is_rising_below", "is_rising_below", defArgs (top 8), defBody (top 8), defScope (top 8), [], []⟩, ["value", "limit", "one"], ["value", "limit"]⟩
def e8 : Ent := ⟨⟨("all_unlike", none), "all_unlike", "all_unlike", defArgs (top 9), defBody (top 9), defScope (top 9), [], []⟩, ["values", "row", "k"], ["values"]⟩
def e9 : Ent := ⟨⟨("frozen", none), "frozen", "frozen", defArgs (top 10), defBody (top 10), defScope (top 10), [], []⟩, ["value", "one"], ["value"]⟩
def e10 : Ent := ⟨⟨("common_places", none), "common_places", "common_places", defArgs (top 22), defBody (top 22), defScope (top 22), [], []⟩, ["one", "other", "place"], ["one", "other"]⟩
def e11 : Ent := ⟨⟨("is_lot", none), "is_lot", "is_lot", defArgs (top 25), defBody (top 25), defScope (top 25), [], []⟩, ["value", "size"], ["value", "size"]⟩
def e12 : Ent := ⟨⟨("are_lots", none), "are_lots", "are_lots", defArgs (top 26), defBody (top 26), defScope (top 26), [], []⟩, ["size", "members", "member"], ["size", "members"]⟩
def e13 : Ent := ⟨⟨("_law_box", none), "_law_box", "_law_box", defArgs (top 29), defBody (top 29), defScope (top 29), [], []⟩, ["script", "cell"], ["script"]⟩
def e14 : Ent := ⟨⟨("_law_draw", none), "_law_draw", "_law_draw", defArgs (top 30), defBody (top 30), defScope (top 30), [], []⟩, ["box", "limit", "cells", "k", "cell", "mixed", "digit"], ["box", "limit"]⟩
def e15 : Ent := ⟨⟨("_law_order", none), "_law_order", "_law_order", defArgs (top 31), defBody (top 31), defScope (top 31), [], []⟩, ["box", "many", "left", "out", "k", "at"], ["box", "many"]⟩
def e16 : Ent := ⟨⟨("_law_same", none), "_law_same", "_law_same", defArgs (top 32), defBody (top 32), defScope (top 32), [], []⟩, ["came", "due", "k"], ["came", "due"]⟩
def e17 : Ent := ⟨⟨("_law_lot", none), "_law_lot", "_law_lot", defArgs (top 33), defBody (top 33), defScope (top 33), [], []⟩, ["mask", "p"], ["mask"]⟩
def e18 : Ent := ⟨⟨("_law_planted", none), "_law_planted", "_law_planted", defArgs (top 34), defBody (top 34), defScope (top 34), [], []⟩, ["box", "size", "wall", "order", "many", "at", "more", "lots", "k", "lot", "p"], ["box", "size", "wall"]⟩
def e19 : Ent := ⟨⟨("_law_grown", none), "_law_grown", "_law_grown", defArgs (top 35), defBody (top 35), defScope (top 35), [], []⟩, ["box", "size", "many", "lots", "free", "deep", "k", "lot"], ["box", "size", "many"]⟩
def e20 : Ent := ⟨⟨("_law_family", none), "_law_family", "_law_family", defArgs (top 36), defBody (top 36), defScope (top 36), [], []⟩, ["box", "size", "most", "shape", "lots", "out", "k"], ["box", "size", "most"]⟩
def e21 : Ent := ⟨⟨("_law_passed", none), "_law_passed", "_law_passed", defArgs (top 37), defBody (top 37), defScope (top 37), [], []⟩, ["box", "members", "out", "lot"], ["box", "members"]⟩
def e22 : Ent := ⟨⟨("_law_bad_lot", none), "_law_bad_lot", "_law_bad_lot", defArgs (top 38), defBody (top 38), defScope (top 38), [], []⟩, ["box", "size", "lot", "at", "way", "p"], ["box", "size", "lot"]⟩
def e23 : Ent := ⟨⟨("_law_wrong", none), "_law_wrong", "_law_wrong", defArgs (top 39), defBody (top 39), defScope (top 39), [], []⟩, ["box", "size", "members", "way", "at", "lot"], ["box", "size", "members"]⟩
def e24 : Ent := ⟨⟨("_law_refused", none), "_law_refused", "_law_refused", defArgs (top 40), defBody (top 40), defScope (top 40), [], []⟩, ["size", "members", "named", "e"], ["size", "members", "named"]⟩
def e25 : Ent := ⟨⟨("_law_equal", none), "_law_equal", "_law_equal", defArgs (top 41), defBody (top 41), defScope (top 41), [], []⟩, ["one", "other", "due"], ["one", "other", "due"]⟩
def e26 : Ent := ⟨⟨("_law_compared", none), "_law_compared", "_law_compared", defArgs (top 42), defBody (top 42), defScope (top 42), [], []⟩, ["box", "lots", "size", "members", "at", "other"], ["box", "lots", "size", "members"]⟩
def e27 : Ent := ⟨⟨("_law_all", none), "_law_all", "_law_all", defArgs (top 43), defBody (top 43), defScope (top 43), [], []⟩, ["script", "box", "size", "members", "passed", "lots", "lot", "k", "told", "bad", "wrong", "one"], ["script"]⟩
def e28 : Ent := ⟨⟨("law", none), "law", "law", defArgs (top 44), defBody (top 44), defScope (top 44), [], []⟩, ["script"], ["script"]⟩
def e29 : Ent := ⟨⟨("Lots", some "__init__"), "__init__", "Lots.__init__", defArgs (((C8.clsBody (top 27)).getD 0 (.Pass ⟨0, 0, 0, 0⟩))), defBody (((C8.clsBody (top 27)).getD 0 (.Pass ⟨0, 0, 0, 0⟩))), defScope (((C8.clsBody (top 27)).getD 0 (.Pass ⟨0, 0, 0, 0⟩))), [], []⟩, ["self", "size", "members", "kept"], ["self", "size", "members"]⟩
def e30 : Ent := ⟨⟨("Lots", some "__eq__"), "__eq__", "Lots.__eq__", defArgs (((C8.clsBody (top 27)).getD 1 (.Pass ⟨0, 0, 0, 0⟩))), defBody (((C8.clsBody (top 27)).getD 1 (.Pass ⟨0, 0, 0, 0⟩))), defScope (((C8.clsBody (top 27)).getD 1 (.Pass ⟨0, 0, 0, 0⟩))), [], []⟩, ["self", "other"], ["self", "other"]⟩
def e31 : Ent := ⟨⟨("Lots", some "__len__"), "__len__", "Lots.__len__", defArgs (((C8.clsBody (top 27)).getD 2 (.Pass ⟨0, 0, 0, 0⟩))), defBody (((C8.clsBody (top 27)).getD 2 (.Pass ⟨0, 0, 0, 0⟩))), defScope (((C8.clsBody (top 27)).getD 2 (.Pass ⟨0, 0, 0, 0⟩))), [], []⟩, ["self"], ["self"]⟩
def e32 : Ent := ⟨⟨("Lots", some "seen_at"), "seen_at", "Lots.seen_at", defArgs (((C8.clsBody (top 27)).getD 3 (.Pass ⟨0, 0, 0, 0⟩))), defBody (((C8.clsBody (top 27)).getD 3 (.Pass ⟨0, 0, 0, 0⟩))), defScope (((C8.clsBody (top 27)).getD 3 (.Pass ⟨0, 0, 0, 0⟩))), [], []⟩, ["self", "places"], ["self", "places"]⟩
def e33 : Ent := ⟨⟨("Lots", some "tops"), "tops", "Lots.tops", defArgs (((C8.clsBody (top 27)).getD 4 (.Pass ⟨0, 0, 0, 0⟩))), defBody (((C8.clsBody (top 27)).getD 4 (.Pass ⟨0, 0, 0, 0⟩))), defScope (((C8.clsBody (top 27)).getD 4 (.Pass ⟨0, 0, 0, 0⟩))), [], []⟩, ["self"], ["self"]⟩
def e34 : Ent := ⟨⟨("Lots", some "common"), "common", "Lots.common", defArgs (((C8.clsBody (top 27)).getD 5 (.Pass ⟨0, 0, 0, 0⟩))), defBody (((C8.clsBody (top 27)).getD 5 (.Pass ⟨0, 0, 0, 0⟩))), defScope (((C8.clsBody (top 27)).getD 5 (.Pass ⟨0, 0, 0, 0⟩))), [], []⟩, ["self", "i", "j", "k"], ["self", "i", "j"]⟩
def es : List Ent := [e0, e1, e2, e3, e4, e5, e6, e7, e8, e9, e10, e11, e12, e13, e14, e15, e16, e17, e18, e19, e20, e21, e22, e23, e24, e25, e26, e27, e28, e29, e30, e31, e32, e33, e34]
theorem bp0 : BnP e0 := fun _ _ _ _ _ _ us hl => match us, hl with | [_], _ => rfl
theorem bp1 : BnP e1 := fun _ _ _ _ _ _ us hl => match us, hl with | [_], _ => rfl
theorem bp2 : BnP e2 := fun _ _ _ _ _ _ us hl => match us, hl with | [_, _], _ => rfl
theorem bp3 : BnP e3 := fun _ _ _ _ _ _ us hl => match us, hl with | [_, _, _], _ => rfl
theorem bp4 : BnP e4 := fun _ _ _ _ _ _ us hl => match us, hl with | [_], _ => rfl
theorem bp5 : BnP e5 := fun _ _ _ _ _ _ us hl => match us, hl with | [_], _ => rfl
theorem bp6 : BnP e6 := fun _ _ _ _ _ _ us hl => match us, hl with | [_], _ => rfl
theorem bp7 : BnP e7 := fun _ _ _ _ _ _ us hl => match us, hl with | [_, _], _ => rfl
theorem bp8 : BnP e8 := fun _ _ _ _ _ _ us hl => match us, hl with | [_], _ => rfl
theorem bp9 : BnP e9 := fun _ _ _ _ _ _ us hl => match us, hl with | [_], _ => rfl
theorem bp10 : BnP e10 := fun _ _ _ _ _ _ us hl => match us, hl with | [_, _], _ => rfl
theorem bp11 : BnP e11 := fun _ _ _ _ _ _ us hl => match us, hl with | [_, _], _ => rfl
theorem bp12 : BnP e12 := fun _ _ _ _ _ _ us hl => match us, hl with | [_, _], _ => rfl
theorem bp13 : BnP e13 := fun _ _ _ _ _ _ us hl => match us, hl with | [_], _ => rfl
theorem bp14 : BnP e14 := fun _ _ _ _ _ _ us hl => match us, hl with | [_, _], _ => rfl
theorem bp15 : BnP e15 := fun _ _ _ _ _ _ us hl => match us, hl with | [_, _], _ => rfl
theorem bp16 : BnP e16 := fun _ _ _ _ _ _ us hl => match us, hl with | [_, _], _ => rfl
theorem bp17 : BnP e17 := fun _ _ _ _ _ _ us hl => match us, hl with | [_], _ => rfl
theorem bp18 : BnP e18 := fun _ _ _ _ _ _ us hl => match us, hl with | [_, _, _], _ => rfl
theorem bp19 : BnP e19 := fun _ _ _ _ _ _ us hl => match us, hl with | [_, _, _], _ => rfl
theorem bp20 : BnP e20 := fun _ _ _ _ _ _ us hl => match us, hl with | [_, _, _], _ => rfl
theorem bp21 : BnP e21 := fun _ _ _ _ _ _ us hl => match us, hl with | [_, _], _ => rfl
theorem bp22 : BnP e22 := fun _ _ _ _ _ _ us hl => match us, hl with | [_, _, _], _ => rfl
theorem bp23 : BnP e23 := fun _ _ _ _ _ _ us hl => match us, hl with | [_, _, _], _ => rfl
theorem bp24 : BnP e24 := fun _ _ _ _ _ _ us hl => match us, hl with | [_, _, _], _ => rfl
theorem bp25 : BnP e25 := fun _ _ _ _ _ _ us hl => match us, hl with | [_, _, _], _ => rfl
theorem bp26 : BnP e26 := fun _ _ _ _ _ _ us hl => match us, hl with | [_, _, _, _], _ => rfl
theorem bp27 : BnP e27 := fun _ _ _ _ _ _ us hl => match us, hl with | [_], _ => rfl
theorem bp28 : BnP e28 := fun _ _ _ _ _ _ us hl => match us, hl with | [_], _ => rfl
theorem bp29 : BnP e29 := fun _ _ _ _ _ _ us hl => match us, hl with | [_, _, _], _ => rfl
theorem bp30 : BnP e30 := fun _ _ _ _ _ _ us hl => match us, hl with | [_, _], _ => rfl
theorem bp31 : BnP e31 := fun _ _ _ _ _ _ us hl => match us, hl with | [_], _ => rfl
theorem bp32 : BnP e32 := fun _ _ _ _ _ _ us hl => match us, hl with | [_, _], _ => rfl
theorem bp33 : BnP e33 := fun _ _ _ _ _ _ us hl => match us, hl with | [_], _ => rfl
theorem bp34 : BnP e34 := fun _ _ _ _ _ _ us hl => match us, hl with | [_, _, _], _ => rfl
theorem bpA : ∀ e ∈ es, BnP e := by
  intro e h
  simp only [es, List.mem_cons, List.not_mem_nil, or_false] at h
  rcases h with rfl | rfl | rfl | rfl | rfl | rfl | rfl | rfl | rfl | rfl | rfl | rfl | rfl | rfl | rfl | rfl | rfl | rfl | rfl | rfl | rfl | rfl | rfl | rfl | rfl | rfl | rfl | rfl | rfl | rfl | rfl | rfl | rfl | rfl | rfl
  · exact bp0
  · exact bp1
  · exact bp2
  · exact bp3
  · exact bp4
  · exact bp5
  · exact bp6
  · exact bp7
  · exact bp8
  · exact bp9
  · exact bp10
  · exact bp11
  · exact bp12
  · exact bp13
  · exact bp14
  · exact bp15
  · exact bp16
  · exact bp17
  · exact bp18
  · exact bp19
  · exact bp20
  · exact bp21
  · exact bp22
  · exact bp23
  · exact bp24
  · exact bp25
  · exact bp26
  · exact bp27
  · exact bp28
  · exact bp29
  · exact bp30
  · exact bp31
  · exact bp32
  · exact bp33
  · exact bp34
theorem bkA : ∀ f n ks pm, (f, n, ks, pm) ∈ M.kws → ∀ e, es[f]? = some e → BnK e n ks pm := by
  intro f n ks pm h e he
  simp only [M, List.mem_cons, List.not_mem_nil, or_false, Prod.mk.injEq] at h
theorem bc0 : BnC e29 0 ["members", "size"] [1, 0] := fun _ _ _ _ _ _ _ us ws h1 h2 => match us, ws, h1, h2 with | [], [_, _], _, _ => ⟨_, rfl, rfl⟩
theorem bcA : ∀ k n ks pm C f, (k, n, ks, pm) ∈ M.ckw → T.cls[k]? = some C → C.init = some f → ∀ e, es[f]? = some e → BnC e n ks pm := by
  intro k n ks pm C f h hC hi e he
  simp only [M, List.mem_cons, List.not_mem_nil, or_false, Prod.mk.injEq] at h
  rcases h with ⟨rfl, rfl, rfl, rfl⟩
  · cases hC; cases hi; cases he; exact bc0
theorem bmA : ∀ g n ks pm, (g, n, ks, pm) ∈ M.mkw → ∀ e, es[g]? = some e → BnC e n ks pm := by
  intro g n ks pm h e he
  simp only [M, List.mem_cons, List.not_mem_nil, or_false, Prod.mk.injEq] at h

theorem text_ok : textB M T es = true := by decide +kernel
def chk : PySem.W.Frag → Bool := headB M T es (xB PySem.Challenge.pw_piecerealm_k00_lots_taken_and_refused M T)
def fnl : List DefD := es.map (·.d)
abbrev hk : PySem.W.Hook := hookX 4 chk fnl
def ob (s : PySem.W.SharedT) : AlD := obsXG 4 chk fnl (HandSHeadRun.getT s)
theorem ob_eq (s : PySem.W.SharedT) : ob s = hk.obs s.abs := obsXG_eq (HandSHeadRun.getT_eq s)
abbrev R : PySem.W.OpenRow := PySem.W.OpenLaw.row PySem.Challenge.rw_piecerealm_k00_lots_taken_and_refused
def names : List Str := ((PySem.Challenge.pw_piecerealm_k00_lots_taken_and_refused.main.scope.names).map (·.1)).filter fun x => !(x == "law")
theorem run_head (w : World) : HandSHeadRun.RunEq R (PySem.W.view R.prog [44]) hk ob 6000 names w := by
  intro os
  kernel_rfl
end Lw
open PySem PySem.W PySem.Calls PyProof.Rows
theorem PySem.Challenge.cw_piecerealm_k00_lots_taken_and_refused_from (hA : Ev.Asked Lw.T 200 28) : PySem.Challenge.rw_piecerealm_k00_lots_taken_and_refused.Holds := by
  w_on; o_law
  refine HandSHeadRun.head_any (r := OpenLaw.row PySem.Challenge.rw_piecerealm_k00_lots_taken_and_refused) (q := view (OpenLaw.row PySem.Challenge.rw_piecerealm_k00_lots_taken_and_refused).prog [44]) (H := Lw.hk) (ob := Lw.ob) (M := 6000) (loose := Lw.names) (d := HandSHeadRun.topDef (OpenLaw.row PySem.Challenge.rw_piecerealm_k00_lots_taken_and_refused).prog 44) (kwd := []) Lw.ob_eq
    (by kernel_rfl) (fun s => by kernel_rfl) Lw.run_head (by kernel_rfl) (by kernel_rfl) (by kernel_rfl) (by rfl) (by first | assumption | decide +kernel) (by decide +kernel) ⟨rfl, rfl, rfl, rfl, rfl, by decide +kernel⟩ ?hw ?hc
  case hw => w_witness2
  case hc =>
    refine L2.walk_ofE (l := PySem.Challenge.rw_piecerealm_k00_lots_taken_and_refused) (n := 63) (k := 200) (x := "script") (CX := Ev.CXw (PySem.Challenge.rw_piecerealm_k00_lots_taken_and_refused).prog) rfl (by decide) (by kernel_rfl) ⟨rfl, by decide, by decide⟩ ?F (fun _ _ _ _ z => Ev.cxw_no z)
    intro w mg fa h Y G hmg0
    obtain ⟨K, KX, c⟩ := Y
    have hmg : mg ("law" : PySem.Str) = some (.ref fa) := by
      have e : (HandSHeadRun.topDef (OpenLaw.row PySem.Challenge.rw_piecerealm_k00_lots_taken_and_refused).prog 44).name = ("law" : PySem.Str) := by kernel_rfl
      rw [← e]
      exact hmg0
    exact Ev.law_F KX G Lw.text_ok c Lw.bpA Lw.bkA Lw.bcA Lw.bmA (fun base hK a => Ev.xmk a) (e := Lw.e28) rfl rfl rfl rfl hmg hA
end
section
set_option maxRecDepth 100000
set_option maxHeartbeats 8000000
namespace Lw
open Ev Lg
theorem bel_mono {n : Nat} : (∀ d : D, below 0 d = true → below n d = true) ∧ ∀ l : List D, belowL 0 l = true → belowL n l = true := by
  have main : ∀ k : Nat, (∀ d : D, sizeOf d ≤ k → below 0 d = true → below n d = true) ∧ ∀ l : List D, sizeOf l ≤ k → belowL 0 l = true → belowL n l = true := by
    intro k
    induction k with
    | zero =>
      refine ⟨fun d hk => ?_, fun l hk => ?_⟩
      · cases d <;> simp at hk
      · cases l <;> simp at hk
    | succ k ih =>
      refine ⟨fun d hk h => ?_, fun l hk h => ?_⟩
      · cases d with
        | ref i => simp [below] at h
        | tup l => simp only [below] at h ⊢; simp at hk; exact ih.2 l (by omega) h
        | lst l => simp only [below] at h ⊢; simp at hk; exact ih.2 l (by omega) h
        | obj c l => simp only [below] at h ⊢; simp at hk; exact ih.2 l (by omega) h
        | _ => rfl
      · cases l with
        | nil => rfl
        | cons d l =>
          simp only [belowL, Bool.and_eq_true] at h ⊢
          simp at hk
          exact ⟨ih.1 d (by omega) h.1, ih.2 l (by omega) h.2⟩
  exact ⟨fun d h => (main _).1 d (Nat.le_refl _) h, fun l h => (main _).2 l (Nat.le_refl _) h⟩
theorem belC_mono {n : Nat} {c : Cell} (h : belowC 0 c = true) : belowC n c = true := by
  cases c <;> exact bel_mono.2 _ h
def QD (ns : List Int) (X : Store) (k : Nat) (S : Store) : Prop := (ns.length ≤ 63 ∧ ∀ c ∈ X, belowC 0 c = true) ∧ ∃ a b c, S = std ns a b c :: X ∧ 0 ≤ a ∧ 0 ≤ b ∧ 0 ≤ c ∧ c ≤ (k : Int)
theorem QD.len {ns : List Int} {X : Store} {k : Nat} {S : Store} (q : QD ns X k S) : S.length = X.length + 1 := by
  obtain ⟨_, a, b, c, rfl, _⟩ := q
  rfl
theorem QD.mono {ns : List Int} {X : Store} {k k' : Nat} {S : Store} (q : QD ns X k S) (h : k ≤ k') : QD ns X k' S := by
  obtain ⟨hn, a, b, c, h1, h2, h3, h4, h5⟩ := q
  exact ⟨hn, a, b, c, h1, h2, h3, h4, by omega⟩
theorem QD.app {ns : List Int} {X : Store} {k : Nat} {S : Store} (q : QD ns X k S) {c : Cell} (hc : belowC 0 c = true) : QD ns (X ++ [c]) k (S ++ [c]) := by
  obtain ⟨⟨hn, hX⟩, a, b, c, rfl, h⟩ := q
  refine ⟨⟨hn, fun x hx => ?_⟩, a, b, c, rfl, h⟩
  rcases List.mem_append.mp hx with hx | hx
  · exact hX x hx
  · rw [List.mem_singleton.mp hx]; exact hc
theorem QD.un {ns : List Int} {X : Store} {k : Nat} {S : Store} {x : Cell} (q : QD ns (X ++ [x]) k S) : ∃ S', S = S' ++ [x] ∧ QD ns X k S' := by
  obtain ⟨⟨hn, hX⟩, a, b, c, rfl, h⟩ := q
  exact ⟨std ns a b c :: X, rfl, ⟨hn, fun y hy => hX y (List.mem_append_left _ hy)⟩, a, b, c, rfl, h⟩
theorem QD.cut {ns : List Int} {X : Store} {k : Nat} {S S' : Store} (q : QD ns X k S) {k' : Nat} (q' : QD ns X k' S') (Y : Store) : cutOk S (S' ++ Y) = true := by
  have l := q.len
  have l' := q'.len
  obtain ⟨⟨hn, hX⟩, a, b, c, rfl, h⟩ := q'
  unfold cutOk
  rw [l, ← l', List.take_left', Bool.or_eq_true]
  · refine .inr (List.all_eq_true.mpr fun x hx => ?_)
    rcases List.mem_cons.mp hx with rfl | hx
    · refine belC_mono ?_
      simp [std, belowC, belowL, below]
    · exact belC_mono (hX x hx)
  · rfl
/-- a new list that is handed back -/
theorem QD.tidy {ns : List Int} {X : Store} {k : Nat} {S S' : Store} (q : QD ns X k S) {k' : Nat} (q' : QD ns X k' S') {l : List D} (hl : belowL 0 l = true) : Ev.tidy true S (.ok (.ref S.length) (S' ++ [.lst l])) = .ok (.lst l) S' := by
  have l1 := q.len
  have l2 := q'.len
  unfold Ev.tidy
  have e : (S' ++ [Cell.lst l])[S.length]? = some (.lst l) := by rw [l1, ← l2]; simp
  have b : below S.length (.ref S.length) = false := by simp [below]
  have b2 : belowL S.length l = true := bel_mono.2 l hl
  have t : (S' ++ [Cell.lst l]).take S.length = S' := by rw [l1, ← l2]; simp
  simp only [q.cut q', if_true, b, e, b2, t, Bool.false_eq_true, if_false]
theorem dq {ns : List Int} {X : Store} {k : Nat} {S : Store} (q : QD ns X k S) (hk : k < 2 ^ 90) {m : Int} (hm : 0 < m) (hmw : m < 2 ^ 90) (n : Nat) :
    ∃ (r : Nat) (S' : Store), run T (n + 1) 14 [.ref 0, .int m] S = .ok (.int r) S' ∧ QD ns X (k + 1) S' ∧ (r : Int) < m := by
  obtain ⟨hn, a, b, c, rfl, h1, h2, h3, h4⟩ := q
  obtain ⟨r, a', b', e, r0, r1, h1', h2'⟩ := draw_of (T := T) (f := 14) rfl hn.1 h1 h2 h3 (by omega) hm (by omega) n X
  refine ⟨r.toNat, _, ?_, ⟨hn, a', b', c + 1, rfl, h1', h2', by omega, by omega⟩, by omega⟩
  rw [e, Int.toNat_of_nonneg r0]
theorem box (n : Nat) {ns : List Int} (hn : ns.length ≤ 63) : ∃ S, run T (n + 1) 13 [.lst (ns.map .int)] [] = .ok (.ref 0) S ∧ QD ns [] 0 S := by
  refine ⟨_, start_of (T := T) (f := 13) rfl hn n, ⟨hn, by simp⟩, 0, 0, 0, congrArg (fun c => [c]) (std0 ns), ?_, ?_, ?_, ?_⟩ <;> decide
theorem nd_below (l : List Nat) : belowL 0 (l.map fun p => D.int (p : Nat)) = true := belowL_of fun d hd => by
  obtain ⟨i, _, rfl⟩ := List.mem_map.mp hd
  rfl
/-! an order -/
theorem cut_lo {α : Type} (l : List α) (r : Nat) (h : r ≤ l.length) : cut l none (some (r : Int)) = l.take r := by
  unfold cut sIx
  have : ¬ ((r : Int) < 0) := by omega
  simp only [this, if_false, List.drop_zero, Nat.sub_zero]
  congr 1
  omega
theorem cut_hi {α : Type} (l : List α) (r : Nat) : cut l (some (r : Int)) none = l.drop r := by
  unfold cut sIx
  have : ¬ ((r : Int) < 0) := by omega
  simp only [this, if_false, Int.toNat_natCast]
  rw [List.take_of_length_le (by rw [List.length_drop]; omega)]
  rcases Nat.lt_or_ge r l.length with h | h
  · rw [Nat.min_eq_left (by omega)]
  · rw [Nat.min_eq_right h, List.drop_eq_nil_of_le (Nat.le_refl _), List.drop_eq_nil_of_le h]
theorem take_drop_perm {α : Type} (l : List α) (r : Nat) (h : r < l.length) : (l[r] :: (l.take r ++ l.drop (r + 1))).Perm l := by
  have e : l.take r ++ l[r] :: l.drop (r + 1) = l := by rw [← List.drop_eq_getElem_cons h, List.take_append_drop]
  have := (List.perm_middle (a := l[r]) (l₁ := l.take r) (l₂ := l.drop (r + 1))).symm
  rw [e] at this
  exact this
theorem order_loop (n : Nat) {ns : List Int} {X : Store} : ∀ (L : List D) (left out : List Nat) (k : Nat) (S : Store) (x4 x5 : Option D) (y1 : Option D), QD ns (X ++ [.lst (out.map fun p => D.int (p : Nat))]) k S → k + L.length < 2 ^ 60 → L.length = left.length → out.length + left.length ≤ 100 →
    ∃ (out' : List Nat) (S' : Store) (z4 z5 : Option D), forL (.nm 4) (fun ρ S => exSs (csOf T (n + 1)) b15l0 ρ S) [] L [some (.ref 0), y1, some (.lst (left.map fun p => D.int (p : Nat))), some (.ref (X.length + 1)), x4, x5] S = .nx [some (.ref 0), y1, some (.lst []), some (.ref (X.length + 1)), z4, z5] S' ∧
      QD ns (X ++ [.lst (out'.map fun p => D.int (p : Nat))]) (k + L.length) S' ∧ out'.Perm (out ++ left)
  | [], left, out, k, S, x4, x5, y1, q, hk, hl, ho => by
    have : left = [] := List.length_eq_zero_iff.mp hl.symm
    subst this
    exact ⟨out, S, x4, x5, forL_nil, q, by simp⟩
  | d :: L, left, out, k, S, x4, x5, y1, q, hk, hl, ho => by
    simp only [List.length_cons] at hk hl
    obtain ⟨r, S1, e1, q1, r1⟩ := dq q (by omega) (m := (left.length : Int)) (by omega) (by omega) n
    have hr : r < left.length := by omega
    obtain ⟨S2, rfl, q2⟩ := q1.un
    have q3 := q2.app (c := .lst ((out ++ [left[r]]).map fun p => D.int (p : Nat))) (nd_below _)
    obtain ⟨out', S', z4, z5, e2, q4, h4⟩ := order_loop n L (left.take r ++ left.drop (r + 1)) (out ++ [left[r]]) (k + 1) _ (some d) (some (.int r)) y1 q3 (by omega) (by simp; omega) (by simp; omega)
    refine ⟨out', S', z4, z5, ?_, q4.mono (by simp only [List.length_cons]; omega), h4.trans ?_⟩
    · rw [← e2]
      have lim := lim_le (n := out.length) (by omega)
      have lt : out.length < LIM := by unfold LIM; omega
      have l2 := q2.len
      have g1 : (S2 ++ [Cell.lst (out.map fun p => D.int (p : Nat))])[X.length + 1]? = some (.lst (out.map fun p => D.int (p : Nat))) := by rw [← l2]; simp
      have g2 : (S2 ++ [Cell.lst (out.map fun p => D.int (p : Nat))]).set (X.length + 1) (.lst (out.map (fun p => D.int (p : Nat)) ++ [.int (left[r] : Nat)])) = S2 ++ [Cell.lst ((out ++ [left[r]]).map fun p => D.int (p : Nat))] := by rw [← l2]; simp
      have c1 := cut_lo (left.map fun p => D.int (p : Nat)) r (by simp; omega)
      have c2 := cut_hi (left.map fun p => D.int (p : Nat)) (r + 1)
      push_cast at c2
      have lm : min r left.length + (left.length - (r + 1)) ≤ LIM := by unfold LIM; omega
      exact forL_nx rfl (by
        simp (dsimp := false) (implicitDefEqProofs := false) [b15l0, e1, bmOk, bmD, g1, g2, lt, slcD, c1, c2, lstOf, mkL, hr, lm, List.map_take, List.map_drop, exSs, exS, evE.eq_1, evE.eq_2, evE.eq_3, evE.eq_4, evE.eq_5, evE.eq_6, evE.eq_7, evE.eq_8, evE.eq_9, evE.eq_10, evE.eq_11, evE.eq_12, evE.eq_13, evE.eq_14, evE.eq_15, evE.eq_16, evE.eq_17, evE.eq_18, evE.eq_19, evE.eq_20, evE.eq_21, evE.eq_22, evE.eq_23, evE.eq_24, evE.eq_25, evE.eq_26, evE.eq_27, evE.eq_28, evE.eq_31, evE.eq_32, evE.eq_33, evE.eq_34, evE.eq_35, evE.eq_36, evE.eq_37, evE.eq_38, evT, evL, evI, evC, evW, startF, setS, idxD, seqOf, ixN, binD, arI, setI, cmpD, intCmp, cmpI, truD, isAny, isD, isNo, pln, vw, eqD, biD, tidy_same])
    · have h5 := take_drop_perm left r hr
      rw [List.append_assoc]
      exact List.Perm.append_left out h5
theorem order (n : Nat) {ns : List Int} {X : Store} {k : Nat} {S : Store} (q : QD ns X k S) {m : Nat} (hm : m ≤ 100) (hk : k + m < 2 ^ 60) :
    ∃ (π : List Nat) (S' : Store), run T (n + 2) 15 [.ref 0, .int (m : Nat)] S = .ok (.lst (π.map fun p => D.int (p : Nat))) S' ∧ QD ns X (k + m) S' ∧ π.Perm (List.range m) := by
  have q1 := q.app (c := .lst (([] : List Nat).map fun p => D.int (p : Nat))) rfl
  obtain ⟨out, S', z4, z5, e, q2, hp⟩ := order_loop n (upTo 0 m) (List.range m) [] k _ none none (some (.int (m : Nat))) q1 (by simp [upTo0]; omega) (by simp [upTo0]) (by simp; omega)
  have hu : (upTo 0 m).length = m := by simp [upTo0]
  rw [hu] at q2
  obtain ⟨S2, rfl, q3⟩ := q2.un
  refine ⟨out, S2, ?_, q3, by simpa using hp⟩
  have l1 := q.len
  have l2 := q3.len
  have lim : (m : Int) ≤ LIM ∧ -(LIM : Int) ≤ m := by unfold LIM; omega
  have lim2 : m ≤ LIM := by unfold LIM; omega
  rw [run_def (F := ⟨2, 6, b15, true⟩) rfl rfl]
  have e0 := lc_map (C := csOf T (n + 1)) (own := [4]) (tg := .nm 4) (it := .rng (.cons (.var 1) .nil)) (e := b15e0) (ρ := [some (.ref 0), some (.int (m : Nat)), none, none, none, none]) (S := S) (l := upTo 0 m) (g := []) (fun d => d)
    (by simp (dsimp := false) (implicitDefEqProofs := false) [rngIt, lim, exSs, exS, evE.eq_1, evE.eq_2, evE.eq_3, evE.eq_4, evE.eq_5, evE.eq_6, evE.eq_7, evE.eq_8, evE.eq_9, evE.eq_10, evE.eq_11, evE.eq_12, evE.eq_13, evE.eq_14, evE.eq_15, evE.eq_16, evE.eq_17, evE.eq_18, evE.eq_19, evE.eq_20, evE.eq_21, evE.eq_22, evE.eq_23, evE.eq_24, evE.eq_25, evE.eq_26, evE.eq_27, evE.eq_28, evE.eq_31, evE.eq_32, evE.eq_33, evE.eq_34, evE.eq_35, evE.eq_36, evE.eq_37, evE.eq_38, evT, evL, evI, evC, evW, startF, setS, idxD, seqOf, ixN, binD, arI, setI, cmpD, intCmp, cmpI, truD, isAny, isD, isNo, pln, vw, eqD, biD, tidy_same]) (fun c => gOk_nil _) (fun d hd x => ⟨_, rfl, by simp (dsimp := false) (implicitDefEqProofs := false) [b15e0, wipe, exSs, exS, evE.eq_1, evE.eq_2, evE.eq_3, evE.eq_4, evE.eq_5, evE.eq_6, evE.eq_7, evE.eq_8, evE.eq_9, evE.eq_10, evE.eq_11, evE.eq_12, evE.eq_13, evE.eq_14, evE.eq_15, evE.eq_16, evE.eq_17, evE.eq_18, evE.eq_19, evE.eq_20, evE.eq_21, evE.eq_22, evE.eq_23, evE.eq_24, evE.eq_25, evE.eq_26, evE.eq_27, evE.eq_28, evE.eq_31, evE.eq_32, evE.eq_33, evE.eq_34, evE.eq_35, evE.eq_36, evE.eq_37, evE.eq_38, evT, evL, evI, evC, evW, startF, setS, idxD, seqOf, ixN, binD, arI, setI, cmpD, intCmp, cmpI, truD, isAny, isD, isNo, pln, vw, eqD, biD, tidy_same]⟩) (by rw [hu]; exact lim2) (by rw [upTo0]; simp only [List.map_id']; exact belowL_of fun d hd => by obtain ⟨i, _, rfl⟩ := List.mem_map.mp hd; rfl)
  simp only [List.map_id', upTo0] at e0
  simp only [upTo0] at e
  rw [List.map_nil] at e
  simp (dsimp := false) (implicitDefEqProofs := false) [b15, e0, mkL, l1, e, rngIt, lim, upTo0, exSs, exS, evE.eq_1, evE.eq_2, evE.eq_3, evE.eq_4, evE.eq_5, evE.eq_6, evE.eq_7, evE.eq_8, evE.eq_9, evE.eq_10, evE.eq_11, evE.eq_12, evE.eq_13, evE.eq_14, evE.eq_15, evE.eq_16, evE.eq_17, evE.eq_18, evE.eq_19, evE.eq_20, evE.eq_21, evE.eq_22, evE.eq_23, evE.eq_24, evE.eq_25, evE.eq_26, evE.eq_27, evE.eq_28, evE.eq_31, evE.eq_32, evE.eq_33, evE.eq_34, evE.eq_35, evE.eq_36, evE.eq_37, evE.eq_38, evT, evL, evI, evC, evW, startF, setS, idxD, seqOf, ixN, binD, arI, setI, cmpD, intCmp, cmpI, truD, isAny, isD, isNo, pln, vw, eqD, biD, tidy_same]
  rw [← l1]
  exact q.tidy q3 (nd_below _)
end Lw
end
section
set_option maxRecDepth 100000
set_option maxHeartbeats 8000000
namespace Lw
open Ev Lg
mutual
/-- what _law_same compares with itself -/
def sm2 : Nat → D → Bool
  | _, .non => true
  | _, .bl _ => true
  | _, .int _ => true
  | _, .str s => s.all (· < 0x110000)
  | 0, .tup _ => false
  | k + 1, .tup l => decide (l.length ≤ 1000) && sm2L k l
  | k + 1, .lst l => decide (l.length ≤ 1000) && sm2L k l
  | _, _ => false
def sm2L : Nat → List D → Bool
  | _, [] => true
  | k, d :: l => sm2 k d && sm2L k l
end
theorem sm2L_get : ∀ {k : Nat} {l : List D} {i : Nat} {d : D}, sm2L k l = true → l[i]? = some d → sm2 k d = true
  | _, [], _, _, _, h => by simp at h
  | k, x :: l, 0, d, h, e => by
    simp only [sm2L, Bool.and_eq_true] at h
    simp only [List.getElem?_cons_zero, Option.some.injEq] at e
    rw [← e]; exact h.1
  | k, x :: l, i + 1, d, h, e => by
    simp only [sm2L, Bool.and_eq_true] at h
    simp only [List.getElem?_cons_succ] at e
    exact sm2L_get h.2 e
theorem trues (l : List D) : ((l.map fun _ => D.bl true).any fun x => eqD x (.bl false)) = false := by
  induction l with
  | nil => rfl
  | cons d l ih => simp only [List.map_cons, List.any_cons, ih]; rfl
theorem trues_pln (k : Nat) (l : List D) : plnL k (l.map fun _ => D.bl true) = true := plnL_of fun d hd => by
  obtain ⟨i, _, rfl⟩ := List.mem_map.mp hd
  cases k <;> rfl
theorem same : ∀ (k : Nat) (d : D), sm2 k d = true → ∀ (n : Nat) (S : Store), k ≤ n → run T (n + 1) 16 [d, d] S = .ok (.bl true) S := by
  intro k
  induction k with
  | zero =>
    intro d hd n S _
    rw [run_def (F := ⟨2, 3, b16, true⟩) rfl rfl]
    cases d with
    | non => simp (dsimp := false) (implicitDefEqProofs := false) [b16, exSs, exS, evE.eq_1, evE.eq_2, evE.eq_3, evE.eq_4, evE.eq_5, evE.eq_6, evE.eq_7, evE.eq_8, evE.eq_9, evE.eq_10, evE.eq_11, evE.eq_12, evE.eq_13, evE.eq_14, evE.eq_15, evE.eq_16, evE.eq_17, evE.eq_18, evE.eq_19, evE.eq_20, evE.eq_21, evE.eq_22, evE.eq_23, evE.eq_24, evE.eq_25, evE.eq_26, evE.eq_27, evE.eq_28, evE.eq_31, evE.eq_32, evE.eq_33, evE.eq_34, evE.eq_35, evE.eq_36, evE.eq_37, evE.eq_38, evT, evL, evI, evC, evW, startF, setS, idxD, seqOf, ixN, binD, arI, setI, cmpD, intCmp, cmpI, truD, isAny, isD, isNo, pln, vw, eqD, biD, tidy_same, wipe]
    | bl b => simp (dsimp := false) (implicitDefEqProofs := false) [b16, exSs, exS, evE.eq_1, evE.eq_2, evE.eq_3, evE.eq_4, evE.eq_5, evE.eq_6, evE.eq_7, evE.eq_8, evE.eq_9, evE.eq_10, evE.eq_11, evE.eq_12, evE.eq_13, evE.eq_14, evE.eq_15, evE.eq_16, evE.eq_17, evE.eq_18, evE.eq_19, evE.eq_20, evE.eq_21, evE.eq_22, evE.eq_23, evE.eq_24, evE.eq_25, evE.eq_26, evE.eq_27, evE.eq_28, evE.eq_31, evE.eq_32, evE.eq_33, evE.eq_34, evE.eq_35, evE.eq_36, evE.eq_37, evE.eq_38, evT, evL, evI, evC, evW, startF, setS, idxD, seqOf, ixN, binD, arI, setI, cmpD, intCmp, cmpI, truD, isAny, isD, isNo, pln, vw, eqD, biD, tidy_same, wipe]
    | int i => simp (dsimp := false) (implicitDefEqProofs := false) [b16, exSs, exS, evE.eq_1, evE.eq_2, evE.eq_3, evE.eq_4, evE.eq_5, evE.eq_6, evE.eq_7, evE.eq_8, evE.eq_9, evE.eq_10, evE.eq_11, evE.eq_12, evE.eq_13, evE.eq_14, evE.eq_15, evE.eq_16, evE.eq_17, evE.eq_18, evE.eq_19, evE.eq_20, evE.eq_21, evE.eq_22, evE.eq_23, evE.eq_24, evE.eq_25, evE.eq_26, evE.eq_27, evE.eq_28, evE.eq_31, evE.eq_32, evE.eq_33, evE.eq_34, evE.eq_35, evE.eq_36, evE.eq_37, evE.eq_38, evT, evL, evI, evC, evW, startF, setS, idxD, seqOf, ixN, binD, arI, setI, cmpD, intCmp, cmpI, truD, isAny, isD, isNo, pln, vw, eqD, biD, tidy_same, wipe]
    | str s =>
      simp only [sm2] at hd
      simp (dsimp := false) (implicitDefEqProofs := false) [b16, hd, exSs, exS, evE.eq_1, evE.eq_2, evE.eq_3, evE.eq_4, evE.eq_5, evE.eq_6, evE.eq_7, evE.eq_8, evE.eq_9, evE.eq_10, evE.eq_11, evE.eq_12, evE.eq_13, evE.eq_14, evE.eq_15, evE.eq_16, evE.eq_17, evE.eq_18, evE.eq_19, evE.eq_20, evE.eq_21, evE.eq_22, evE.eq_23, evE.eq_24, evE.eq_25, evE.eq_26, evE.eq_27, evE.eq_28, evE.eq_31, evE.eq_32, evE.eq_33, evE.eq_34, evE.eq_35, evE.eq_36, evE.eq_37, evE.eq_38, evT, evL, evI, evC, evW, startF, setS, idxD, seqOf, ixN, binD, arI, setI, cmpD, intCmp, cmpI, truD, isAny, isD, isNo, pln, vw, eqD, biD, tidy_same, wipe]
    | _ => simp [sm2] at hd
  | succ k ih =>
    intro d hd n S hn
    rw [run_def (F := ⟨2, 3, b16, true⟩) rfl rfl]
    have key : ∀ (l : List D), l.length ≤ 1000 → sm2L k l = true → ∀ w : D, (w = .tup l ∨ w = .lst l) → evE (csOf T n) (.lc false [2] (.nm 2) (.rng (.cons (.bi .len false (.cons (.var 1) .nil)) .nil)) .no b16e0) [some w, some w, none] S = .ok (.lst ((upTo 0 l.length).map fun _ => .bl true)) S := by
      intro l hl hs w hw
      obtain ⟨n, rfl⟩ : ∃ m, n = m + 1 := ⟨n - 1, by omega⟩
      have lim : (l.length : Int) ≤ LIM ∧ -(LIM : Int) ≤ l.length := by unfold LIM; omega
      refine lc_map (g := []) _ ?_ (fun c => gOk_nil _) (fun d hd x => ⟨_, rfl, ?_⟩) (by rw [upTo0]; simp; unfold LIM; omega) (plnL_below 0 _ (trues_pln 0 _))
      · rcases hw with rfl | rfl <;> simp (dsimp := false) (implicitDefEqProofs := false) [rngIt, lim, exSs, exS, evE.eq_1, evE.eq_2, evE.eq_3, evE.eq_4, evE.eq_5, evE.eq_6, evE.eq_7, evE.eq_8, evE.eq_9, evE.eq_10, evE.eq_11, evE.eq_12, evE.eq_13, evE.eq_14, evE.eq_15, evE.eq_16, evE.eq_17, evE.eq_18, evE.eq_19, evE.eq_20, evE.eq_21, evE.eq_22, evE.eq_23, evE.eq_24, evE.eq_25, evE.eq_26, evE.eq_27, evE.eq_28, evE.eq_31, evE.eq_32, evE.eq_33, evE.eq_34, evE.eq_35, evE.eq_36, evE.eq_37, evE.eq_38, evT, evL, evI, evC, evW, startF, setS, idxD, seqOf, ixN, binD, arI, setI, cmpD, intCmp, cmpI, truD, isAny, isD, isNo, pln, vw, eqD, biD, tidy_same, wipe]
      · rw [upTo0] at hd
        obtain ⟨i, hi, rfl⟩ := List.mem_map.mp hd
        have hi := List.mem_range.mp hi
        have h2 : (i : Int) < l.length := by omega
        have hx : sm2 k l[i] = true := sm2L_get hs (List.getElem?_eq_getElem hi)
        have e := ih l[i] hx n (S ++ [x]) (by omega)
        rcases hw with rfl | rfl <;> simp (dsimp := false) (implicitDefEqProofs := false) [b16e0, hi, h2, e, exSs, exS, evE.eq_1, evE.eq_2, evE.eq_3, evE.eq_4, evE.eq_5, evE.eq_6, evE.eq_7, evE.eq_8, evE.eq_9, evE.eq_10, evE.eq_11, evE.eq_12, evE.eq_13, evE.eq_14, evE.eq_15, evE.eq_16, evE.eq_17, evE.eq_18, evE.eq_19, evE.eq_20, evE.eq_21, evE.eq_22, evE.eq_23, evE.eq_24, evE.eq_25, evE.eq_26, evE.eq_27, evE.eq_28, evE.eq_31, evE.eq_32, evE.eq_33, evE.eq_34, evE.eq_35, evE.eq_36, evE.eq_37, evE.eq_38, evT, evL, evI, evC, evW, startF, setS, idxD, seqOf, ixN, binD, arI, setI, cmpD, intCmp, cmpI, truD, isAny, isD, isNo, pln, vw, eqD, biD, tidy_same, wipe]
    cases d with
    | non => simp (dsimp := false) (implicitDefEqProofs := false) [b16, exSs, exS, evE.eq_1, evE.eq_2, evE.eq_3, evE.eq_4, evE.eq_5, evE.eq_6, evE.eq_7, evE.eq_8, evE.eq_9, evE.eq_10, evE.eq_11, evE.eq_12, evE.eq_13, evE.eq_14, evE.eq_15, evE.eq_16, evE.eq_17, evE.eq_18, evE.eq_19, evE.eq_20, evE.eq_21, evE.eq_22, evE.eq_23, evE.eq_24, evE.eq_25, evE.eq_26, evE.eq_27, evE.eq_28, evE.eq_31, evE.eq_32, evE.eq_33, evE.eq_34, evE.eq_35, evE.eq_36, evE.eq_37, evE.eq_38, evT, evL, evI, evC, evW, startF, setS, idxD, seqOf, ixN, binD, arI, setI, cmpD, intCmp, cmpI, truD, isAny, isD, isNo, pln, vw, eqD, biD, tidy_same, wipe]
    | bl b => simp (dsimp := false) (implicitDefEqProofs := false) [b16, exSs, exS, evE.eq_1, evE.eq_2, evE.eq_3, evE.eq_4, evE.eq_5, evE.eq_6, evE.eq_7, evE.eq_8, evE.eq_9, evE.eq_10, evE.eq_11, evE.eq_12, evE.eq_13, evE.eq_14, evE.eq_15, evE.eq_16, evE.eq_17, evE.eq_18, evE.eq_19, evE.eq_20, evE.eq_21, evE.eq_22, evE.eq_23, evE.eq_24, evE.eq_25, evE.eq_26, evE.eq_27, evE.eq_28, evE.eq_31, evE.eq_32, evE.eq_33, evE.eq_34, evE.eq_35, evE.eq_36, evE.eq_37, evE.eq_38, evT, evL, evI, evC, evW, startF, setS, idxD, seqOf, ixN, binD, arI, setI, cmpD, intCmp, cmpI, truD, isAny, isD, isNo, pln, vw, eqD, biD, tidy_same, wipe]
    | int i => simp (dsimp := false) (implicitDefEqProofs := false) [b16, exSs, exS, evE.eq_1, evE.eq_2, evE.eq_3, evE.eq_4, evE.eq_5, evE.eq_6, evE.eq_7, evE.eq_8, evE.eq_9, evE.eq_10, evE.eq_11, evE.eq_12, evE.eq_13, evE.eq_14, evE.eq_15, evE.eq_16, evE.eq_17, evE.eq_18, evE.eq_19, evE.eq_20, evE.eq_21, evE.eq_22, evE.eq_23, evE.eq_24, evE.eq_25, evE.eq_26, evE.eq_27, evE.eq_28, evE.eq_31, evE.eq_32, evE.eq_33, evE.eq_34, evE.eq_35, evE.eq_36, evE.eq_37, evE.eq_38, evT, evL, evI, evC, evW, startF, setS, idxD, seqOf, ixN, binD, arI, setI, cmpD, intCmp, cmpI, truD, isAny, isD, isNo, pln, vw, eqD, biD, tidy_same, wipe]
    | str s =>
      simp only [sm2] at hd
      simp (dsimp := false) (implicitDefEqProofs := false) [b16, hd, exSs, exS, evE.eq_1, evE.eq_2, evE.eq_3, evE.eq_4, evE.eq_5, evE.eq_6, evE.eq_7, evE.eq_8, evE.eq_9, evE.eq_10, evE.eq_11, evE.eq_12, evE.eq_13, evE.eq_14, evE.eq_15, evE.eq_16, evE.eq_17, evE.eq_18, evE.eq_19, evE.eq_20, evE.eq_21, evE.eq_22, evE.eq_23, evE.eq_24, evE.eq_25, evE.eq_26, evE.eq_27, evE.eq_28, evE.eq_31, evE.eq_32, evE.eq_33, evE.eq_34, evE.eq_35, evE.eq_36, evE.eq_37, evE.eq_38, evT, evL, evI, evC, evW, startF, setS, idxD, seqOf, ixN, binD, arI, setI, cmpD, intCmp, cmpI, truD, isAny, isD, isNo, pln, vw, eqD, biD, tidy_same, wipe]
    | tup l =>
      simp only [sm2, Bool.and_eq_true, decide_eq_true_eq] at hd
      have e := key l hd.1 hd.2 _ (.inl rfl)
      simp (dsimp := false) (implicitDefEqProofs := false) [b16, e, inD, lstOf, trues_pln, trues, exSs, exS, evE.eq_1, evE.eq_2, evE.eq_3, evE.eq_4, evE.eq_5, evE.eq_6, evE.eq_7, evE.eq_8, evE.eq_9, evE.eq_10, evE.eq_11, evE.eq_12, evE.eq_13, evE.eq_14, evE.eq_15, evE.eq_16, evE.eq_17, evE.eq_18, evE.eq_19, evE.eq_20, evE.eq_21, evE.eq_22, evE.eq_23, evE.eq_24, evE.eq_25, evE.eq_26, evE.eq_27, evE.eq_28, evE.eq_31, evE.eq_32, evE.eq_33, evE.eq_34, evE.eq_35, evE.eq_36, evE.eq_37, evE.eq_38, evT, evL, evI, evC, evW, startF, setS, idxD, seqOf, ixN, binD, arI, setI, cmpD, intCmp, cmpI, truD, isAny, isD, isNo, pln, vw, eqD, biD, tidy_same, wipe]
    | lst l =>
      simp only [sm2, Bool.and_eq_true, decide_eq_true_eq] at hd
      have e := key l hd.1 hd.2 _ (.inr rfl)
      simp (dsimp := false) (implicitDefEqProofs := false) [b16, e, inD, lstOf, trues_pln, trues, exSs, exS, evE.eq_1, evE.eq_2, evE.eq_3, evE.eq_4, evE.eq_5, evE.eq_6, evE.eq_7, evE.eq_8, evE.eq_9, evE.eq_10, evE.eq_11, evE.eq_12, evE.eq_13, evE.eq_14, evE.eq_15, evE.eq_16, evE.eq_17, evE.eq_18, evE.eq_19, evE.eq_20, evE.eq_21, evE.eq_22, evE.eq_23, evE.eq_24, evE.eq_25, evE.eq_26, evE.eq_27, evE.eq_28, evE.eq_31, evE.eq_32, evE.eq_33, evE.eq_34, evE.eq_35, evE.eq_36, evE.eq_37, evE.eq_38, evT, evL, evI, evC, evW, startF, setS, idxD, seqOf, ixN, binD, arI, setI, cmpD, intCmp, cmpI, truD, isAny, isD, isNo, pln, vw, eqD, biD, tidy_same, wipe]
    | _ => simp [sm2] at hd
def tb (m : Nat) : D → Bool
  | .int i => m.testBit i.toNat
  | _ => false
theorem lot (n : Nat) (m : Nat) (S : Store) : run T (n + 1) 17 [.int (m : Nat)] S = .ok (tupI (bits m)) S := by
  rw [run_def (F := ⟨1, 2, b17, true⟩) rfl rfl]
  have l8 : (8 : Int) ≤ LIM ∧ -(LIM : Int) ≤ 8 := by unfold LIM; omega
  have e1 : ((upTo 0 8).filter (tb m)).map (fun d => d) = (bits m).map .int := by
    rw [List.map_id', upTo0, List.filter_map, bits, List.map_map]
    rfl
  have e := lc_flt (C := csOf T n) (own := [1]) (tg := .nm 1) (it := .rng (.cons (.int 8) .nil)) (c := b17f0) (e := b17e0) (ρ := [some (.int (m : Nat)), none]) (S := S) (l := upTo 0 8) (g := []) (tb m) (fun d => d) (by simp (dsimp := false) (implicitDefEqProofs := false) [rngIt, l8, exSs, exS, evE.eq_1, evE.eq_2, evE.eq_3, evE.eq_4, evE.eq_5, evE.eq_6, evE.eq_7, evE.eq_8, evE.eq_9, evE.eq_10, evE.eq_11, evE.eq_12, evE.eq_13, evE.eq_14, evE.eq_15, evE.eq_16, evE.eq_17, evE.eq_18, evE.eq_19, evE.eq_20, evE.eq_21, evE.eq_22, evE.eq_23, evE.eq_24, evE.eq_25, evE.eq_26, evE.eq_27, evE.eq_28, evE.eq_31, evE.eq_32, evE.eq_33, evE.eq_34, evE.eq_35, evE.eq_36, evE.eq_37, evE.eq_38, evT, evL, evI, evC, evW, startF, setS, idxD, seqOf, ixN, binD, arI, setI, cmpD, intCmp, cmpI, truD, isAny, isD, isNo, pln, vw, eqD, biD, tidy_same, wipe]) (fun c => gOk_nil _) (fun d hd x => ⟨_, rfl, by
      rw [upTo0] at hd
      obtain ⟨i, hi, rfl⟩ := List.mem_map.mp hd
      have b1 := bit_nat m i
      cases h1 : m.testBit i <;> simp (dsimp := false) (implicitDefEqProofs := false) [b17f0, b1, h1, tb, exSs, exS, evE.eq_1, evE.eq_2, evE.eq_3, evE.eq_4, evE.eq_5, evE.eq_6, evE.eq_7, evE.eq_8, evE.eq_9, evE.eq_10, evE.eq_11, evE.eq_12, evE.eq_13, evE.eq_14, evE.eq_15, evE.eq_16, evE.eq_17, evE.eq_18, evE.eq_19, evE.eq_20, evE.eq_21, evE.eq_22, evE.eq_23, evE.eq_24, evE.eq_25, evE.eq_26, evE.eq_27, evE.eq_28, evE.eq_31, evE.eq_32, evE.eq_33, evE.eq_34, evE.eq_35, evE.eq_36, evE.eq_37, evE.eq_38, evT, evL, evI, evC, evW, startF, setS, idxD, seqOf, ixN, binD, arI, setI, cmpD, intCmp, cmpI, truD, isAny, isD, isNo, pln, vw, eqD, biD, tidy_same, wipe], fun _ => by simp (dsimp := false) (implicitDefEqProofs := false) [b17e0, exSs, exS, evE.eq_1, evE.eq_2, evE.eq_3, evE.eq_4, evE.eq_5, evE.eq_6, evE.eq_7, evE.eq_8, evE.eq_9, evE.eq_10, evE.eq_11, evE.eq_12, evE.eq_13, evE.eq_14, evE.eq_15, evE.eq_16, evE.eq_17, evE.eq_18, evE.eq_19, evE.eq_20, evE.eq_21, evE.eq_22, evE.eq_23, evE.eq_24, evE.eq_25, evE.eq_26, evE.eq_27, evE.eq_28, evE.eq_31, evE.eq_32, evE.eq_33, evE.eq_34, evE.eq_35, evE.eq_36, evE.eq_37, evE.eq_38, evT, evL, evI, evC, evW, startF, setS, idxD, seqOf, ixN, binD, arI, setI, cmpD, intCmp, cmpI, truD, isAny, isD, isNo, pln, vw, eqD, biD, tidy_same, wipe]⟩) (by unfold LIM; simp [upTo0]) (by rw [e1]; exact belowL_ints _ _)
  rw [e1] at e
  simp (dsimp := false) (implicitDefEqProofs := false) [b17, e, tupI, exSs, exS, evE.eq_1, evE.eq_2, evE.eq_3, evE.eq_4, evE.eq_5, evE.eq_6, evE.eq_7, evE.eq_8, evE.eq_9, evE.eq_10, evE.eq_11, evE.eq_12, evE.eq_13, evE.eq_14, evE.eq_15, evE.eq_16, evE.eq_17, evE.eq_18, evE.eq_19, evE.eq_20, evE.eq_21, evE.eq_22, evE.eq_23, evE.eq_24, evE.eq_25, evE.eq_26, evE.eq_27, evE.eq_28, evE.eq_31, evE.eq_32, evE.eq_33, evE.eq_34, evE.eq_35, evE.eq_36, evE.eq_37, evE.eq_38, evT, evL, evI, evC, evW, startF, setS, idxD, seqOf, ixN, binD, arI, setI, cmpD, intCmp, cmpI, truD, isAny, isD, isNo, pln, vw, eqD, biD, tidy_same, wipe]
end Lw
end
section
set_option maxRecDepth 100000
set_option maxHeartbeats 8000000
namespace Lw
open Ev Lg
theorem allBl_true (l : List D) : allBl (l.map fun _ => D.bl true) = some (l.map fun _ => true) := allBl_map (fun _ => true) l
theorem all_true (l : List D) : (l.map fun _ => true).all id = true := by simp
theorem trues_below (n : Nat) (l : List D) : belowL n (l.map fun _ => D.bl true) = true := plnL_below 0 _ (trues_pln 0 l)
theorem f_int (n : Nat) (i : Int) (S : Store) : run T (n + 1) 1 [.int i] S = .ok (.bl true) S := by
  rw [run_def (F := ⟨1, 1, b1, true⟩) rfl rfl]
  simp (dsimp := false) (implicitDefEqProofs := false) [b1, exSs, exS, evE.eq_1, evE.eq_2, evE.eq_3, evE.eq_4, evE.eq_5, evE.eq_6, evE.eq_7, evE.eq_8, evE.eq_9, evE.eq_10, evE.eq_11, evE.eq_12, evE.eq_13, evE.eq_14, evE.eq_15, evE.eq_16, evE.eq_17, evE.eq_18, evE.eq_19, evE.eq_20, evE.eq_21, evE.eq_22, evE.eq_23, evE.eq_24, evE.eq_25, evE.eq_26, evE.eq_27, evE.eq_28, evE.eq_31, evE.eq_32, evE.eq_33, evE.eq_34, evE.eq_35, evE.eq_36, evE.eq_37, evE.eq_38, evT, evL, evI, evC, evW, startF, setS, idxD, seqOf, ixN, binD, arI, setI, cmpD, intCmp, cmpI, truD, isAny, isD, isNo, pln, vw, eqD, biD, tidy_same, wipe]
theorem f_between (n : Nat) (i a b : Int) (h1 : a ≤ i) (h2 : i ≤ b) (S : Store) : run T (n + 2) 3 [.int i, .int a, .int b] S = .ok (.bl true) S := by
  rw [run_def (F := ⟨3, 3, b3, true⟩) rfl rfl]
  simp (dsimp := false) (implicitDefEqProofs := false) [b3, f_int, h1, h2, exSs, exS, evE.eq_1, evE.eq_2, evE.eq_3, evE.eq_4, evE.eq_5, evE.eq_6, evE.eq_7, evE.eq_8, evE.eq_9, evE.eq_10, evE.eq_11, evE.eq_12, evE.eq_13, evE.eq_14, evE.eq_15, evE.eq_16, evE.eq_17, evE.eq_18, evE.eq_19, evE.eq_20, evE.eq_21, evE.eq_22, evE.eq_23, evE.eq_24, evE.eq_25, evE.eq_26, evE.eq_27, evE.eq_28, evE.eq_31, evE.eq_32, evE.eq_33, evE.eq_34, evE.eq_35, evE.eq_36, evE.eq_37, evE.eq_38, evT, evL, evI, evC, evW, startF, setS, idxD, seqOf, ixN, binD, arI, setI, cmpD, intCmp, cmpI, truD, isAny, isD, isNo, pln, vw, eqD, biD, tidy_same, wipe]
theorem f_ints (n : Nat) (l : List Int) (hl : l.length ≤ 1000) (S : Store) : run T (n + 2) 5 [tupI l] S = .ok (.bl true) S := by
  rw [run_def (F := ⟨1, 2, b5, true⟩) rfl rfl]
  have lim := lim_le hl
  have e := lc_map (C := csOf T (n + 1)) (own := [1]) (tg := .nm 1) (it := .seq (.var 0)) (e := b5e0) (ρ := [some (tupI l), none]) (S := S) (l := l.map .int) (g := []) (fun _ => .bl true)
    (by simp (dsimp := false) (implicitDefEqProofs := false) [seqIt, tupI, Ev.guard, exSs, exS, evE.eq_1, evE.eq_2, evE.eq_3, evE.eq_4, evE.eq_5, evE.eq_6, evE.eq_7, evE.eq_8, evE.eq_9, evE.eq_10, evE.eq_11, evE.eq_12, evE.eq_13, evE.eq_14, evE.eq_15, evE.eq_16, evE.eq_17, evE.eq_18, evE.eq_19, evE.eq_20, evE.eq_21, evE.eq_22, evE.eq_23, evE.eq_24, evE.eq_25, evE.eq_26, evE.eq_27, evE.eq_28, evE.eq_31, evE.eq_32, evE.eq_33, evE.eq_34, evE.eq_35, evE.eq_36, evE.eq_37, evE.eq_38, evT, evL, evI, evC, evW, startF, setS, idxD, seqOf, ixN, binD, arI, setI, cmpD, intCmp, cmpI, truD, isAny, isD, isNo, pln, vw, eqD, biD, tidy_same, wipe]) (fun c => gOk_nil _) (fun d hd x => ⟨_, rfl, by
      obtain ⟨i, _, rfl⟩ := List.mem_map.mp hd
      simp (dsimp := false) (implicitDefEqProofs := false) [b5e0, f_int, exSs, exS, evE.eq_1, evE.eq_2, evE.eq_3, evE.eq_4, evE.eq_5, evE.eq_6, evE.eq_7, evE.eq_8, evE.eq_9, evE.eq_10, evE.eq_11, evE.eq_12, evE.eq_13, evE.eq_14, evE.eq_15, evE.eq_16, evE.eq_17, evE.eq_18, evE.eq_19, evE.eq_20, evE.eq_21, evE.eq_22, evE.eq_23, evE.eq_24, evE.eq_25, evE.eq_26, evE.eq_27, evE.eq_28, evE.eq_31, evE.eq_32, evE.eq_33, evE.eq_34, evE.eq_35, evE.eq_36, evE.eq_37, evE.eq_38, evT, evL, evI, evC, evW, startF, setS, idxD, seqOf, ixN, binD, arI, setI, cmpD, intCmp, cmpI, truD, isAny, isD, isNo, pln, vw, eqD, biD, tidy_same, wipe]⟩) (by simpa using lim) (trues_below _ _)
  unfold tupI at e ⊢
  simp (dsimp := false) (implicitDefEqProofs := false) [b5, e, lstOf, allBl_true, all_true, -List.map_map, exSs, exS, evE.eq_1, evE.eq_2, evE.eq_3, evE.eq_4, evE.eq_5, evE.eq_6, evE.eq_7, evE.eq_8, evE.eq_9, evE.eq_10, evE.eq_11, evE.eq_12, evE.eq_13, evE.eq_14, evE.eq_15, evE.eq_16, evE.eq_17, evE.eq_18, evE.eq_19, evE.eq_20, evE.eq_21, evE.eq_22, evE.eq_23, evE.eq_24, evE.eq_25, evE.eq_26, evE.eq_27, evE.eq_28, evE.eq_31, evE.eq_32, evE.eq_33, evE.eq_34, evE.eq_35, evE.eq_36, evE.eq_37, evE.eq_38, evT, evL, evI, evC, evW, startF, setS, idxD, seqOf, ixN, binD, arI, setI, cmpD, intCmp, cmpI, truD, isAny, isD, isNo, pln, vw, eqD, biD, tidy_same, wipe]
theorem adj {α : Type} {R : α → α → Prop} {l : List α} (h : l.Pairwise R) {k : Nat} (hk : k + 1 < l.length) : R (l[k]'(by omega)) l[k + 1] := List.pairwise_iff_getElem.mp h k (k + 1) _ _ (by omega)
theorem rng1 {m : Nat} (hm : m ≤ 1000) (S : Store) : rngIt [.int ((m : Int) - 1)] S = .ok (upTo 0 (m - 1), []) S := by
  have lim : (m : Int) - 1 ≤ LIM ∧ -(LIM : Int) ≤ (m : Int) - 1 := by unfold LIM; omega
  have e : ((m : Int) - 1).toNat = m - 1 := by omega
  simp [rngIt, lim, e]
theorem f_rising (n : Nat) (l : List Int) (hl : l.length ≤ 1000) (h : l.Pairwise (· < ·)) (S : Store) : run T (n + 3) 6 [tupI l] S = .ok (.bl true) S := by
  rw [run_def (F := ⟨1, 2, b6, true⟩) rfl rfl]
  have lim := lim_le (n := l.length - 1) (by omega)
  have e := lc_map (C := csOf T (n + 2)) (own := [1]) (tg := .nm 1) (it := .rng (.cons (.bin .sub false (.bi .len false (.cons (.var 0) .nil)) (.int 1)) .nil)) (e := b6e0) (ρ := [some (tupI l), none]) (S := S) (l := upTo 0 (l.length - 1)) (g := []) (fun _ => .bl true)
    (by simp (dsimp := false) (implicitDefEqProofs := false) [tupI, rng1 hl, exSs, exS, evE.eq_1, evE.eq_2, evE.eq_3, evE.eq_4, evE.eq_5, evE.eq_6, evE.eq_7, evE.eq_8, evE.eq_9, evE.eq_10, evE.eq_11, evE.eq_12, evE.eq_13, evE.eq_14, evE.eq_15, evE.eq_16, evE.eq_17, evE.eq_18, evE.eq_19, evE.eq_20, evE.eq_21, evE.eq_22, evE.eq_23, evE.eq_24, evE.eq_25, evE.eq_26, evE.eq_27, evE.eq_28, evE.eq_31, evE.eq_32, evE.eq_33, evE.eq_34, evE.eq_35, evE.eq_36, evE.eq_37, evE.eq_38, evT, evL, evI, evC, evW, startF, setS, idxD, seqOf, ixN, binD, arI, setI, cmpD, intCmp, cmpI, truD, isAny, isD, isNo, pln, vw, eqD, biD, tidy_same, wipe]) (fun c => gOk_nil _) (fun d hd x => ⟨_, rfl, by
      rw [upTo0] at hd
      obtain ⟨i, hi, rfl⟩ := List.mem_map.mp hd
      have hi := List.mem_range.mp hi
      have h0 : i < l.length := by omega
      have h1 : i + 1 < l.length := by omega
      have h0' : (i : Int) < l.length := by omega
      have h1' : (i : Int) + 1 < l.length := by omega
      have t : ((i : Int) + 1).toNat = i + 1 := by omega
      have p : (0 : Int) ≤ (i : Int) + 1 := by omega
      have q := adj h h1
      simp (dsimp := false) (implicitDefEqProofs := false) [b6e0, tupI, h0, h1, h0', h1', t, p, q, exSs, exS, evE.eq_1, evE.eq_2, evE.eq_3, evE.eq_4, evE.eq_5, evE.eq_6, evE.eq_7, evE.eq_8, evE.eq_9, evE.eq_10, evE.eq_11, evE.eq_12, evE.eq_13, evE.eq_14, evE.eq_15, evE.eq_16, evE.eq_17, evE.eq_18, evE.eq_19, evE.eq_20, evE.eq_21, evE.eq_22, evE.eq_23, evE.eq_24, evE.eq_25, evE.eq_26, evE.eq_27, evE.eq_28, evE.eq_31, evE.eq_32, evE.eq_33, evE.eq_34, evE.eq_35, evE.eq_36, evE.eq_37, evE.eq_38, evT, evL, evI, evC, evW, startF, setS, idxD, seqOf, ixN, binD, arI, setI, cmpD, intCmp, cmpI, truD, isAny, isD, isNo, pln, vw, eqD, biD, tidy_same, wipe]⟩) (by simpa [upTo0] using lim) (trues_below _ _)
  have e5 := f_ints n l hl S
  unfold tupI at e e5 ⊢
  simp (dsimp := false) (implicitDefEqProofs := false) [b6, e5, e, lstOf, allBl_true, all_true, -List.map_map, exSs, exS, evE.eq_1, evE.eq_2, evE.eq_3, evE.eq_4, evE.eq_5, evE.eq_6, evE.eq_7, evE.eq_8, evE.eq_9, evE.eq_10, evE.eq_11, evE.eq_12, evE.eq_13, evE.eq_14, evE.eq_15, evE.eq_16, evE.eq_17, evE.eq_18, evE.eq_19, evE.eq_20, evE.eq_21, evE.eq_22, evE.eq_23, evE.eq_24, evE.eq_25, evE.eq_26, evE.eq_27, evE.eq_28, evE.eq_31, evE.eq_32, evE.eq_33, evE.eq_34, evE.eq_35, evE.eq_36, evE.eq_37, evE.eq_38, evT, evL, evI, evC, evW, startF, setS, idxD, seqOf, ixN, binD, arI, setI, cmpD, intCmp, cmpI, truD, isAny, isD, isNo, pln, vw, eqD, biD, tidy_same, wipe]
theorem f_rbelow (n : Nat) (l : List Int) (hl : l.length ≤ 1000) (h : l.Pairwise (· < ·)) (z : Int) (hz : ∀ p ∈ l, 0 ≤ p ∧ p < z) (S : Store) : run T (n + 4) 7 [tupI l, .int z] S = .ok (.bl true) S := by
  rw [run_def (F := ⟨2, 3, b7, true⟩) rfl rfl]
  have lim := lim_le hl
  have e := lc_map (C := csOf T (n + 3)) (own := [2]) (tg := .nm 2) (it := .seq (.var 0)) (e := b7e0) (ρ := [some (tupI l), some (.int z), none]) (S := S) (l := l.map .int) (g := []) (fun _ => .bl true)
    (by simp (dsimp := false) (implicitDefEqProofs := false) [seqIt, tupI, Ev.guard, exSs, exS, evE.eq_1, evE.eq_2, evE.eq_3, evE.eq_4, evE.eq_5, evE.eq_6, evE.eq_7, evE.eq_8, evE.eq_9, evE.eq_10, evE.eq_11, evE.eq_12, evE.eq_13, evE.eq_14, evE.eq_15, evE.eq_16, evE.eq_17, evE.eq_18, evE.eq_19, evE.eq_20, evE.eq_21, evE.eq_22, evE.eq_23, evE.eq_24, evE.eq_25, evE.eq_26, evE.eq_27, evE.eq_28, evE.eq_31, evE.eq_32, evE.eq_33, evE.eq_34, evE.eq_35, evE.eq_36, evE.eq_37, evE.eq_38, evT, evL, evI, evC, evW, startF, setS, idxD, seqOf, ixN, binD, arI, setI, cmpD, intCmp, cmpI, truD, isAny, isD, isNo, pln, vw, eqD, biD, tidy_same, wipe]) (fun c => gOk_nil _) (fun d hd x => ⟨_, rfl, by
      obtain ⟨i, hi, rfl⟩ := List.mem_map.mp hd
      obtain ⟨h1, h2⟩ := hz i hi
      simp (dsimp := false) (implicitDefEqProofs := false) [b7e0, h1, h2, exSs, exS, evE.eq_1, evE.eq_2, evE.eq_3, evE.eq_4, evE.eq_5, evE.eq_6, evE.eq_7, evE.eq_8, evE.eq_9, evE.eq_10, evE.eq_11, evE.eq_12, evE.eq_13, evE.eq_14, evE.eq_15, evE.eq_16, evE.eq_17, evE.eq_18, evE.eq_19, evE.eq_20, evE.eq_21, evE.eq_22, evE.eq_23, evE.eq_24, evE.eq_25, evE.eq_26, evE.eq_27, evE.eq_28, evE.eq_31, evE.eq_32, evE.eq_33, evE.eq_34, evE.eq_35, evE.eq_36, evE.eq_37, evE.eq_38, evT, evL, evI, evC, evW, startF, setS, idxD, seqOf, ixN, binD, arI, setI, cmpD, intCmp, cmpI, truD, isAny, isD, isNo, pln, vw, eqD, biD, tidy_same, wipe]⟩) (by simpa using lim) (trues_below _ _)
  have e6 := f_rising n l hl h S
  unfold tupI at e e6 ⊢
  simp (dsimp := false) (implicitDefEqProofs := false) [b7, e6, e, lstOf, allBl_true, all_true, -List.map_map, exSs, exS, evE.eq_1, evE.eq_2, evE.eq_3, evE.eq_4, evE.eq_5, evE.eq_6, evE.eq_7, evE.eq_8, evE.eq_9, evE.eq_10, evE.eq_11, evE.eq_12, evE.eq_13, evE.eq_14, evE.eq_15, evE.eq_16, evE.eq_17, evE.eq_18, evE.eq_19, evE.eq_20, evE.eq_21, evE.eq_22, evE.eq_23, evE.eq_24, evE.eq_25, evE.eq_26, evE.eq_27, evE.eq_28, evE.eq_31, evE.eq_32, evE.eq_33, evE.eq_34, evE.eq_35, evE.eq_36, evE.eq_37, evE.eq_38, evT, evL, evI, evC, evW, startF, setS, idxD, seqOf, ixN, binD, arI, setI, cmpD, intCmp, cmpI, truD, isAny, isD, isNo, pln, vw, eqD, biD, tidy_same, wipe]
theorem f_lot (n : Nat) (l : List Int) (hl : l.length ≤ 1000) (h : l.Pairwise (· < ·)) (z : Int) (hz : ∀ p ∈ l, 0 ≤ p ∧ p < z) (hne : l ≠ []) (S : Store) : run T (n + 5) 11 [tupI l, .int z] S = .ok (.bl true) S := by
  rw [run_def (F := ⟨2, 2, b11, true⟩) rfl rfl]
  have e := f_rbelow n l hl h z hz S
  have p : 0 < l.length := List.length_pos_iff.mpr hne
  unfold tupI at e ⊢
  simp (dsimp := false) (implicitDefEqProofs := false) [b11, e, p, exSs, exS, evE.eq_1, evE.eq_2, evE.eq_3, evE.eq_4, evE.eq_5, evE.eq_6, evE.eq_7, evE.eq_8, evE.eq_9, evE.eq_10, evE.eq_11, evE.eq_12, evE.eq_13, evE.eq_14, evE.eq_15, evE.eq_16, evE.eq_17, evE.eq_18, evE.eq_19, evE.eq_20, evE.eq_21, evE.eq_22, evE.eq_23, evE.eq_24, evE.eq_25, evE.eq_26, evE.eq_27, evE.eq_28, evE.eq_31, evE.eq_32, evE.eq_33, evE.eq_34, evE.eq_35, evE.eq_36, evE.eq_37, evE.eq_38, evT, evL, evI, evC, evW, startF, setS, idxD, seqOf, ixN, binD, arI, setI, cmpD, intCmp, cmpI, truD, isAny, isD, isNo, pln, vw, eqD, biD, tidy_same, wipe]
theorem sorted_or (F : List (List Int)) : F = [] ∨ allInt (F.map tupI) = none := by
  cases F with
  | nil => exact .inl rfl
  | cons r F => exact .inr allInt_tups
theorem sortT_nodup {F : List (List Int)} (h : F.Nodup) : (sortT F).Nodup := (sortT_perm F).nodup_iff.mpr h
theorem sortT_len (F : List (List Int)) : (sortT F).length = F.length := (sortT_perm F).length_eq
theorem f_unlike (n : Nat) (F : List (List Int)) (hl : F.length ≤ 1000) (hn : F.Nodup) (hne : ∀ r ∈ F, r ≠ []) (S : Store) : run T (n + 1) 8 [.tup (F.map tupI)] S = .ok (.bl true) S := by
  rw [run_def (F := ⟨1, 3, b8, true⟩) rfl rfl]
  have hl' : (sortT F).length ≤ 1000 := by rw [sortT_len]; exact hl
  have lim := lim_le (n := (sortT F).length - 1) (by omega)
  have e := lc_map (C := csOf T n) (own := [2]) (tg := .nm 2) (it := .rng (.cons (.bin .sub false (.bi .len false (.cons (.var 1) .nil)) (.int 1)) .nil)) (e := b8e0) (ρ := [some (.tup (F.map tupI)), some (.lst ((sortT F).map tupI)), none]) (S := S) (l := upTo 0 ((sortT F).length - 1)) (g := []) (fun _ => .bl true)
    (by simp (dsimp := false) (implicitDefEqProofs := false) [rng1 hl', exSs, exS, evE.eq_1, evE.eq_2, evE.eq_3, evE.eq_4, evE.eq_5, evE.eq_6, evE.eq_7, evE.eq_8, evE.eq_9, evE.eq_10, evE.eq_11, evE.eq_12, evE.eq_13, evE.eq_14, evE.eq_15, evE.eq_16, evE.eq_17, evE.eq_18, evE.eq_19, evE.eq_20, evE.eq_21, evE.eq_22, evE.eq_23, evE.eq_24, evE.eq_25, evE.eq_26, evE.eq_27, evE.eq_28, evE.eq_31, evE.eq_32, evE.eq_33, evE.eq_34, evE.eq_35, evE.eq_36, evE.eq_37, evE.eq_38, evT, evL, evI, evC, evW, startF, setS, idxD, seqOf, ixN, binD, arI, setI, cmpD, intCmp, cmpI, truD, isAny, isD, isNo, pln, vw, eqD, biD, tidy_same, wipe]) (fun c => gOk_nil _) (fun d hd x => ⟨_, rfl, by
      rw [upTo0] at hd
      obtain ⟨i, hi, rfl⟩ := List.mem_map.mp hd
      have hi := List.mem_range.mp hi
      have h0 : i < (sortT F).length := by omega
      have h1 : i + 1 < (sortT F).length := by omega
      have h0' : (i : Int) < (sortT F).length := by omega
      have h1' : (i : Int) + 1 < (sortT F).length := by omega
      have t : ((i : Int) + 1).toNat = i + 1 := by omega
      have p : (0 : Int) ≤ (i : Int) + 1 := by omega
      have q : (sortT F)[i] ≠ (sortT F)[i + 1] := adj (sortT_nodup hn) h1
      simp (dsimp := false) (implicitDefEqProofs := false) [b8e0, h0, h1, h0', h1', t, p, q, pln_tupI, eqD_tupI, tupI, exSs, exS, evE.eq_1, evE.eq_2, evE.eq_3, evE.eq_4, evE.eq_5, evE.eq_6, evE.eq_7, evE.eq_8, evE.eq_9, evE.eq_10, evE.eq_11, evE.eq_12, evE.eq_13, evE.eq_14, evE.eq_15, evE.eq_16, evE.eq_17, evE.eq_18, evE.eq_19, evE.eq_20, evE.eq_21, evE.eq_22, evE.eq_23, evE.eq_24, evE.eq_25, evE.eq_26, evE.eq_27, evE.eq_28, evE.eq_31, evE.eq_32, evE.eq_33, evE.eq_34, evE.eq_35, evE.eq_36, evE.eq_37, evE.eq_38, evT, evL, evI, evC, evW, startF, setS, idxD, seqOf, ixN, binD, arI, setI, cmpD, intCmp, cmpI, truD, isAny, isD, isNo, pln, vw, eqD, biD, tidy_same, wipe]⟩) (by simpa [upTo0] using lim) (trues_below _ _)
  rcases sorted_or F with rfl | h0
  · have e' : evE (csOf T n) (.lc false [2] (.nm 2) (.rng (.cons (.bin .sub false (.bi .len false (.cons (.var 1) .nil)) (.int 1)) .nil)) .no b8e0) [some (.tup []), some (.lst []), none] S = .ok (.lst []) S := e
    simp (dsimp := false) (implicitDefEqProofs := false) [b8, e', allInt, sortI, mkL, lstOf, allBl, exSs, exS, evE.eq_1, evE.eq_2, evE.eq_3, evE.eq_4, evE.eq_5, evE.eq_6, evE.eq_7, evE.eq_8, evE.eq_9, evE.eq_10, evE.eq_11, evE.eq_12, evE.eq_13, evE.eq_14, evE.eq_15, evE.eq_16, evE.eq_17, evE.eq_18, evE.eq_19, evE.eq_20, evE.eq_21, evE.eq_22, evE.eq_23, evE.eq_24, evE.eq_25, evE.eq_26, evE.eq_27, evE.eq_28, evE.eq_31, evE.eq_32, evE.eq_33, evE.eq_34, evE.eq_35, evE.eq_36, evE.eq_37, evE.eq_38, evT, evL, evI, evC, evW, startF, setS, idxD, seqOf, ixN, binD, arI, setI, cmpD, intCmp, cmpI, truD, isAny, isD, isNo, pln, vw, eqD, biD, tidy_same, wipe]
  · simp (dsimp := false) (implicitDefEqProofs := false) [b8, h0, allTup_tups F hne, mkL, e, lstOf, allBl_true, all_true, -List.map_map, exSs, exS, evE.eq_1, evE.eq_2, evE.eq_3, evE.eq_4, evE.eq_5, evE.eq_6, evE.eq_7, evE.eq_8, evE.eq_9, evE.eq_10, evE.eq_11, evE.eq_12, evE.eq_13, evE.eq_14, evE.eq_15, evE.eq_16, evE.eq_17, evE.eq_18, evE.eq_19, evE.eq_20, evE.eq_21, evE.eq_22, evE.eq_23, evE.eq_24, evE.eq_25, evE.eq_26, evE.eq_27, evE.eq_28, evE.eq_31, evE.eq_32, evE.eq_33, evE.eq_34, evE.eq_35, evE.eq_36, evE.eq_37, evE.eq_38, evT, evL, evI, evC, evW, startF, setS, idxD, seqOf, ixN, binD, arI, setI, cmpD, intCmp, cmpI, truD, isAny, isD, isNo, pln, vw, eqD, biD, tidy_same, wipe]
theorem f_lots (n : Nat) (s : Nat) (hs : s ≤ 8) (F : List (List Int)) (hl : F.length ≤ 1000) (hn : F.Nodup) (hr : ∀ r ∈ F, r ≠ [] ∧ r.length ≤ 1000 ∧ r.Pairwise (· < ·) ∧ ∀ p ∈ r, 0 ≤ p ∧ p < (s : Int)) (S : Store) : run T (n + 6) 12 [.int (s : Nat), .tup (F.map tupI)] S = .ok (.bl true) S := by
  rw [run_def (F := ⟨2, 3, b12, true⟩) rfl rfl]
  have lim := lim_le hl
  have e := lc_map (C := csOf T (n + 5)) (own := [2]) (tg := .nm 2) (it := .seq (.var 1)) (e := b12e0) (ρ := [some (.int (s : Nat)), some (.tup (F.map tupI)), none]) (S := S) (l := F.map tupI) (g := []) (fun _ => .bl true)
    (by simp (dsimp := false) (implicitDefEqProofs := false) [seqIt, Ev.guard, exSs, exS, evE.eq_1, evE.eq_2, evE.eq_3, evE.eq_4, evE.eq_5, evE.eq_6, evE.eq_7, evE.eq_8, evE.eq_9, evE.eq_10, evE.eq_11, evE.eq_12, evE.eq_13, evE.eq_14, evE.eq_15, evE.eq_16, evE.eq_17, evE.eq_18, evE.eq_19, evE.eq_20, evE.eq_21, evE.eq_22, evE.eq_23, evE.eq_24, evE.eq_25, evE.eq_26, evE.eq_27, evE.eq_28, evE.eq_31, evE.eq_32, evE.eq_33, evE.eq_34, evE.eq_35, evE.eq_36, evE.eq_37, evE.eq_38, evT, evL, evI, evC, evW, startF, setS, idxD, seqOf, ixN, binD, arI, setI, cmpD, intCmp, cmpI, truD, isAny, isD, isNo, pln, vw, eqD, biD, tidy_same, wipe]) (fun c => gOk_nil _) (fun d hd x => ⟨_, rfl, by
      obtain ⟨r, hi, rfl⟩ := List.mem_map.mp hd
      obtain ⟨h1, h2, h3, h4⟩ := hr r hi
      simp (dsimp := false) (implicitDefEqProofs := false) [b12e0, f_lot n r h2 h3 (s : Nat) h4 h1, exSs, exS, evE.eq_1, evE.eq_2, evE.eq_3, evE.eq_4, evE.eq_5, evE.eq_6, evE.eq_7, evE.eq_8, evE.eq_9, evE.eq_10, evE.eq_11, evE.eq_12, evE.eq_13, evE.eq_14, evE.eq_15, evE.eq_16, evE.eq_17, evE.eq_18, evE.eq_19, evE.eq_20, evE.eq_21, evE.eq_22, evE.eq_23, evE.eq_24, evE.eq_25, evE.eq_26, evE.eq_27, evE.eq_28, evE.eq_31, evE.eq_32, evE.eq_33, evE.eq_34, evE.eq_35, evE.eq_36, evE.eq_37, evE.eq_38, evT, evL, evI, evC, evW, startF, setS, idxD, seqOf, ixN, binD, arI, setI, cmpD, intCmp, cmpI, truD, isAny, isD, isNo, pln, vw, eqD, biD, tidy_same, wipe]⟩) (by simpa using lim) (trues_below _ _)
  have e1 := f_between (n + 3) (s : Nat) 0 8 (by omega) (by omega) S
  have e2 := f_unlike (n + 4) F hl hn (fun r h => (hr r h).1) S
  have gl : T.glb[0]? = some (.int 8) := rfl
  simp (dsimp := false) (implicitDefEqProofs := false) [b12, e1, gl, e, e2, lstOf, allBl_true, all_true, -List.map_map, exSs, exS, evE.eq_1, evE.eq_2, evE.eq_3, evE.eq_4, evE.eq_5, evE.eq_6, evE.eq_7, evE.eq_8, evE.eq_9, evE.eq_10, evE.eq_11, evE.eq_12, evE.eq_13, evE.eq_14, evE.eq_15, evE.eq_16, evE.eq_17, evE.eq_18, evE.eq_19, evE.eq_20, evE.eq_21, evE.eq_22, evE.eq_23, evE.eq_24, evE.eq_25, evE.eq_26, evE.eq_27, evE.eq_28, evE.eq_31, evE.eq_32, evE.eq_33, evE.eq_34, evE.eq_35, evE.eq_36, evE.eq_37, evE.eq_38, evT, evL, evI, evC, evW, startF, setS, idxD, seqOf, ixN, binD, arI, setI, cmpD, intCmp, cmpI, truD, isAny, isD, isNo, pln, vw, eqD, biD, tidy_same, wipe]
/-! frozen -/
theorem f_seq_int (n : Nat) (i : Int) (S : Store) : run T (n + 1) 4 [.int i] S = .ok (.bl false) S := by
  rw [run_def (F := ⟨1, 1, b4, true⟩) rfl rfl]
  simp (dsimp := false) (implicitDefEqProofs := false) [b4, exSs, exS, evE.eq_1, evE.eq_2, evE.eq_3, evE.eq_4, evE.eq_5, evE.eq_6, evE.eq_7, evE.eq_8, evE.eq_9, evE.eq_10, evE.eq_11, evE.eq_12, evE.eq_13, evE.eq_14, evE.eq_15, evE.eq_16, evE.eq_17, evE.eq_18, evE.eq_19, evE.eq_20, evE.eq_21, evE.eq_22, evE.eq_23, evE.eq_24, evE.eq_25, evE.eq_26, evE.eq_27, evE.eq_28, evE.eq_31, evE.eq_32, evE.eq_33, evE.eq_34, evE.eq_35, evE.eq_36, evE.eq_37, evE.eq_38, evT, evL, evI, evC, evW, startF, setS, idxD, seqOf, ixN, binD, arI, setI, cmpD, intCmp, cmpI, truD, isAny, isD, isNo, pln, vw, eqD, biD, tidy_same, wipe]
theorem f_seq_tup (n : Nat) (l : List D) (S : Store) : run T (n + 1) 4 [.tup l] S = .ok (.bl true) S := by
  rw [run_def (F := ⟨1, 1, b4, true⟩) rfl rfl]
  simp (dsimp := false) (implicitDefEqProofs := false) [b4, exSs, exS, evE.eq_1, evE.eq_2, evE.eq_3, evE.eq_4, evE.eq_5, evE.eq_6, evE.eq_7, evE.eq_8, evE.eq_9, evE.eq_10, evE.eq_11, evE.eq_12, evE.eq_13, evE.eq_14, evE.eq_15, evE.eq_16, evE.eq_17, evE.eq_18, evE.eq_19, evE.eq_20, evE.eq_21, evE.eq_22, evE.eq_23, evE.eq_24, evE.eq_25, evE.eq_26, evE.eq_27, evE.eq_28, evE.eq_31, evE.eq_32, evE.eq_33, evE.eq_34, evE.eq_35, evE.eq_36, evE.eq_37, evE.eq_38, evT, evL, evI, evC, evW, startF, setS, idxD, seqOf, ixN, binD, arI, setI, cmpD, intCmp, cmpI, truD, isAny, isD, isNo, pln, vw, eqD, biD, tidy_same, wipe]
theorem f_seq_lst (n : Nat) (l : List D) (S : Store) : run T (n + 1) 4 [.lst l] S = .ok (.bl true) S := by
  rw [run_def (F := ⟨1, 1, b4, true⟩) rfl rfl]
  simp (dsimp := false) (implicitDefEqProofs := false) [b4, exSs, exS, evE.eq_1, evE.eq_2, evE.eq_3, evE.eq_4, evE.eq_5, evE.eq_6, evE.eq_7, evE.eq_8, evE.eq_9, evE.eq_10, evE.eq_11, evE.eq_12, evE.eq_13, evE.eq_14, evE.eq_15, evE.eq_16, evE.eq_17, evE.eq_18, evE.eq_19, evE.eq_20, evE.eq_21, evE.eq_22, evE.eq_23, evE.eq_24, evE.eq_25, evE.eq_26, evE.eq_27, evE.eq_28, evE.eq_31, evE.eq_32, evE.eq_33, evE.eq_34, evE.eq_35, evE.eq_36, evE.eq_37, evE.eq_38, evT, evL, evI, evC, evW, startF, setS, idxD, seqOf, ixN, binD, arI, setI, cmpD, intCmp, cmpI, truD, isAny, isD, isNo, pln, vw, eqD, biD, tidy_same, wipe]
theorem fz_int (n : Nat) (i : Int) (S : Store) : run T (n + 2) 9 [.int i] S = .ok (.int i) S := by
  rw [run_def (F := ⟨1, 2, b9, true⟩) rfl rfl]
  simp (dsimp := false) (implicitDefEqProofs := false) [b9, f_seq_int, exSs, exS, evE.eq_1, evE.eq_2, evE.eq_3, evE.eq_4, evE.eq_5, evE.eq_6, evE.eq_7, evE.eq_8, evE.eq_9, evE.eq_10, evE.eq_11, evE.eq_12, evE.eq_13, evE.eq_14, evE.eq_15, evE.eq_16, evE.eq_17, evE.eq_18, evE.eq_19, evE.eq_20, evE.eq_21, evE.eq_22, evE.eq_23, evE.eq_24, evE.eq_25, evE.eq_26, evE.eq_27, evE.eq_28, evE.eq_31, evE.eq_32, evE.eq_33, evE.eq_34, evE.eq_35, evE.eq_36, evE.eq_37, evE.eq_38, evT, evL, evI, evC, evW, startF, setS, idxD, seqOf, ixN, binD, arI, setI, cmpD, intCmp, cmpI, truD, isAny, isD, isNo, pln, vw, eqD, biD, tidy_same, wipe]
theorem fz_tup (n : Nat) (l : List Int) (hl : l.length ≤ 1000) (S : Store) : run T (n + 3) 9 [tupI l] S = .ok (tupI l) S := by
  rw [run_def (F := ⟨1, 2, b9, true⟩) rfl rfl]
  have lim := lim_le hl
  have e := lc_map (C := csOf T (n + 2)) (own := [1]) (tg := .nm 1) (it := .seq (.var 0)) (e := b9e0) (ρ := [some (tupI l), none]) (S := S) (l := l.map .int) (g := []) (fun d => d)
    (by simp (dsimp := false) (implicitDefEqProofs := false) [seqIt, tupI, Ev.guard, exSs, exS, evE.eq_1, evE.eq_2, evE.eq_3, evE.eq_4, evE.eq_5, evE.eq_6, evE.eq_7, evE.eq_8, evE.eq_9, evE.eq_10, evE.eq_11, evE.eq_12, evE.eq_13, evE.eq_14, evE.eq_15, evE.eq_16, evE.eq_17, evE.eq_18, evE.eq_19, evE.eq_20, evE.eq_21, evE.eq_22, evE.eq_23, evE.eq_24, evE.eq_25, evE.eq_26, evE.eq_27, evE.eq_28, evE.eq_31, evE.eq_32, evE.eq_33, evE.eq_34, evE.eq_35, evE.eq_36, evE.eq_37, evE.eq_38, evT, evL, evI, evC, evW, startF, setS, idxD, seqOf, ixN, binD, arI, setI, cmpD, intCmp, cmpI, truD, isAny, isD, isNo, pln, vw, eqD, biD, tidy_same, wipe]) (fun c => gOk_nil _) (fun d hd x => ⟨_, rfl, by
      obtain ⟨i, _, rfl⟩ := List.mem_map.mp hd
      simp (dsimp := false) (implicitDefEqProofs := false) [b9e0, fz_int, exSs, exS, evE.eq_1, evE.eq_2, evE.eq_3, evE.eq_4, evE.eq_5, evE.eq_6, evE.eq_7, evE.eq_8, evE.eq_9, evE.eq_10, evE.eq_11, evE.eq_12, evE.eq_13, evE.eq_14, evE.eq_15, evE.eq_16, evE.eq_17, evE.eq_18, evE.eq_19, evE.eq_20, evE.eq_21, evE.eq_22, evE.eq_23, evE.eq_24, evE.eq_25, evE.eq_26, evE.eq_27, evE.eq_28, evE.eq_31, evE.eq_32, evE.eq_33, evE.eq_34, evE.eq_35, evE.eq_36, evE.eq_37, evE.eq_38, evT, evL, evI, evC, evW, startF, setS, idxD, seqOf, ixN, binD, arI, setI, cmpD, intCmp, cmpI, truD, isAny, isD, isNo, pln, vw, eqD, biD, tidy_same, wipe]⟩) (by simpa using lim) (by rw [List.map_id']; exact belowL_ints _ _)
  rw [List.map_id'] at e
  unfold tupI at e ⊢
  simp (dsimp := false) (implicitDefEqProofs := false) [b9, f_seq_tup, e, exSs, exS, evE.eq_1, evE.eq_2, evE.eq_3, evE.eq_4, evE.eq_5, evE.eq_6, evE.eq_7, evE.eq_8, evE.eq_9, evE.eq_10, evE.eq_11, evE.eq_12, evE.eq_13, evE.eq_14, evE.eq_15, evE.eq_16, evE.eq_17, evE.eq_18, evE.eq_19, evE.eq_20, evE.eq_21, evE.eq_22, evE.eq_23, evE.eq_24, evE.eq_25, evE.eq_26, evE.eq_27, evE.eq_28, evE.eq_31, evE.eq_32, evE.eq_33, evE.eq_34, evE.eq_35, evE.eq_36, evE.eq_37, evE.eq_38, evT, evL, evI, evC, evW, startF, setS, idxD, seqOf, ixN, binD, arI, setI, cmpD, intCmp, cmpI, truD, isAny, isD, isNo, pln, vw, eqD, biD, tidy_same, wipe]
theorem fz_lst (n : Nat) (F : List (List Int)) (hl : F.length ≤ 1000) (hr : ∀ r ∈ F, r.length ≤ 1000) (S : Store) : run T (n + 4) 9 [.lst (F.map tupI)] S = .ok (.tup (F.map tupI)) S := by
  rw [run_def (F := ⟨1, 2, b9, true⟩) rfl rfl]
  have lim := lim_le hl
  have e := lc_map (C := csOf T (n + 3)) (own := [1]) (tg := .nm 1) (it := .seq (.var 0)) (e := b9e0) (ρ := [some (.lst (F.map tupI)), none]) (S := S) (l := F.map tupI) (g := []) (fun d => d)
    (by simp (dsimp := false) (implicitDefEqProofs := false) [seqIt, Ev.guard, exSs, exS, evE.eq_1, evE.eq_2, evE.eq_3, evE.eq_4, evE.eq_5, evE.eq_6, evE.eq_7, evE.eq_8, evE.eq_9, evE.eq_10, evE.eq_11, evE.eq_12, evE.eq_13, evE.eq_14, evE.eq_15, evE.eq_16, evE.eq_17, evE.eq_18, evE.eq_19, evE.eq_20, evE.eq_21, evE.eq_22, evE.eq_23, evE.eq_24, evE.eq_25, evE.eq_26, evE.eq_27, evE.eq_28, evE.eq_31, evE.eq_32, evE.eq_33, evE.eq_34, evE.eq_35, evE.eq_36, evE.eq_37, evE.eq_38, evT, evL, evI, evC, evW, startF, setS, idxD, seqOf, ixN, binD, arI, setI, cmpD, intCmp, cmpI, truD, isAny, isD, isNo, pln, vw, eqD, biD, tidy_same, wipe]) (fun c => gOk_nil _) (fun d hd x => ⟨_, rfl, by
      obtain ⟨r, h, rfl⟩ := List.mem_map.mp hd
      simp (dsimp := false) (implicitDefEqProofs := false) [b9e0, fz_tup n r (hr r h), exSs, exS, evE.eq_1, evE.eq_2, evE.eq_3, evE.eq_4, evE.eq_5, evE.eq_6, evE.eq_7, evE.eq_8, evE.eq_9, evE.eq_10, evE.eq_11, evE.eq_12, evE.eq_13, evE.eq_14, evE.eq_15, evE.eq_16, evE.eq_17, evE.eq_18, evE.eq_19, evE.eq_20, evE.eq_21, evE.eq_22, evE.eq_23, evE.eq_24, evE.eq_25, evE.eq_26, evE.eq_27, evE.eq_28, evE.eq_31, evE.eq_32, evE.eq_33, evE.eq_34, evE.eq_35, evE.eq_36, evE.eq_37, evE.eq_38, evT, evL, evI, evC, evW, startF, setS, idxD, seqOf, ixN, binD, arI, setI, cmpD, intCmp, cmpI, truD, isAny, isD, isNo, pln, vw, eqD, biD, tidy_same, wipe]⟩) (by simpa using lim) (by rw [List.map_id']; exact belowL_tups _ _)
  rw [List.map_id'] at e
  simp (dsimp := false) (implicitDefEqProofs := false) [b9, f_seq_lst, e, exSs, exS, evE.eq_1, evE.eq_2, evE.eq_3, evE.eq_4, evE.eq_5, evE.eq_6, evE.eq_7, evE.eq_8, evE.eq_9, evE.eq_10, evE.eq_11, evE.eq_12, evE.eq_13, evE.eq_14, evE.eq_15, evE.eq_16, evE.eq_17, evE.eq_18, evE.eq_19, evE.eq_20, evE.eq_21, evE.eq_22, evE.eq_23, evE.eq_24, evE.eq_25, evE.eq_26, evE.eq_27, evE.eq_28, evE.eq_31, evE.eq_32, evE.eq_33, evE.eq_34, evE.eq_35, evE.eq_36, evE.eq_37, evE.eq_38, evT, evL, evI, evC, evW, startF, setS, idxD, seqOf, ixN, binD, arI, setI, cmpD, intCmp, cmpI, truD, isAny, isD, isNo, pln, vw, eqD, biD, tidy_same, wipe]
def LotsOk (s : Nat) (F : List (List Int)) : Prop := s ≤ 8 ∧ F.length ≤ 1000 ∧ F.Nodup ∧ ∀ r ∈ F, r ≠ [] ∧ r.length ≤ 1000 ∧ r.Pairwise (· < ·) ∧ ∀ p ∈ r, 0 ≤ p ∧ p < (s : Int)
def lotsD (s : Nat) (F : List (List Int)) : D := .obj 0 [.int (s : Nat), .tup (F.map tupI)]
theorem f_init (n : Nat) {s : Nat} {F : List (List Int)} (h : LotsOk s F) (S : Store) : run T (n + 7) 29 [.ref S.length, .int (s : Nat), .lst (F.map tupI)] (S ++ [.ins 0 []]) = .ok .non (S ++ [.ins 0 [(3, .int (s : Nat)), (4, .tup (F.map tupI))]]) := by
  rw [run_def (F := ⟨3, 4, b29, true⟩) rfl rfl]
  obtain ⟨h1, h2, h3, h4⟩ := h
  have e1 := fz_lst (n + 2) F h2 (fun r hr => (h4 r hr).2.1) (S ++ [.ins 0 []])
  have e2 := f_lots n s h1 F h2 h3 h4 (S ++ [.ins 0 []])
  have fl : fldsOf T 0 = [3, 4] := rfl
  simp (dsimp := false) (implicitDefEqProofs := false) [b29, e1, e2, fl, putN, exSs, exS, evE.eq_1, evE.eq_2, evE.eq_3, evE.eq_4, evE.eq_5, evE.eq_6, evE.eq_7, evE.eq_8, evE.eq_9, evE.eq_10, evE.eq_11, evE.eq_12, evE.eq_13, evE.eq_14, evE.eq_15, evE.eq_16, evE.eq_17, evE.eq_18, evE.eq_19, evE.eq_20, evE.eq_21, evE.eq_22, evE.eq_23, evE.eq_24, evE.eq_25, evE.eq_26, evE.eq_27, evE.eq_28, evE.eq_31, evE.eq_32, evE.eq_33, evE.eq_34, evE.eq_35, evE.eq_36, evE.eq_37, evE.eq_38, evT, evL, evI, evC, evW, startF, setS, idxD, seqOf, ixN, binD, arI, setI, cmpD, intCmp, cmpI, truD, isAny, isD, isNo, pln, vw, eqD, biD, tidy_same, wipe]
  exact tidy_len (by simp)
theorem mk_lots (n : Nat) {s : Nat} {F : List (List Int)} (h : LotsOk s F) (S : Store) : makD T (run T (n + 7)) false 0 [.int (s : Nat), .lst (F.map tupI)] S = .ok (lotsD s F) S := by
  have e := f_init n h S
  have c : T.cls[0]? = some ⟨[3, 4], some 29, [(5, 30), (6, 31), (7, 32), (8, 33), (9, 34)]⟩ := rfl
  unfold makD
  rw [c]
  simp (dsimp := false) (implicitDefEqProofs := false) [e, belowL, below, cut_self, lotsD, exSs, exS, evE.eq_1, evE.eq_2, evE.eq_3, evE.eq_4, evE.eq_5, evE.eq_6, evE.eq_7, evE.eq_8, evE.eq_9, evE.eq_10, evE.eq_11, evE.eq_12, evE.eq_13, evE.eq_14, evE.eq_15, evE.eq_16, evE.eq_17, evE.eq_18, evE.eq_19, evE.eq_20, evE.eq_21, evE.eq_22, evE.eq_23, evE.eq_24, evE.eq_25, evE.eq_26, evE.eq_27, evE.eq_28, evE.eq_31, evE.eq_32, evE.eq_33, evE.eq_34, evE.eq_35, evE.eq_36, evE.eq_37, evE.eq_38, evT, evL, evI, evC, evW, startF, setS, idxD, seqOf, ixN, binD, arI, setI, cmpD, intCmp, cmpI, truD, isAny, isD, isNo, pln, vw, eqD, biD, tidy_same, wipe]
end Lw
end
section
set_option maxRecDepth 100000
set_option maxHeartbeats 8000000
namespace Lw
open Ev Lg
theorem filt_map (p : Int → Bool) (l : List Int) (pd : D → Bool) (h : ∀ i, pd (.int i) = p i) : ((l.map D.int).filter pd).map (fun d => d) = (l.filter p).map .int := by
  rw [List.map_id', List.filter_map]
  congr 2
  funext i
  exact h i
def dI (f : Int → Bool) : D → Bool
  | .int i => f i
  | _ => false
theorem pln_int (k : Nat) (i : Int) : pln k (.int i) = true := by cases k <;> rfl
def ndl (l : List Nat) : List D := l.map fun p => .int (p : Nat)
theorem ndl_len (l : List Nat) : (ndl l).length = l.length := by simp [ndl]
theorem ndl_get {l : List Nat} {k : Nat} (h : k < l.length) : (ndl l)[k]? = some (.int (l.getD k 0 : Nat)) := by simp [ndl, h]
theorem ndl_pln (k : Nat) (l : List Nat) : plnL k (ndl l) = true := plnL_of fun d hd => by
  obtain ⟨i, _, rfl⟩ := List.mem_map.mp hd
  exact pln_int _ _
theorem ndl_below (n : Nat) (l : List Nat) : belowL n (ndl l) = true := plnL_below 0 _ (ndl_pln 0 l)
theorem ndl_eq : ∀ a b : List Nat, eqL (ndl a) (ndl b) = decide (a = b)
  | [], [] => by simp [ndl, eqL]
  | [], _ :: _ => by simp [ndl, eqL]
  | _ :: _, [] => by simp [ndl, eqL]
  | x :: l, y :: r => by
    have := ndl_eq l r
    unfold ndl at this ⊢
    simp only [List.map_cons, eqL, eqD, this, List.cons.injEq]
    by_cases h : x = y
    · subst h; simp
    · have : ((x : Int) == (y : Int)) = false := beq_eq_false_iff_ne.mpr (by omega)
      simp [h, this]
theorem dnN (p : Nat → Bool) (l : List Nat) : ((ndl l).filter (dI fun k => p k.toNat)).map (fun d => d) = ndl (l.filter p) := by
  rw [List.map_id']
  unfold ndl
  rw [List.filter_map]
  rfl
theorem mapN (f : Nat → Nat) (l : List Nat) : (ndl l).map (fun d => match d with
    | .int i => .int (f i.toNat : Nat)
    | _ => .non) = ndl (l.map f) := by
  unfold ndl
  simp [List.map_map]
end Lw
end
section
set_option maxRecDepth 100000
set_option maxHeartbeats 8000000
namespace Lw
open Ev Lg
theorem pw_pos (s : Nat) : (0 : Int) < 2 ^ s := Int.pow_pos (by decide)
theorem castp (s : Nat) : (2 : Int) ^ s = ((2 ^ s : Nat) : Int) := by push_cast; rfl
theorem pw_le {s : Nat} (hs : s ≤ 8) : 2 ^ s ≤ 256 := Nat.pow_le_pow_right (n := 2) (by decide) hs
theorem dqs {ns : List Int} {X : Store} {k : Nat} {S : Store} (q : QD ns X k S) (hk : k < 2 ^ 80) {s : Nat} (hs : s ≤ 8) (n : Nat) :
    ∃ (r : Nat) (S' : Store), run T (n + 1) 14 [.ref 0, .int (2 ^ s)] S = .ok (.int r) S' ∧ QD ns X (k + 1) S' ∧ r < 2 ^ s := by
  have h2 := pw_le hs
  obtain ⟨r, S', e, q', h⟩ := dq q (by omega) (pw_pos s) (by rw [castp]; omega) n
  refine ⟨r, S', e, q', ?_⟩
  rw [castp] at h
  omega
theorem QD.get {ns : List Int} {X : Store} {k : Nat} {S : Store} {x : Cell} (q : QD ns (X ++ [x]) k S) : S[X.length + 1]? = some x ∧ ∀ y, belowC 0 y = true → QD ns (X ++ [y]) k (S.set (X.length + 1) y) := by
  obtain ⟨S', rfl, q'⟩ := q.un
  have l := q'.len
  refine ⟨by rw [← l]; simp, fun y hy => ?_⟩
  have : (S' ++ [x]).set (X.length + 1) y = S' ++ [y] := by rw [← l]; simp
  rw [this]
  exact q'.app hy
/-- a comprehension that draws -/
theorem lc_draw {C : Cs} {ns : List Int} {i : Nat} {e : Ex} {ρ : Fr} {P : Nat → Prop} (c : Nat) (hc : c ≤ 10)
    (h : ∀ (d : D) (Y : Store) (k : Nat) (S : Store), QD ns Y k S → k < 2 ^ 70 → ∃ (m : Nat) (S' : Store), evE C e (setS ρ i d) S = .ok (.int (m : Nat)) S' ∧ QD ns Y (k + c) S' ∧ P m) (X : Store) :
    ∀ (l : List D) (acc : List Nat) (k : Nat) (S : Store), QD ns (X ++ [.lst (ndl acc)]) k S → k + 10 * l.length < 2 ^ 60 → acc.length + l.length ≤ 100 → (∀ m ∈ acc, P m) → ∃ (L : List Nat) (S' : Store),
      lcL (.nm i) (fun ρ S => evC C .no ρ S) (fun ρ S => evE C e ρ S) ρ [] (X.length + 1) l S = .ok () S' ∧ QD ns (X ++ [.lst (ndl L)]) (k + c * l.length) S' ∧ L.length = acc.length + l.length ∧ ∀ m ∈ L, P m
  | [], acc, k, S, q, _, _, ha => ⟨acc, S, by simp [lcL, gOk_nil], by simpa using q, rfl, ha⟩
  | d :: l, acc, k, S, q, hk, hl, ha => by
    simp only [List.length_cons] at hk hl
    obtain ⟨m, S1, e1, q1, pm⟩ := h d _ k S q (by omega)
    obtain ⟨g1, g2⟩ := q1.get
    have q2 := g2 (.lst (ndl (acc ++ [m]))) (ndl_below 0 _)
    obtain ⟨L, S', e2, q3, hL, hP⟩ := lc_draw c hc h X l (acc ++ [m]) (k + c) _ q2 (by omega) (by simp; omega) (fun x hx => by
      rcases List.mem_append.mp hx with hx | hx
      · exact ha x hx
      · rw [List.mem_singleton.mp hx]; exact pm)
    have en : ndl (acc ++ [m]) = ndl acc ++ [D.int (m : Nat)] := by simp [ndl]
    refine ⟨L, S', ?_, ?_, by rw [hL]; simp; omega, hP⟩
    · rw [← e2]
      have lim : acc.length < LIM := by unfold LIM; omega
      simp only [lcL, gOk_nil, if_true, setT, evC, th_ok, e1, g1, ndl_len, lim, en]
    · have : k + c + c * l.length = k + c * (l.length + 1) := by rw [Nat.mul_add]; omega
      rw [this] at q3
      exact q3
theorem lcE_draw {ns : List Int} {X : Store} {k k' : Nat} {S S' : Store} (q : QD ns X k S) {L : List Nat} (q' : QD ns (X ++ [.lst (ndl L)]) k' S') : ∃ S'', lcE false S S' = .ok (.lst (ndl L)) S'' ∧ QD ns X k' S'' := by
  obtain ⟨S'', rfl, q''⟩ := q'.un
  refine ⟨S'', ?_, q''⟩
  have l1 := q.len
  have l2 := q''.len
  have e : (S'' ++ [Cell.lst (ndl L)])[S.length]? = some (.lst (ndl L)) := by rw [l1, ← l2]; simp
  have t : (S'' ++ [Cell.lst (ndl L)]).take S.length = S'' := by rw [l1, ← l2]; simp
  simp [lcE, e, q.cut q'', ndl_below, t]
theorem ev_draw {C : Cs} {ns : List Int} {own : List Nat} {it : Iter} {i : Nat} {e : Ex} {ρ : Fr} {P : Nat → Prop} (c : Nat) (hc : c ≤ 10) {X : Store} {k : Nat} {S : Store} {l : List D} (q : QD ns X k S) (hw : evW C it ρ S = .ok (l, []) S) (hl : l.length ≤ 90) (hk : k + 1000 < 2 ^ 60)
    (h : ∀ (d : D) (Y : Store) (k : Nat) (S : Store), QD ns Y k S → k < 2 ^ 70 → ∃ (m : Nat) (S' : Store), evE C e (setS (wipe ρ own) i d) S = .ok (.int (m : Nat)) S' ∧ QD ns Y (k + c) S' ∧ P m) :
    ∃ (L : List Nat) (S' : Store), evE C (.lc false own (.nm i) it .no e) ρ S = .ok (.lst (ndl L)) S' ∧ QD ns X (k + c * l.length) S' ∧ L.length = l.length ∧ ∀ m ∈ L, P m := by
  have q1 := q.app (c := .lst (ndl [])) rfl
  obtain ⟨L, S1, e1, q2, h1, h2⟩ := lc_draw c hc h X l [] k _ q1 (by omega) (by simpa using Nat.le_trans hl (by decide)) (fun m hm => by simp at hm)
  obtain ⟨S2, e2, q3⟩ := lcE_draw q q2
  refine ⟨L, S2, ?_, q3, by simpa using h1, h2⟩
  rw [evE.eq_29, hw, th_ok]
  rw [q.len]
  have e0 : ndl [] = [] := rfl
  rw [e0] at e1
  rw [e1]
  simp only [Rs.nox, th_ok]
  exact e2
/-! sums of powers -/
theorem sum_pow : ∀ s : Nat, ((List.range s).map fun p => 2 ^ p).sum + 1 = 2 ^ s
  | 0 => rfl
  | s + 1 => by
    rw [List.range_succ, List.map_append, List.sum_append_nat, List.map_singleton, List.sum_singleton]
    have := sum_pow s
    rw [Nat.pow_succ]
    omega
theorem mem_sum {l : List Nat} {x : Nat} (h : x ∈ l) : x ≤ l.sum := by
  induction l with
  | nil => simp at h
  | cons a l ih =>
    rw [List.sum_cons]
    rcases List.mem_cons.mp h with rfl | h
    · omega
    · have := ih h; omega
theorem take_sum {s : Nat} {π : List Nat} (h : π.Perm (List.range s)) (m : Nat) : ((π.take m).map fun p => 2 ^ p).sum + 1 ≤ 2 ^ s := by
  have h1 := (h.map fun p => 2 ^ p).sum_nat
  have h2 : ((π.take m).map fun p => 2 ^ p).sum + ((π.drop m).map fun p => 2 ^ p).sum = (π.map fun p => 2 ^ p).sum := by
    rw [← List.sum_append_nat, ← List.map_append, List.take_append_drop]
  have h3 := sum_pow s
  omega
theorem sumI_nd (l : List Nat) : sumI (l.map fun m => ((m : Nat) : Int)) = ((l.sum : Nat) : Int) := by
  induction l with
  | nil => rfl
  | cons a l ih => simp only [List.map_cons, sumI, ih, List.sum_cons]; push_cast; rfl
theorem allInt_ndl (l : List Nat) : allInt (ndl l) = some (l.map fun m => ((m : Nat) : Int)) := by
  have := allInt_ints (l.map fun m => ((m : Nat) : Int))
  rw [List.map_map] at this
  exact this
theorem ndl_app (l : List Nat) (m : Nat) : ndl (l ++ [m]) = ndl l ++ [D.int (m : Nat)] := by simp [ndl]
/-! a ring or a wall -/
theorem pl_ring (n : Nat) {ns : List Int} {X : Store} {s : Nat} (hs : s ≤ 8) (wall : Bool) {π : List Nat} (hπ : π.Perm (List.range s)) {many : Nat} (hm : many ≤ s) {av mv : Nat} (ha : av = ((π.take many).map fun p => 2 ^ p).sum) (hmv : mv < 2 ^ s) (y10 : Option D) :
    ∀ (m j : Nat) (L : List Nat) (k : Nat) (S : Store) (y8 y9 : Option D), j + m = many → L.length + m ≤ 50 → QD ns (X ++ [.lst (ndl L)]) k S → k + 10 * m < 2 ^ 60 → (∀ x ∈ L, x < 2 ^ s) → ∃ (L' : List Nat) (S' : Store) (z8 z9 : Option D),
      forL (.nm 8) (fun ρ S => exSs (csOf T (n + 1)) b18l1 ρ S) [] (upTo j m) [some (.ref 0), some (.int (s : Nat)), some (.bl wall), some (.lst (ndl π)), some (.int (many : Nat)), some (.int (av : Nat)), some (.int (mv : Nat)), some (.ref (X.length + 1)), y8, y9, y10] S = .nx [some (.ref 0), some (.int (s : Nat)), some (.bl wall), some (.lst (ndl π)), some (.int (many : Nat)), some (.int (av : Nat)), some (.int (mv : Nat)), some (.ref (X.length + 1)), z8, z9, y10] S' ∧
        QD ns (X ++ [.lst (ndl L')]) (k + 2 * m) S' ∧ L'.length = L.length + m ∧ ∀ x ∈ L', x < 2 ^ s
  | 0, j, L, k, S, y8, y9, _, _, q, _, hL => ⟨L, S, y8, y9, forL_nil, q, rfl, hL⟩
  | m + 1, j, L, k, S, y8, y9, hj, hl, q, hk, hL => by
    obtain ⟨a, S1, e1, q1, a1⟩ := dqs q (by omega) (s := 8) (by omega) n
    obtain ⟨b, S2, e2, q2, b1⟩ := dqs q1 (by omega) (s := 8) (by omega) n
    have hlen : π.length = s := by rw [hπ.length_eq, List.length_range]
    have hj1 : j < π.length := by omega
    have c3 : ((j : Int) + 1) % (many : Int) = (((j + 1) % many : Nat) : Int) := by push_cast; rfl
    have hj2 : (j + 1) % many < many := Nat.mod_lt _ (by omega)
    generalize (j + 1) % many = nx at c3 hj2
    have hj3 : nx < π.length := by omega
    have g0 := ndl_get hj1
    have g1 := ndl_get hj3
    have p0 : π.getD j 0 < s := by
      have : π.getD j 0 ∈ π := getD_mem hj1
      exact List.mem_range.mp (hπ.mem_iff.mp this)
    have p1 : π.getD nx 0 < s := by
      have : π.getD nx 0 ∈ π := getD_mem hj3
      exact List.mem_range.mp (hπ.mem_iff.mp this)
    have le0 : 2 ^ π.getD j 0 ≤ av := by
      rw [ha]
      refine mem_sum (List.mem_map.mpr ⟨π.getD j 0, ?_, rfl⟩)
      have : π.getD j 0 = (π.take many)[j]'(by simp; omega) := by simp [hj1]
      rw [this]
      exact List.getElem_mem _
    have av1 := take_sum hπ many
    rw [← ha] at av1
    generalize π.getD j 0 = u at g0 p0 le0
    generalize π.getD nx 0 = v at g1 p1
    have u2 : 2 ^ u < 2 ^ s := Nat.pow_lt_pow_right (by decide) p0
    have v2 : 2 ^ v < 2 ^ s := Nat.pow_lt_pow_right (by decide) p1
    have base : ∀ w : Nat, w < 2 ^ s → w ||| (mv &&& a &&& b) < 2 ^ s := fun w hw => Nat.or_lt_two_pow hw (Nat.lt_of_le_of_lt Nat.and_le_left (Nat.lt_of_le_of_lt Nat.and_le_left hmv))
    obtain ⟨g5, g6⟩ := q2.get
    have g4 := q.get.1
    have lt : L.length < LIM := by unfold LIM; omega
    have c1 : (av : Int) - 2 ^ u = ((av - 2 ^ u : Nat) : Int) := by rw [castp]; omega
    have c2 : PySem.Builtin.bitOr (2 ^ u) (2 ^ v) = ((2 ^ u ||| 2 ^ v : Nat) : Int) := by rw [castp, castp, bor_nat]
    have m0 : (0 : Int) < many := by omega
    have m0' : 0 < many := by omega
    have j1 : (j : Int) < s := by omega
    have j3 : (nx : Int) < s := by omega
    have u3 : (u : Int) ≤ 1000000 := by omega
    have v3 : (v : Int) ≤ 1000000 := by omega
    have e1' : run T (n + 1) 14 [.ref 0, .int 256] S = .ok (.int a) S1 := e1
    have e2' : run T (n + 1) 14 [.ref 0, .int 256] S1 = .ok (.int b) S2 := e2
    have fin : ∀ w : Nat, w < 2 ^ s → ∃ (L' : List Nat) (S' : Store) (z8 z9 : Option D), forL (.nm 8) (fun ρ S => exSs (csOf T (n + 1)) b18l1 ρ S) [] (upTo ((j : Int) + 1) m) [some (.ref 0), some (.int (s : Nat)), some (.bl wall), some (.lst (ndl π)), some (.int (many : Nat)), some (.int (av : Nat)), some (.int (mv : Nat)), some (.ref (X.length + 1)), some (.int (j : Nat)), some (.int (w : Nat)), y10] (S2.set (X.length + 1) (.lst (ndl (L ++ [w ||| (mv &&& a &&& b)])))) = .nx [some (.ref 0), some (.int (s : Nat)), some (.bl wall), some (.lst (ndl π)), some (.int (many : Nat)), some (.int (av : Nat)), some (.int (mv : Nat)), some (.ref (X.length + 1)), z8, z9, y10] S' ∧
        QD ns (X ++ [.lst (ndl L')]) (k + 2 * (m + 1)) S' ∧ L'.length = L.length + (m + 1) ∧ ∀ x ∈ L', x < 2 ^ s := by
      intro w hw
      have q3 := g6 (.lst (ndl (L ++ [w ||| (mv &&& a &&& b)]))) (ndl_below 0 _)
      obtain ⟨L', S', z8, z9, e3, q4, h4, h5⟩ := pl_ring n hs wall hπ hm ha hmv y10 m (j + 1) _ _ _ (some (.int (j : Nat))) (some (.int (w : Nat))) (by omega) (by simp; omega) q3 (by omega) (fun x hx => by
        rcases List.mem_append.mp hx with hx | hx
        · exact hL x hx
        · rw [List.mem_singleton.mp hx]; exact base w hw)
      refine ⟨L', S', z8, z9, ?_, q4.mono (by omega), by rw [h4]; simp; omega, h5⟩
      push_cast at e3
      exact e3
    cases wall with
    | true =>
      obtain ⟨L', S', z8, z9, e3, q4, h4, h5⟩ := fin (av - 2 ^ u) (Nat.lt_of_le_of_lt (Nat.sub_le _ _) (by omega))
      refine ⟨L', S', z8, z9, ?_, q4, h4, h5⟩
      rw [upTo, ← e3, ndl_app]
      exact forL_nx rfl (by simp (dsimp := false) (implicitDefEqProofs := false) [b18l1, ndl_len, hlen, j1, g0, u3, c1, e1', e2', bmOk, bmD, g4, g5, lt, band_nat, bor_nat, exSs, exS, evE.eq_1, evE.eq_2, evE.eq_3, evE.eq_4, evE.eq_5, evE.eq_6, evE.eq_7, evE.eq_8, evE.eq_9, evE.eq_10, evE.eq_11, evE.eq_12, evE.eq_13, evE.eq_14, evE.eq_15, evE.eq_16, evE.eq_17, evE.eq_18, evE.eq_19, evE.eq_20, evE.eq_21, evE.eq_22, evE.eq_23, evE.eq_24, evE.eq_25, evE.eq_26, evE.eq_27, evE.eq_28, evE.eq_31, evE.eq_32, evE.eq_33, evE.eq_34, evE.eq_35, evE.eq_36, evE.eq_37, evE.eq_38, evT, evL, evI, evC, evW, startF, setS, idxD, seqOf, ixN, binD, arI, setI, cmpD, intCmp, cmpI, truD, isAny, isD, isNo, pln, vw, eqD, biD, tidy_same, wipe])
    | false =>
      obtain ⟨L', S', z8, z9, e3, q4, h4, h5⟩ := fin (2 ^ u ||| 2 ^ v) (Nat.or_lt_two_pow u2 v2)
      refine ⟨L', S', z8, z9, ?_, q4, h4, h5⟩
      rw [upTo, ← e3, ndl_app]
      exact forL_nx rfl (by simp (dsimp := false) (implicitDefEqProofs := false) [b18l1, ndl_len, hlen, j1, j3, g0, g1, u3, v3, c1, c2, c3, m0, m0', e1', e2', bmOk, bmD, g4, g5, lt, band_nat, bor_nat, exSs, exS, evE.eq_1, evE.eq_2, evE.eq_3, evE.eq_4, evE.eq_5, evE.eq_6, evE.eq_7, evE.eq_8, evE.eq_9, evE.eq_10, evE.eq_11, evE.eq_12, evE.eq_13, evE.eq_14, evE.eq_15, evE.eq_16, evE.eq_17, evE.eq_18, evE.eq_19, evE.eq_20, evE.eq_21, evE.eq_22, evE.eq_23, evE.eq_24, evE.eq_25, evE.eq_26, evE.eq_27, evE.eq_28, evE.eq_31, evE.eq_32, evE.eq_33, evE.eq_34, evE.eq_35, evE.eq_36, evE.eq_37, evE.eq_38, evT, evL, evI, evC, evW, startF, setS, idxD, seqOf, ixN, binD, arI, setI, cmpD, intCmp, cmpI, truD, isAny, isD, isNo, pln, vw, eqD, biD, tidy_same, wipe])
end Lw
end
section
set_option maxRecDepth 100000
set_option maxHeartbeats 8000000
namespace Lw
open Ev Lg
def p2 (p : Nat) : Nat := 2 ^ p
def dN (f : Nat → Nat) : D → D
  | .int i => .int (f i.toNat : Nat)
  | _ => .non
theorem mapDN (f : Nat → Nat) (l : List Nat) : (ndl l).map (dN f) = ndl (l.map f) := by
  unfold ndl
  rw [List.map_map, List.map_map]
  rfl
theorem pl_more (n : Nat) {ns : List Int} {X : Store} {s : Nat} (hs : s ≤ 8) (y2 y3 y4 y5 y6 y9 y10 : Option D) :
    ∀ (l : List D) (L : List Nat) (k : Nat) (S : Store) (y8 : Option D), L.length + l.length ≤ 80 → QD ns (X ++ [.lst (ndl L)]) k S → k + 10 * l.length < 2 ^ 60 → (∀ x ∈ L, x < 2 ^ s) → ∃ (L' : List Nat) (S' : Store) (z8 : Option D),
      forL (.nm 8) (fun ρ S => exSs (csOf T (n + 1)) b18l0 ρ S) [] l [some (.ref 0), some (.int (s : Nat)), y2, y3, y4, y5, y6, some (.ref (X.length + 1)), y8, y9, y10] S = .nx [some (.ref 0), some (.int (s : Nat)), y2, y3, y4, y5, y6, some (.ref (X.length + 1)), z8, y9, y10] S' ∧
        QD ns (X ++ [.lst (ndl L')]) (k + 2 * l.length) S' ∧ L'.length = L.length + l.length ∧ ∀ x ∈ L', x < 2 ^ s
  | [], L, k, S, y8, _, q, _, hL => ⟨L, S, y8, forL_nil, q, rfl, hL⟩
  | d :: l, L, k, S, y8, hl, q, hk, hL => by
    simp only [List.length_cons] at hl hk
    obtain ⟨a, S1, e1, q1, a1⟩ := dqs q (by omega) hs n
    obtain ⟨b, S2, e2, q2, b1⟩ := dqs q1 (by omega) hs n
    obtain ⟨g5, g6⟩ := q2.get
    have g4 := q.get.1
    have lt : L.length < LIM := by unfold LIM; omega
    have s1 : (s : Int) ≤ 1000000 := by omega
    have q3 := g6 (.lst (ndl (L ++ [a &&& b]))) (ndl_below 0 _)
    obtain ⟨L', S', z8, e3, q4, h4, h5⟩ := pl_more n hs y2 y3 y4 y5 y6 y9 y10 l _ _ _ (some d) (by simp; omega) q3 (by omega) (fun x hx => by
      rcases List.mem_append.mp hx with hx | hx
      · exact hL x hx
      · rw [List.mem_singleton.mp hx]; exact Nat.and_lt_two_pow _ b1)
    refine ⟨L', S', z8, ?_, q4.mono (by simp only [List.length_cons]; omega), by rw [h4]; simp; omega, h5⟩
    rw [← e3, ndl_app]
    exact forL_nx rfl (by simp (dsimp := false) (implicitDefEqProofs := false) [b18l0, s1, e1, e2, bmOk, bmD, g4, g5, lt, band_nat, ndl_len, exSs, exS, evE.eq_1, evE.eq_2, evE.eq_3, evE.eq_4, evE.eq_5, evE.eq_6, evE.eq_7, evE.eq_8, evE.eq_9, evE.eq_10, evE.eq_11, evE.eq_12, evE.eq_13, evE.eq_14, evE.eq_15, evE.eq_16, evE.eq_17, evE.eq_18, evE.eq_19, evE.eq_20, evE.eq_21, evE.eq_22, evE.eq_23, evE.eq_24, evE.eq_25, evE.eq_26, evE.eq_27, evE.eq_28, evE.eq_31, evE.eq_32, evE.eq_33, evE.eq_34, evE.eq_35, evE.eq_36, evE.eq_37, evE.eq_38, evT, evL, evI, evC, evW, startF, setS, idxD, seqOf, ixN, binD, arI, setI, cmpD, intCmp, cmpI, truD, isAny, isD, isNo, pln, vw, eqD, biD, tidy_same, wipe])
theorem f_planted (n : Nat) {ns : List Int} {X : Store} {k : Nat} {S : Store} (q : QD ns X k S) (hk : k + 1000 < 2 ^ 60) {s : Nat} (hs : s ≤ 8) (wall : Bool) :
    ∃ (L : List Nat) (S' : Store), run T (n + 3) 18 [.ref 0, .int (s : Nat), .bl wall] S = .ok (.lst (ndl L)) S' ∧ QD ns X (k + 100) S' ∧ L.length ≤ 50 ∧ ∀ x ∈ L, x < 2 ^ s := by
  obtain ⟨π, S1, e1, q1, hπ⟩ := order n q (m := s) (by omega) (by omega)
  obtain ⟨a, S2, e2, q2, a1⟩ := dq q1 (by omega) (m := 5) (by decide) (by decide) (n + 1)
  obtain ⟨many, hmany⟩ : ∃ many, many = min s (3 + a) := ⟨_, rfl⟩
  have hm : many ≤ s := by omega
  have hmi : (if 3 + (a : Int) < s then 3 + (a : Int) else (s : Int)) = ((many : Nat) : Int) := by
    split <;> omega
  have av1 := take_sum hπ many
  obtain ⟨av, hav⟩ : ∃ av, av = ((π.take many).map fun p => 2 ^ p).sum := ⟨_, rfl⟩
  rw [← hav] at av1
  have hmv : 2 ^ s - 1 - av < 2 ^ s := by
    have := Nat.two_pow_pos s
    omega
  have hmvi : (2 : Int) ^ s - 1 - (av : Int) = ((2 ^ s - 1 - av : Nat) : Int) := by rw [castp]; omega
  generalize 2 ^ s - 1 - av = mv at hmv hmvi
  have q2' := q2.app (c := .lst (ndl [])) rfl
  obtain ⟨L1, S3, z8, z9, e3, q3, h3, h4⟩ := pl_ring (n + 1) hs wall hπ hm hav hmv none many 0 [] _ _ none none (by omega) (by simp; omega) q2' (by omega) (fun x hx => by simp at hx)
  obtain ⟨b, S4, e4, q4, b1⟩ := dq q3 (by omega) (m := 3) (by decide) (by decide) (n + 1)
  have hub : (upTo 0 b).length = b := by simp [upTo0]
  have h3' : L1.length = many := by rw [h3]; simp
  obtain ⟨L2, S5, w8, e5, q5, h5, h6⟩ := pl_more (n + 1) hs (some (.bl wall)) (some (.lst (ndl π))) (some (.int (many : Nat))) (some (.int (av : Nat))) (some (.int (mv : Nat))) z9 none (upTo 0 b) L1 _ _ z8 (by rw [hub]; omega) q4 (by rw [hub]; omega) h4
  rw [hub] at q5 h5
  obtain ⟨S6, rfl, q6⟩ := q5.un
  refine ⟨L2, S6, ?_, q6.mono (by omega), by omega, h6⟩
  have z0 : ((0 : Nat) : Int) = 0 := rfl
  rw [z0] at e3
  have hlen : π.length = s := by rw [hπ.length_eq, List.length_range]
  have c1 : cut (ndl π) none (some (many : Int)) = ndl (π.take many) := by
    rw [cut_lo _ _ (by rw [ndl_len]; omega)]
    unfold ndl; rw [List.map_take]
  have lim : (many : Int) ≤ LIM ∧ -(LIM : Int) ≤ many := by unfold LIM; omega
  have limb : (b : Int) ≤ LIM ∧ -(LIM : Int) ≤ b := by unfold LIM; omega
  have e6 := lc_map (C := csOf T (n + 2)) (own := [10]) (tg := .nm 10) (it := .seq (.slc false (.var 3) .no (.yes (.var 4)))) (e := b18e0) (ρ := [some (.ref 0), some (.int (s : Nat)), some (.bl wall), some (.lst (ndl π)), some (.int (many : Nat)), none, none, none, none, none, none]) (S := S2) (l := ndl (π.take many)) (g := []) (dN p2) (by simp (dsimp := false) (implicitDefEqProofs := false) [slcD, lstOf, mkL, c1, seqIt, Ev.guard, exSs, exS, evE.eq_1, evE.eq_2, evE.eq_3, evE.eq_4, evE.eq_5, evE.eq_6, evE.eq_7, evE.eq_8, evE.eq_9, evE.eq_10, evE.eq_11, evE.eq_12, evE.eq_13, evE.eq_14, evE.eq_15, evE.eq_16, evE.eq_17, evE.eq_18, evE.eq_19, evE.eq_20, evE.eq_21, evE.eq_22, evE.eq_23, evE.eq_24, evE.eq_25, evE.eq_26, evE.eq_27, evE.eq_28, evE.eq_31, evE.eq_32, evE.eq_33, evE.eq_34, evE.eq_35, evE.eq_36, evE.eq_37, evE.eq_38, evT, evL, evI, evC, evW, startF, setS, idxD, seqOf, ixN, binD, arI, setI, cmpD, intCmp, cmpI, truD, isAny, isD, isNo, pln, vw, eqD, biD, tidy_same, wipe]) (fun c => gOk_nil _) (fun d hd x => ⟨_, rfl, by
      obtain ⟨p, hp, rfl⟩ := List.mem_map.mp hd
      have p8 : p < s := List.mem_range.mp (hπ.mem_iff.mp (List.mem_of_mem_take hp))
      have p1 : (p : Int) ≤ 1000000 := by omega
      simp (dsimp := false) (implicitDefEqProofs := false) [b18e0, p1, p2, dN, exSs, exS, evE.eq_1, evE.eq_2, evE.eq_3, evE.eq_4, evE.eq_5, evE.eq_6, evE.eq_7, evE.eq_8, evE.eq_9, evE.eq_10, evE.eq_11, evE.eq_12, evE.eq_13, evE.eq_14, evE.eq_15, evE.eq_16, evE.eq_17, evE.eq_18, evE.eq_19, evE.eq_20, evE.eq_21, evE.eq_22, evE.eq_23, evE.eq_24, evE.eq_25, evE.eq_26, evE.eq_27, evE.eq_28, evE.eq_31, evE.eq_32, evE.eq_33, evE.eq_34, evE.eq_35, evE.eq_36, evE.eq_37, evE.eq_38, evT, evL, evI, evC, evW, startF, setS, idxD, seqOf, ixN, binD, arI, setI, cmpD, intCmp, cmpI, truD, isAny, isD, isNo, pln, vw, eqD, biD, tidy_same, wipe]⟩) (by rw [ndl_len]; exact lim_le (by simp; omega)) (by rw [mapDN p2]; exact ndl_below _ _)
  rw [mapDN p2] at e6
  have s1 : (s : Int) ≤ 1000000 := by omega
  have hsum : sumI (((π.take many).map p2).map fun m => ((m : Nat) : Int)) = (av : Int) := by rw [sumI_nd, hav]; rfl
  have ln := q2.len
  have e1' : run T (n + 2) 15 [.ref 0, .int (s : Nat)] S = .ok (.lst (ndl π)) S1 := e1
  have e3' := e3
  rw [show ndl [] = [] from rfl] at e3'
  rw [run_def (F := ⟨3, 11, b18, true⟩) rfl rfl]
  simp (dsimp := false) (implicitDefEqProofs := false) [b18, e1', e2, hmi, e6, lstOf, allInt_ndl, hsum, s1, hmvi, mkL, ln, rngIt, lim, e3', e4, limb, e5, -List.map_take, -List.map_map, exSs, exS, evE.eq_1, evE.eq_2, evE.eq_3, evE.eq_4, evE.eq_5, evE.eq_6, evE.eq_7, evE.eq_8, evE.eq_9, evE.eq_10, evE.eq_11, evE.eq_12, evE.eq_13, evE.eq_14, evE.eq_15, evE.eq_16, evE.eq_17, evE.eq_18, evE.eq_19, evE.eq_20, evE.eq_21, evE.eq_22, evE.eq_23, evE.eq_24, evE.eq_25, evE.eq_26, evE.eq_27, evE.eq_28, evE.eq_31, evE.eq_32, evE.eq_33, evE.eq_34, evE.eq_35, evE.eq_36, evE.eq_37, evE.eq_38, evT, evL, evI, evC, evW, startF, setS, idxD, seqOf, ixN, binD, arI, setI, cmpD, intCmp, cmpI, truD, isAny, isD, isNo, pln, vw, eqD, biD, tidy_same, wipe]
  rw [← q.len]
  exact q.tidy q6 (ndl_below 0 _)
end Lw
end
section
set_option maxRecDepth 100000
set_option maxHeartbeats 8000000
namespace Lw
open Ev Lg
theorem any_ndl (L : List Nat) (w : Nat) : ((ndl L).any fun x => eqD x (.int (w : Nat))) = decide (w ∈ L) := by
  induction L with
  | nil => rfl
  | cons x L ih =>
    show (eqD (.int (x : Nat)) (.int (w : Nat)) || (ndl L).any fun x => eqD x (.int (w : Nat))) = _
    rw [ih]
    simp only [eqD, List.mem_cons]
    by_cases h : x = w
    · subst h; simp
    · have h1 : ((x : Int) == (w : Int)) = false := beq_eq_false_iff_ne.mpr (by omega)
      have h2 : ¬ w = x := fun z => h z.symm
      simp [h1, h2]
theorem inD_nlst (w : Nat) (L : List Nat) (S : Store) : inD (.int (w : Nat)) (.lst (ndl L)) S = some (decide (w ∈ L)) := by
  simp only [inD, lstOf, vw, ndl_pln, any_ndl]
  simp [pln]
theorem inD_nref {i : Nat} {L : List Nat} {S : Store} (h : S[i]? = some (.lst (ndl L))) (w : Nat) : inD (.int (w : Nat)) (.ref i) S = some (decide (w ∈ L)) := by
  simp only [inD, lstOf, h, vw, ndl_pln, any_ndl]
  simp [pln]
def G5 : Sts := .cons (.ife (.and (.cmp .gt (.var 7) (.int 0)) (.cmp .notIn (.var 7) (.var 3))) (.cons (.ex (.bm .append (.var 3) (.cons (.var 7) .nil))) .nil) .nil) .nil
def dr : Ex := .call 14 (.cons (.var 0) (.cons (.bin .shl false (.int 1) (.var 1)) .nil))
def G4 : Sts := .cons (.ife (.and (.var 5) (.cmp .gt (.bi .len false (.cons (.var 3) .nil)) (.int 0)))
    (.cons (.asg 7 (.bin .bor false (.var 7) (.bin .band false (.idx (.var 3) (.neg (.int 1))) (.bin .bor false dr dr)))) .nil)
    (.cons (.ife (.cmp .gt (.bi .len false (.cons (.var 3) .nil)) (.int 0))
      (.cons (.asg 7 (.bin .bor false (.var 7) (.bin .band false (.idx (.var 3) (.call 14 (.cons (.var 0) (.cons (.bi .len false (.cons (.var 3) .nil)) .nil)))) dr))) .nil) .nil) .nil)) G5
def G3 : Sts := .cons (.asg 4 (.bin .sub false (.var 4) (.var 7))) G4
def G2 : Sts := .cons (.ife (.or (.var 5) (.cmp .eq (.call 14 (.cons (.var 0) (.cons (.int 2) .nil))) (.int 0))) (.cons (.asg 7 (.bin .band false (.var 7) dr)) .nil) .nil) G3
theorem g_eq : b19l0 = .cons (.asg 7 (.bin .band false (.var 4) dr)) G2 := rfl
section
variable (n : Nat) {ns : List Int} {X : Store} {s : Nat} (hs : s ≤ 8) (y2 y6 : Option D) (deep : Bool)
include hs
theorem gr5 (y4 : Option D) {L : List Nat} {k : Nat} {S : Store} {w : Nat} (q : QD ns (X ++ [.lst (ndl L)]) k S) (hw : w < 2 ^ s) (hL : ∀ x ∈ L, x < 2 ^ s) (hl : L.length ≤ 50) : ∃ (L' : List Nat) (S' : Store),
    exSs (csOf T (n + 1)) G5 [some (.ref 0), some (.int (s : Nat)), y2, some (.ref (X.length + 1)), y4, some (.bl deep), y6, some (.int (w : Nat))] S = .nx [some (.ref 0), some (.int (s : Nat)), y2, some (.ref (X.length + 1)), y4, some (.bl deep), y6, some (.int (w : Nat))] S' ∧ QD ns (X ++ [.lst (ndl L')]) k S' ∧ L'.length ≤ L.length + 1 ∧ ∀ x ∈ L', x < 2 ^ s := by
  obtain ⟨g1, g2⟩ := q.get
  have e1 := inD_nref g1 w
  have lt : L.length < LIM := by unfold LIM; omega
  by_cases h0 : 0 < w
  · by_cases h1 : w ∈ L
    · refine ⟨L, S, ?_, q, by omega, hL⟩
      simp (dsimp := false) (implicitDefEqProofs := false) [G5, h0, e1, h1, exSs, exS, evE.eq_1, evE.eq_2, evE.eq_3, evE.eq_4, evE.eq_5, evE.eq_6, evE.eq_7, evE.eq_8, evE.eq_9, evE.eq_10, evE.eq_11, evE.eq_12, evE.eq_13, evE.eq_14, evE.eq_15, evE.eq_16, evE.eq_17, evE.eq_18, evE.eq_19, evE.eq_20, evE.eq_21, evE.eq_22, evE.eq_23, evE.eq_24, evE.eq_25, evE.eq_26, evE.eq_27, evE.eq_28, evE.eq_31, evE.eq_32, evE.eq_33, evE.eq_34, evE.eq_35, evE.eq_36, evE.eq_37, evE.eq_38, evT, evL, evI, evC, evW, startF, setS, idxD, seqOf, ixN, binD, arI, setI, cmpD, intCmp, cmpI, truD, isAny, isD, isNo, pln, vw, eqD, biD, tidy_same, wipe]
    · refine ⟨L ++ [w], _, ?_, g2 (.lst (ndl (L ++ [w]))) (ndl_below 0 _), by simp, fun x hx => by
        rcases List.mem_append.mp hx with hx | hx
        · exact hL x hx
        · rw [List.mem_singleton.mp hx]; exact hw⟩
      simp (dsimp := false) (implicitDefEqProofs := false) [G5, h0, e1, h1, bmOk, bmD, g1, ndl_len, lt, ndl_app, exSs, exS, evE.eq_1, evE.eq_2, evE.eq_3, evE.eq_4, evE.eq_5, evE.eq_6, evE.eq_7, evE.eq_8, evE.eq_9, evE.eq_10, evE.eq_11, evE.eq_12, evE.eq_13, evE.eq_14, evE.eq_15, evE.eq_16, evE.eq_17, evE.eq_18, evE.eq_19, evE.eq_20, evE.eq_21, evE.eq_22, evE.eq_23, evE.eq_24, evE.eq_25, evE.eq_26, evE.eq_27, evE.eq_28, evE.eq_31, evE.eq_32, evE.eq_33, evE.eq_34, evE.eq_35, evE.eq_36, evE.eq_37, evE.eq_38, evT, evL, evI, evC, evW, startF, setS, idxD, seqOf, ixN, binD, arI, setI, cmpD, intCmp, cmpI, truD, isAny, isD, isNo, pln, vw, eqD, biD, tidy_same, wipe]
  · refine ⟨L, S, ?_, q, by omega, hL⟩
    simp (dsimp := false) (implicitDefEqProofs := false) [G5, h0, e1, exSs, exS, evE.eq_1, evE.eq_2, evE.eq_3, evE.eq_4, evE.eq_5, evE.eq_6, evE.eq_7, evE.eq_8, evE.eq_9, evE.eq_10, evE.eq_11, evE.eq_12, evE.eq_13, evE.eq_14, evE.eq_15, evE.eq_16, evE.eq_17, evE.eq_18, evE.eq_19, evE.eq_20, evE.eq_21, evE.eq_22, evE.eq_23, evE.eq_24, evE.eq_25, evE.eq_26, evE.eq_27, evE.eq_28, evE.eq_31, evE.eq_32, evE.eq_33, evE.eq_34, evE.eq_35, evE.eq_36, evE.eq_37, evE.eq_38, evT, evL, evI, evC, evW, startF, setS, idxD, seqOf, ixN, binD, arI, setI, cmpD, intCmp, cmpI, truD, isAny, isD, isNo, pln, vw, eqD, biD, tidy_same, wipe]
theorem gr4 (y4 : Option D) {L : List Nat} {k : Nat} {S : Store} {w : Nat} (q : QD ns (X ++ [.lst (ndl L)]) k S) (hk : k < 2 ^ 60) (hw : w < 2 ^ s) (hL : ∀ x ∈ L, x < 2 ^ s) (hl : L.length ≤ 50) : ∃ (L' : List Nat) (S' : Store) (w' : Nat),
    exSs (csOf T (n + 1)) G4 [some (.ref 0), some (.int (s : Nat)), y2, some (.ref (X.length + 1)), y4, some (.bl deep), y6, some (.int (w : Nat))] S = .nx [some (.ref 0), some (.int (s : Nat)), y2, some (.ref (X.length + 1)), y4, some (.bl deep), y6, some (.int (w' : Nat))] S' ∧ QD ns (X ++ [.lst (ndl L')]) (k + 2) S' ∧ L'.length ≤ L.length + 1 ∧ ∀ x ∈ L', x < 2 ^ s := by
  have g1 := q.get.1
  have s1 : (s : Int) ≤ 1000000 := by omega
  rcases Nat.eq_zero_or_pos L.length with h0 | h0
  · obtain ⟨L', S', e, q', h1, h2⟩ := gr5 n hs y2 y6 deep y4 q hw hL hl
    refine ⟨L', S', w, ?_, q'.mono (by omega), h1, h2⟩
    have h0' : ¬ 0 < L.length := by omega
    cases deep <;> simp (dsimp := false) (implicitDefEqProofs := false) [G4, g1, ndl_len, h0', e, exSs, exS, evE.eq_1, evE.eq_2, evE.eq_3, evE.eq_4, evE.eq_5, evE.eq_6, evE.eq_7, evE.eq_8, evE.eq_9, evE.eq_10, evE.eq_11, evE.eq_12, evE.eq_13, evE.eq_14, evE.eq_15, evE.eq_16, evE.eq_17, evE.eq_18, evE.eq_19, evE.eq_20, evE.eq_21, evE.eq_22, evE.eq_23, evE.eq_24, evE.eq_25, evE.eq_26, evE.eq_27, evE.eq_28, evE.eq_31, evE.eq_32, evE.eq_33, evE.eq_34, evE.eq_35, evE.eq_36, evE.eq_37, evE.eq_38, evT, evL, evI, evC, evW, startF, setS, idxD, seqOf, ixN, binD, arI, setI, cmpD, intCmp, cmpI, truD, isAny, isD, isNo, pln, vw, eqD, biD, tidy_same, wipe]
  · cases deep with
    | true =>
      obtain ⟨a, S1, e1, q1, a1⟩ := dqs q (by omega) hs n
      obtain ⟨b, S2, e2, q2, b1⟩ := dqs q1 (by omega) hs n
      have ix : L.length - 1 < L.length := by omega
      have g3 := ndl_get ix
      have lm : L.getD (L.length - 1) 0 < 2 ^ s := hL _ (getD_mem ix)
      generalize L.getD (L.length - 1) 0 = v at g3 lm
      have hw2 : w ||| (v &&& (a ||| b)) < 2 ^ s := Nat.or_lt_two_pow hw (Nat.lt_of_le_of_lt Nat.and_le_left lm)
      obtain ⟨L', S', e, q', h1, h2⟩ := gr5 n hs y2 y6 true y4 q2 hw2 hL hl
      refine ⟨L', S', w ||| (v &&& (a ||| b)), ?_, q', h1, h2⟩
      have i1 : -(L.length : Int) ≤ -1 := by omega
      have i2 : (-1 + (L.length : Int)).toNat = L.length - 1 := by omega
      have i3 : (1 : Int) ≤ L.length := by omega
      simp (dsimp := false) (implicitDefEqProofs := false) [G4, dr, g1, ndl_len, h0, i1, i2, i3, g3, s1, e1, e2, bor_nat, band_nat, e, exSs, exS, evE.eq_1, evE.eq_2, evE.eq_3, evE.eq_4, evE.eq_5, evE.eq_6, evE.eq_7, evE.eq_8, evE.eq_9, evE.eq_10, evE.eq_11, evE.eq_12, evE.eq_13, evE.eq_14, evE.eq_15, evE.eq_16, evE.eq_17, evE.eq_18, evE.eq_19, evE.eq_20, evE.eq_21, evE.eq_22, evE.eq_23, evE.eq_24, evE.eq_25, evE.eq_26, evE.eq_27, evE.eq_28, evE.eq_31, evE.eq_32, evE.eq_33, evE.eq_34, evE.eq_35, evE.eq_36, evE.eq_37, evE.eq_38, evT, evL, evI, evC, evW, startF, setS, idxD, seqOf, ixN, binD, arI, setI, cmpD, intCmp, cmpI, truD, isAny, isD, isNo, pln, vw, eqD, biD, tidy_same, wipe]
    | false =>
      obtain ⟨a, S1, e1, q1, a1⟩ := dq q (by omega) (m := (L.length : Int)) (by omega) (by omega) n
      obtain ⟨b, S2, e2, q2, b1⟩ := dqs q1 (by omega) hs n
      have ix : a < L.length := by omega
      have g3 := ndl_get ix
      have g4 := q1.get.1
      have lm : L.getD a 0 < 2 ^ s := hL _ (getD_mem ix)
      generalize L.getD a 0 = v at g3 lm
      have hw2 : w ||| (v &&& b) < 2 ^ s := Nat.or_lt_two_pow hw (Nat.lt_of_le_of_lt Nat.and_le_left lm)
      obtain ⟨L', S', e, q', h1, h2⟩ := gr5 n hs y2 y6 false y4 q2 hw2 hL hl
      refine ⟨L', S', w ||| (v &&& b), ?_, q', h1, h2⟩
      have g3' : ∀ h : a < (ndl L).length, (ndl L)[a]'h = D.int (v : Nat) := by
        intro h
        rw [List.getElem?_eq_getElem h] at g3
        exact Option.some.inj g3
      simp (dsimp := false) (implicitDefEqProofs := false) [G4, dr, g1, g4, ndl_len, h0, g3', ix, s1, e1, e2, bor_nat, band_nat, e, exSs, exS, evE.eq_1, evE.eq_2, evE.eq_3, evE.eq_4, evE.eq_5, evE.eq_6, evE.eq_7, evE.eq_8, evE.eq_9, evE.eq_10, evE.eq_11, evE.eq_12, evE.eq_13, evE.eq_14, evE.eq_15, evE.eq_16, evE.eq_17, evE.eq_18, evE.eq_19, evE.eq_20, evE.eq_21, evE.eq_22, evE.eq_23, evE.eq_24, evE.eq_25, evE.eq_26, evE.eq_27, evE.eq_28, evE.eq_31, evE.eq_32, evE.eq_33, evE.eq_34, evE.eq_35, evE.eq_36, evE.eq_37, evE.eq_38, evT, evL, evI, evC, evW, startF, setS, idxD, seqOf, ixN, binD, arI, setI, cmpD, intCmp, cmpI, truD, isAny, isD, isNo, pln, vw, eqD, biD, tidy_same, wipe]
theorem gr3 {f : Nat} (hf : f < 2 ^ s) {L : List Nat} {k : Nat} {S : Store} {w : Nat} (hwf : w ≤ f) (q : QD ns (X ++ [.lst (ndl L)]) k S) (hk : k < 2 ^ 60) (hL : ∀ x ∈ L, x < 2 ^ s) (hl : L.length ≤ 50) : ∃ (L' : List Nat) (S' : Store) (w' f' : Nat),
    exSs (csOf T (n + 1)) G3 [some (.ref 0), some (.int (s : Nat)), y2, some (.ref (X.length + 1)), some (.int (f : Nat)), some (.bl deep), y6, some (.int (w : Nat))] S = .nx [some (.ref 0), some (.int (s : Nat)), y2, some (.ref (X.length + 1)), some (.int (f' : Nat)), some (.bl deep), y6, some (.int (w' : Nat))] S' ∧ f' < 2 ^ s ∧ QD ns (X ++ [.lst (ndl L')]) (k + 2) S' ∧ L'.length ≤ L.length + 1 ∧ ∀ x ∈ L', x < 2 ^ s := by
  obtain ⟨L', S', w', e, q', h1, h2⟩ := gr4 n hs y2 y6 deep (some (.int (f - w : Nat))) q hk (Nat.lt_of_le_of_lt hwf hf) hL hl
  refine ⟨L', S', w', f - w, ?_, Nat.lt_of_le_of_lt (Nat.sub_le _ _) hf, q', h1, h2⟩
  have c : (f : Int) - (w : Int) = ((f - w : Nat) : Int) := by omega
  simp (dsimp := false) (implicitDefEqProofs := false) [G3, c, e, exSs, exS, evE.eq_1, evE.eq_2, evE.eq_3, evE.eq_4, evE.eq_5, evE.eq_6, evE.eq_7, evE.eq_8, evE.eq_9, evE.eq_10, evE.eq_11, evE.eq_12, evE.eq_13, evE.eq_14, evE.eq_15, evE.eq_16, evE.eq_17, evE.eq_18, evE.eq_19, evE.eq_20, evE.eq_21, evE.eq_22, evE.eq_23, evE.eq_24, evE.eq_25, evE.eq_26, evE.eq_27, evE.eq_28, evE.eq_31, evE.eq_32, evE.eq_33, evE.eq_34, evE.eq_35, evE.eq_36, evE.eq_37, evE.eq_38, evT, evL, evI, evC, evW, startF, setS, idxD, seqOf, ixN, binD, arI, setI, cmpD, intCmp, cmpI, truD, isAny, isD, isNo, pln, vw, eqD, biD, tidy_same, wipe]
theorem gr2 {f : Nat} (hf : f < 2 ^ s) {L : List Nat} {k : Nat} {S : Store} {w : Nat} (hwf : w ≤ f) (q : QD ns (X ++ [.lst (ndl L)]) k S) (hk : k + 10 < 2 ^ 60) (hL : ∀ x ∈ L, x < 2 ^ s) (hl : L.length ≤ 50) : ∃ (L' : List Nat) (S' : Store) (w' f' : Nat),
    exSs (csOf T (n + 1)) G2 [some (.ref 0), some (.int (s : Nat)), y2, some (.ref (X.length + 1)), some (.int (f : Nat)), some (.bl deep), y6, some (.int (w : Nat))] S = .nx [some (.ref 0), some (.int (s : Nat)), y2, some (.ref (X.length + 1)), some (.int (f' : Nat)), some (.bl deep), y6, some (.int (w' : Nat))] S' ∧ f' < 2 ^ s ∧ QD ns (X ++ [.lst (ndl L')]) (k + 4) S' ∧ L'.length ≤ L.length + 1 ∧ ∀ x ∈ L', x < 2 ^ s := by
  have s1 : (s : Int) ≤ 1000000 := by omega
  cases deep with
  | true =>
    obtain ⟨a, S1, e1, q1, a1⟩ := dqs q (by omega) hs n
    obtain ⟨L', S', w', f', e, h0, q', h1, h2⟩ := gr3 n hs y2 y6 true hf (w := w &&& a) (Nat.le_trans Nat.and_le_left hwf) q1 (by omega) hL hl
    exact ⟨L', S', w', f', by simp (dsimp := false) (implicitDefEqProofs := false) [G2, dr, s1, e1, band_nat, e, exSs, exS, evE.eq_1, evE.eq_2, evE.eq_3, evE.eq_4, evE.eq_5, evE.eq_6, evE.eq_7, evE.eq_8, evE.eq_9, evE.eq_10, evE.eq_11, evE.eq_12, evE.eq_13, evE.eq_14, evE.eq_15, evE.eq_16, evE.eq_17, evE.eq_18, evE.eq_19, evE.eq_20, evE.eq_21, evE.eq_22, evE.eq_23, evE.eq_24, evE.eq_25, evE.eq_26, evE.eq_27, evE.eq_28, evE.eq_31, evE.eq_32, evE.eq_33, evE.eq_34, evE.eq_35, evE.eq_36, evE.eq_37, evE.eq_38, evT, evL, evI, evC, evW, startF, setS, idxD, seqOf, ixN, binD, arI, setI, cmpD, intCmp, cmpI, truD, isAny, isD, isNo, pln, vw, eqD, biD, tidy_same, wipe], h0, q'.mono (by omega), h1, h2⟩
  | false =>
    obtain ⟨c, S0, e0, q0, c1⟩ := dq q (by omega) (m := 2) (by decide) (by decide) n
    rcases Nat.eq_zero_or_pos c with hc | hc
    · subst hc
      obtain ⟨a, S1, e1, q1, a1⟩ := dqs q0 (by omega) hs n
      obtain ⟨L', S', w', f', e, h0, q', h1, h2⟩ := gr3 n hs y2 y6 false hf (w := w &&& a) (Nat.le_trans Nat.and_le_left hwf) q1 (by omega) hL hl
      have e0' : run T (n + 1) 14 [.ref 0, .int 2] S = .ok (.int 0) S0 := e0
      exact ⟨L', S', w', f', by simp (dsimp := false) (implicitDefEqProofs := false) [G2, dr, s1, e0', e1, band_nat, e, exSs, exS, evE.eq_1, evE.eq_2, evE.eq_3, evE.eq_4, evE.eq_5, evE.eq_6, evE.eq_7, evE.eq_8, evE.eq_9, evE.eq_10, evE.eq_11, evE.eq_12, evE.eq_13, evE.eq_14, evE.eq_15, evE.eq_16, evE.eq_17, evE.eq_18, evE.eq_19, evE.eq_20, evE.eq_21, evE.eq_22, evE.eq_23, evE.eq_24, evE.eq_25, evE.eq_26, evE.eq_27, evE.eq_28, evE.eq_31, evE.eq_32, evE.eq_33, evE.eq_34, evE.eq_35, evE.eq_36, evE.eq_37, evE.eq_38, evT, evL, evI, evC, evW, startF, setS, idxD, seqOf, ixN, binD, arI, setI, cmpD, intCmp, cmpI, truD, isAny, isD, isNo, pln, vw, eqD, biD, tidy_same, wipe], h0, q'.mono (by omega), h1, h2⟩
    · obtain ⟨L', S', w', f', e, h0, q', h1, h2⟩ := gr3 n hs y2 y6 false hf hwf q0 (by omega) hL hl
      have hc' : ((c : Int) == 0) = false := beq_eq_false_iff_ne.mpr (by omega)
      exact ⟨L', S', w', f', by simp (dsimp := false) (implicitDefEqProofs := false) [G2, dr, s1, e0, hc', e, exSs, exS, evE.eq_1, evE.eq_2, evE.eq_3, evE.eq_4, evE.eq_5, evE.eq_6, evE.eq_7, evE.eq_8, evE.eq_9, evE.eq_10, evE.eq_11, evE.eq_12, evE.eq_13, evE.eq_14, evE.eq_15, evE.eq_16, evE.eq_17, evE.eq_18, evE.eq_19, evE.eq_20, evE.eq_21, evE.eq_22, evE.eq_23, evE.eq_24, evE.eq_25, evE.eq_26, evE.eq_27, evE.eq_28, evE.eq_31, evE.eq_32, evE.eq_33, evE.eq_34, evE.eq_35, evE.eq_36, evE.eq_37, evE.eq_38, evT, evL, evI, evC, evW, startF, setS, idxD, seqOf, ixN, binD, arI, setI, cmpD, intCmp, cmpI, truD, isAny, isD, isNo, pln, vw, eqD, biD, tidy_same, wipe], h0, q'.mono (by omega), h1, h2⟩
end
theorem gr_loop (n : Nat) {ns : List Int} {X : Store} {s : Nat} (hs : s ≤ 8) (y2 : Option D) (deep : Bool) : ∀ (l : List D) (f : Nat) (L : List Nat) (k : Nat) (S : Store) (y6 y7 : Option D), f < 2 ^ s → QD ns (X ++ [.lst (ndl L)]) k S → k + 10 * l.length + 10 < 2 ^ 60 → (∀ x ∈ L, x < 2 ^ s) → L.length + l.length ≤ 50 → ∃ (L' : List Nat) (S' : Store) (f' : Nat) (z6 z7 : Option D),
    forL (.nm 6) (fun ρ S => exSs (csOf T (n + 1)) b19l0 ρ S) [] l [some (.ref 0), some (.int (s : Nat)), y2, some (.ref (X.length + 1)), some (.int (f : Nat)), some (.bl deep), y6, y7] S = .nx [some (.ref 0), some (.int (s : Nat)), y2, some (.ref (X.length + 1)), some (.int (f' : Nat)), some (.bl deep), z6, z7] S' ∧
      QD ns (X ++ [.lst (ndl L')]) (k + 10 * l.length) S' ∧ L'.length ≤ L.length + l.length ∧ ∀ x ∈ L', x < 2 ^ s
  | [], f, L, k, S, y6, y7, hf, q, hk, hL, hl => ⟨L, S, f, y6, y7, forL_nil, q, Nat.le_refl _, hL⟩
  | d :: l, f, L, k, S, y6, y7, hf, q, hk, hL, hl => by
    simp only [List.length_cons] at hk hl
    have s1 : (s : Int) ≤ 1000000 := by omega
    obtain ⟨a, S1, e1, q1, a1⟩ := dqs q (by omega) hs n
    obtain ⟨L1, S2, w, f', e2, hf', q2, h1, h2⟩ := gr2 n hs y2 (some d) deep hf (w := f &&& a) Nat.and_le_left q1 (by omega) hL (by omega)
    obtain ⟨L', S', f'', z6, z7, e3, q3, h3, h4⟩ := gr_loop n hs y2 deep l f' L1 _ S2 (some d) (some (.int (w : Nat))) hf' (q2.mono (k' := k + 10) (by omega)) (by omega) h2 (by omega)
    refine ⟨L', S', f'', z6, z7, ?_, q3.mono (by simp only [List.length_cons]; omega), by simp only [List.length_cons]; omega, h4⟩
    rw [← e3]
    exact forL_nx rfl (by rw [g_eq]; simp (dsimp := false) (implicitDefEqProofs := false) [dr, s1, e1, band_nat, e2, exSs, exS, evE.eq_1, evE.eq_2, evE.eq_3, evE.eq_4, evE.eq_5, evE.eq_6, evE.eq_7, evE.eq_8, evE.eq_9, evE.eq_10, evE.eq_11, evE.eq_12, evE.eq_13, evE.eq_14, evE.eq_15, evE.eq_16, evE.eq_17, evE.eq_18, evE.eq_19, evE.eq_20, evE.eq_21, evE.eq_22, evE.eq_23, evE.eq_24, evE.eq_25, evE.eq_26, evE.eq_27, evE.eq_28, evE.eq_31, evE.eq_32, evE.eq_33, evE.eq_34, evE.eq_35, evE.eq_36, evE.eq_37, evE.eq_38, evT, evL, evI, evC, evW, startF, setS, idxD, seqOf, ixN, binD, arI, setI, cmpD, intCmp, cmpI, truD, isAny, isD, isNo, pln, vw, eqD, biD, tidy_same, wipe])
theorem f_grown (n : Nat) {ns : List Int} {X : Store} {k : Nat} {S : Store} (q : QD ns X k S) (hk : k + 1000 < 2 ^ 60) {s : Nat} (hs : s ≤ 8) {m : Nat} (hm : m ≤ 40) :
    ∃ (L : List Nat) (S' : Store), run T (n + 2) 19 [.ref 0, .int (s : Nat), .int (m : Nat)] S = .ok (.lst (ndl L)) S' ∧ QD ns X (k + 500) S' ∧ L.length ≤ 50 ∧ ∀ x ∈ L, x < 2 ^ s := by
  have q0 := q.app (c := .lst (ndl [])) rfl
  obtain ⟨c, S1, e1, q1, c1⟩ := dq q0 (by omega) (m := 3) (by decide) (by decide) n
  have hu : (upTo 0 m).length = m := by simp [upTo0]
  have f0 : 2 ^ s - 1 < 2 ^ s := by
    have := Nat.two_pow_pos s
    omega
  obtain ⟨L, S2, f', z6, z7, e2, q2, h1, h2⟩ := gr_loop n hs (some (.int (m : Nat))) (decide (c = 0)) (upTo 0 m) (2 ^ s - 1) [] _ S1 none none f0 q1 (by rw [hu]; omega) (fun x hx => by simp at hx) (by rw [hu]; simp; omega)
  rw [hu] at q2 h1
  obtain ⟨S3, rfl, q3⟩ := q2.un
  refine ⟨L, S3, ?_, q3.mono (by omega), by simp at h1; omega, h2⟩
  have s1 : (s : Int) ≤ 1000000 := by omega
  have lim : (m : Int) ≤ LIM ∧ -(LIM : Int) ≤ m := by unfold LIM; omega
  have ln := q.len
  have c2 : (2 : Int) ^ s - 1 = ((2 ^ s - 1 : Nat) : Int) := by rw [castp]; have := Nat.two_pow_pos s; omega
  have c3 : ((c : Int) == 0) = decide (c = 0) := by
    by_cases h : c = 0
    · subst h; rfl
    · have : ((c : Int) == 0) = false := beq_eq_false_iff_ne.mpr (by omega)
      rw [this]; simp [h]
  rw [show ndl [] = [] from rfl] at e1
  rw [run_def (F := ⟨3, 8, b19, true⟩) rfl rfl]
  simp (dsimp := false) (implicitDefEqProofs := false) [b19, mkL, s1, c2, ln, e1, c3, rngIt, lim, e2, -decide_eq_true_eq, exSs, exS, evE.eq_1, evE.eq_2, evE.eq_3, evE.eq_4, evE.eq_5, evE.eq_6, evE.eq_7, evE.eq_8, evE.eq_9, evE.eq_10, evE.eq_11, evE.eq_12, evE.eq_13, evE.eq_14, evE.eq_15, evE.eq_16, evE.eq_17, evE.eq_18, evE.eq_19, evE.eq_20, evE.eq_21, evE.eq_22, evE.eq_23, evE.eq_24, evE.eq_25, evE.eq_26, evE.eq_27, evE.eq_28, evE.eq_31, evE.eq_32, evE.eq_33, evE.eq_34, evE.eq_35, evE.eq_36, evE.eq_37, evE.eq_38, evT, evL, evI, evC, evW, startF, setS, idxD, seqOf, ixN, binD, arI, setI, cmpD, intCmp, cmpI, truD, isAny, isD, isNo, pln, vw, eqD, biD, tidy_same, wipe]
  rw [← q.len]
  exact q.tidy q3 (ndl_below 0 _)
end Lw
end
section
set_option maxRecDepth 100000
set_option maxHeartbeats 8000000
namespace Lw
open Ev Lg
def FI : St := .ife (.cmp .eq (.var 3) (.int 0))
    (.cons (.asg 4 (.lc false [6] (.nm 6) (.rng (.cons (.call 14 (.cons (.var 0) (.cons (.bin .add false (.var 2) (.int 1)) .nil))) .nil)) .no b20e0)) .nil)
    (.cons (.ife (.cmp .eq (.var 3) (.int 1))
      (.cons (.asg 4 (.lc false [6] (.nm 6) (.rng (.cons (.bin .add false (.var 2) (.int 1)) .nil)) .no b20e1)) .nil)
      (.cons (.ife (.cmp .lt (.var 3) (.int 4))
        (.cons (.asg 4 (.call 18 (.cons (.var 0) (.cons (.var 1) (.cons (.cmp .eq (.var 3) (.int 3)) .nil))))) .nil)
        (.cons (.asg 4 (.call 19 (.cons (.var 0) (.cons (.var 1) (.cons (.bin .add false (.int 1) (.call 14 (.cons (.var 0) (.cons (.var 2) .nil)))) .nil))))) .nil)) .nil)) .nil)
def FR : Sts := .cons (.asg 5 (.lst true .nil)) (.cons (.forr (.nm 6) (.seq (.call 15 (.cons (.var 0) (.cons (.bi .len false (.cons (.var 4) .nil)) .nil)))) b20l0) (.cons (.ret (.var 5)) .nil))
theorem fam_eq : b20 = .cons (.asg 3 (.call 14 (.cons (.var 0) (.cons (.int 6) .nil)))) (.cons (.asg 4 (.lst false .nil)) (.cons FI FR)) := rfl
theorem fam_if (n : Nat) {ns : List Int} {X : Store} {k : Nat} {S : Store} (q : QD ns X k S) (hk : k + 3000 < 2 ^ 60) {s : Nat} (hs : s ≤ 8) (c : Nat) : ∃ (L : List Nat) (S' : Store),
    exS (csOf T (n + 3)) FI [some (.ref 0), some (.int (s : Nat)), some (.int 8), some (.int (c : Nat)), some (.lst []), none, none] S = .nx [some (.ref 0), some (.int (s : Nat)), some (.int 8), some (.int (c : Nat)), some (.lst (ndl L)), none, none] S' ∧ QD ns X (k + 600) S' ∧ L.length ≤ 50 ∧ ∀ x ∈ L, x < 2 ^ s := by
  have s1 : (s : Int) ≤ 1000000 := by omega
  rcases Nat.eq_zero_or_pos c with h0 | h0
  · subst h0
    obtain ⟨m, S1, e1, q1, m1⟩ := dq q (by omega) (m := 9) (by decide) (by decide) (n + 2)
    have lim : (m : Int) ≤ LIM ∧ -(LIM : Int) ≤ m := by unfold LIM; omega
    have hw : evW (csOf T (n + 3)) (.rng (.cons (.call 14 (.cons (.var 0) (.cons (.bin .add false (.var 2) (.int 1)) .nil))) .nil)) [some (.ref 0), some (.int (s : Nat)), some (.int 8), some (.int ((0 : Nat) : Int)), some (.lst []), none, none] S = .ok (upTo 0 m, []) S1 := by
      simp (dsimp := false) (implicitDefEqProofs := false) [e1, rngIt, lim, exSs, exS, evE.eq_1, evE.eq_2, evE.eq_3, evE.eq_4, evE.eq_5, evE.eq_6, evE.eq_7, evE.eq_8, evE.eq_9, evE.eq_10, evE.eq_11, evE.eq_12, evE.eq_13, evE.eq_14, evE.eq_15, evE.eq_16, evE.eq_17, evE.eq_18, evE.eq_19, evE.eq_20, evE.eq_21, evE.eq_22, evE.eq_23, evE.eq_24, evE.eq_25, evE.eq_26, evE.eq_27, evE.eq_28, evE.eq_31, evE.eq_32, evE.eq_33, evE.eq_34, evE.eq_35, evE.eq_36, evE.eq_37, evE.eq_38, evT, evL, evI, evC, evW, startF, setS, idxD, seqOf, ixN, binD, arI, setI, cmpD, intCmp, cmpI, truD, isAny, isD, isNo, pln, vw, eqD, biD, tidy_same, wipe]
    have q1' := q1
    have hu : (upTo 0 m).length = m := by simp [upTo0]
    -- the draws behind the first one
    have q2 := q1.app (c := .lst (ndl [])) rfl
    obtain ⟨L, S2, e2, q3, h1, h2⟩ := lc_draw (C := csOf T (n + 3)) (i := 6) (e := b20e0) (ρ := wipe [some (.ref 0), some (.int (s : Nat)), some (.int 8), some (.int ((0 : Nat) : Int)), some (.lst []), none, none] [6]) (P := fun x => x < 2 ^ s) 1 (by decide) (fun d Y k S q hk => by
      obtain ⟨a, S', e, q', a1⟩ := dqs q (by omega) hs (n + 2)
      exact ⟨a, S', by simp (dsimp := false) (implicitDefEqProofs := false) [b20e0, s1, e, exSs, exS, evE.eq_1, evE.eq_2, evE.eq_3, evE.eq_4, evE.eq_5, evE.eq_6, evE.eq_7, evE.eq_8, evE.eq_9, evE.eq_10, evE.eq_11, evE.eq_12, evE.eq_13, evE.eq_14, evE.eq_15, evE.eq_16, evE.eq_17, evE.eq_18, evE.eq_19, evE.eq_20, evE.eq_21, evE.eq_22, evE.eq_23, evE.eq_24, evE.eq_25, evE.eq_26, evE.eq_27, evE.eq_28, evE.eq_31, evE.eq_32, evE.eq_33, evE.eq_34, evE.eq_35, evE.eq_36, evE.eq_37, evE.eq_38, evT, evL, evI, evC, evW, startF, setS, idxD, seqOf, ixN, binD, arI, setI, cmpD, intCmp, cmpI, truD, isAny, isD, isNo, pln, vw, eqD, biD, tidy_same, wipe], q', a1⟩) X (upTo 0 m) [] _ _ q2 (by rw [hu]; omega) (by rw [hu]; simp; omega) (fun x hx => by simp at hx)
    obtain ⟨S3, e3, q4⟩ := lcE_draw q1 q3
    rw [hu] at q4 h1
    refine ⟨L, S3, ?_, q4.mono (by omega), by simp at h1; omega, h2⟩
    have e4 : evE (csOf T (n + 3)) (.lc false [6] (.nm 6) (.rng (.cons (.call 14 (.cons (.var 0) (.cons (.bin .add false (.var 2) (.int 1)) .nil))) .nil)) .no b20e0) [some (.ref 0), some (.int (s : Nat)), some (.int 8), some (.int ((0 : Nat) : Int)), some (.lst []), none, none] S = .ok (.lst (ndl L)) S3 := by
      rw [evE.eq_29, hw, th_ok]
      rw [q1.len]
      rw [show ndl [] = [] from rfl] at e2
      rw [e2]
      simp only [Rs.nox, th_ok]
      exact e3
    have z0 : ((0 : Nat) : Int) = 0 := rfl
    rw [z0] at e4 ⊢
    simp (dsimp := false) (implicitDefEqProofs := false) [FI, e4, exSs, exS, evE.eq_1, evE.eq_2, evE.eq_3, evE.eq_4, evE.eq_5, evE.eq_6, evE.eq_7, evE.eq_8, evE.eq_9, evE.eq_10, evE.eq_11, evE.eq_12, evE.eq_13, evE.eq_14, evE.eq_15, evE.eq_16, evE.eq_17, evE.eq_18, evE.eq_19, evE.eq_20, evE.eq_21, evE.eq_22, evE.eq_23, evE.eq_24, evE.eq_25, evE.eq_26, evE.eq_27, evE.eq_28, evE.eq_31, evE.eq_32, evE.eq_33, evE.eq_34, evE.eq_35, evE.eq_36, evE.eq_37, evE.eq_38, evT, evL, evI, evC, evW, startF, setS, idxD, seqOf, ixN, binD, arI, setI, cmpD, intCmp, cmpI, truD, isAny, isD, isNo, pln, vw, eqD, biD, tidy_same, wipe]
  · have hc0 : ((c : Int) == 0) = false := beq_eq_false_iff_ne.mpr (by omega)
    by_cases h1 : c = 1
    · subst h1
      have lim : (9 : Int) ≤ LIM ∧ -(LIM : Int) ≤ 9 := by unfold LIM; omega
      obtain ⟨L, S', e, q', hl, hx⟩ := ev_draw (C := csOf T (n + 3)) (own := [6]) (it := .rng (.cons (.bin .add false (.var 2) (.int 1)) .nil)) (i := 6) (e := b20e1) (ρ := [some (.ref 0), some (.int (s : Nat)), some (.int 8), some (.int ((1 : Nat) : Int)), some (.lst []), none, none]) (P := fun x => x < 2 ^ s) 2 (by decide) (l := upTo 0 9) q (by simp (dsimp := false) (implicitDefEqProofs := false) [rngIt, lim, exSs, exS, evE.eq_1, evE.eq_2, evE.eq_3, evE.eq_4, evE.eq_5, evE.eq_6, evE.eq_7, evE.eq_8, evE.eq_9, evE.eq_10, evE.eq_11, evE.eq_12, evE.eq_13, evE.eq_14, evE.eq_15, evE.eq_16, evE.eq_17, evE.eq_18, evE.eq_19, evE.eq_20, evE.eq_21, evE.eq_22, evE.eq_23, evE.eq_24, evE.eq_25, evE.eq_26, evE.eq_27, evE.eq_28, evE.eq_31, evE.eq_32, evE.eq_33, evE.eq_34, evE.eq_35, evE.eq_36, evE.eq_37, evE.eq_38, evT, evL, evI, evC, evW, startF, setS, idxD, seqOf, ixN, binD, arI, setI, cmpD, intCmp, cmpI, truD, isAny, isD, isNo, pln, vw, eqD, biD, tidy_same, wipe]) (by simp [upTo0]) (by omega) (fun d Y k S q hk => by
        obtain ⟨a, S1, e1, q1, a1⟩ := dqs q (by omega) hs (n + 2)
        obtain ⟨b, S2, e2, q2, b1⟩ := dqs q1 (by omega) hs (n + 2)
        exact ⟨a &&& b, S2, by simp (dsimp := false) (implicitDefEqProofs := false) [b20e1, s1, e1, e2, band_nat, exSs, exS, evE.eq_1, evE.eq_2, evE.eq_3, evE.eq_4, evE.eq_5, evE.eq_6, evE.eq_7, evE.eq_8, evE.eq_9, evE.eq_10, evE.eq_11, evE.eq_12, evE.eq_13, evE.eq_14, evE.eq_15, evE.eq_16, evE.eq_17, evE.eq_18, evE.eq_19, evE.eq_20, evE.eq_21, evE.eq_22, evE.eq_23, evE.eq_24, evE.eq_25, evE.eq_26, evE.eq_27, evE.eq_28, evE.eq_31, evE.eq_32, evE.eq_33, evE.eq_34, evE.eq_35, evE.eq_36, evE.eq_37, evE.eq_38, evT, evL, evI, evC, evW, startF, setS, idxD, seqOf, ixN, binD, arI, setI, cmpD, intCmp, cmpI, truD, isAny, isD, isNo, pln, vw, eqD, biD, tidy_same, wipe], q2, Nat.and_lt_two_pow _ b1⟩)
      have hu : (upTo 0 9).length = 9 := by simp [upTo0]
      rw [hu] at q' hl
      refine ⟨L, S', ?_, q'.mono (by omega), by omega, hx⟩
      have z1 : ((1 : Nat) : Int) = 1 := rfl
      rw [z1] at e ⊢
      simp (dsimp := false) (implicitDefEqProofs := false) [FI, e, exSs, exS, evE.eq_1, evE.eq_2, evE.eq_3, evE.eq_4, evE.eq_5, evE.eq_6, evE.eq_7, evE.eq_8, evE.eq_9, evE.eq_10, evE.eq_11, evE.eq_12, evE.eq_13, evE.eq_14, evE.eq_15, evE.eq_16, evE.eq_17, evE.eq_18, evE.eq_19, evE.eq_20, evE.eq_21, evE.eq_22, evE.eq_23, evE.eq_24, evE.eq_25, evE.eq_26, evE.eq_27, evE.eq_28, evE.eq_31, evE.eq_32, evE.eq_33, evE.eq_34, evE.eq_35, evE.eq_36, evE.eq_37, evE.eq_38, evT, evL, evI, evC, evW, startF, setS, idxD, seqOf, ixN, binD, arI, setI, cmpD, intCmp, cmpI, truD, isAny, isD, isNo, pln, vw, eqD, biD, tidy_same, wipe]
    · have hc1 : ((c : Int) == 1) = false := beq_eq_false_iff_ne.mpr (by omega)
      by_cases h4 : c < 4
      · have h4' : (c : Int) < 4 := by omega
        obtain ⟨L, S', e, q', hl, hx⟩ := f_planted n q (by omega) hs ((c : Int) == 3)
        refine ⟨L, S', ?_, q'.mono (by omega), hl, hx⟩
        simp (dsimp := false) (implicitDefEqProofs := false) [FI, hc0, hc1, h4', e, exSs, exS, evE.eq_1, evE.eq_2, evE.eq_3, evE.eq_4, evE.eq_5, evE.eq_6, evE.eq_7, evE.eq_8, evE.eq_9, evE.eq_10, evE.eq_11, evE.eq_12, evE.eq_13, evE.eq_14, evE.eq_15, evE.eq_16, evE.eq_17, evE.eq_18, evE.eq_19, evE.eq_20, evE.eq_21, evE.eq_22, evE.eq_23, evE.eq_24, evE.eq_25, evE.eq_26, evE.eq_27, evE.eq_28, evE.eq_31, evE.eq_32, evE.eq_33, evE.eq_34, evE.eq_35, evE.eq_36, evE.eq_37, evE.eq_38, evT, evL, evI, evC, evW, startF, setS, idxD, seqOf, ixN, binD, arI, setI, cmpD, intCmp, cmpI, truD, isAny, isD, isNo, pln, vw, eqD, biD, tidy_same, wipe]
      · have h4' : ¬ (c : Int) < 4 := by omega
        obtain ⟨m, S1, e1, q1, m1⟩ := dq q (by omega) (m := 8) (by decide) (by decide) (n + 2)
        obtain ⟨L, S', e, q', hl, hx⟩ := f_grown (n + 1) q1 (by omega) hs (m := 1 + m) (by omega)
        refine ⟨L, S', ?_, q'.mono (by omega), hl, hx⟩
        push_cast at e
        simp (dsimp := false) (implicitDefEqProofs := false) [FI, hc0, hc1, h4', e1, e, exSs, exS, evE.eq_1, evE.eq_2, evE.eq_3, evE.eq_4, evE.eq_5, evE.eq_6, evE.eq_7, evE.eq_8, evE.eq_9, evE.eq_10, evE.eq_11, evE.eq_12, evE.eq_13, evE.eq_14, evE.eq_15, evE.eq_16, evE.eq_17, evE.eq_18, evE.eq_19, evE.eq_20, evE.eq_21, evE.eq_22, evE.eq_23, evE.eq_24, evE.eq_25, evE.eq_26, evE.eq_27, evE.eq_28, evE.eq_31, evE.eq_32, evE.eq_33, evE.eq_34, evE.eq_35, evE.eq_36, evE.eq_37, evE.eq_38, evT, evL, evI, evC, evW, startF, setS, idxD, seqOf, ixN, binD, arI, setI, cmpD, intCmp, cmpI, truD, isAny, isD, isNo, pln, vw, eqD, biD, tidy_same, wipe]
theorem fam_loop (n : Nat) {ns : List Int} {X : Store} {s : Nat} {L : List Nat} (hL : ∀ x ∈ L, x < 2 ^ s) (hl : L.length ≤ 50) (y0 y1 y3 : Option D) : ∀ (π : List Nat) (O : List Nat) (k : Nat) (S : Store) (y6 : Option D), (∀ p ∈ π, p < L.length) → QD ns (X ++ [.lst (ndl O)]) k S → O.length ≤ 8 → O.Nodup → (∀ x ∈ O, 0 < x ∧ x < 2 ^ s) → ∃ (O' : List Nat) (S' : Store) (z6 : Option D),
    forL (.nm 6) (fun ρ S => exSs (csOf T (n + 1)) b20l0 ρ S) [] (ndl π) [y0, y1, some (.int 8), y3, some (.lst (ndl L)), some (.ref (X.length + 1)), y6] S = .nx [y0, y1, some (.int 8), y3, some (.lst (ndl L)), some (.ref (X.length + 1)), z6] S' ∧ QD ns (X ++ [.lst (ndl O')]) k S' ∧ O'.length ≤ 8 ∧ O'.Nodup ∧ ∀ x ∈ O', 0 < x ∧ x < 2 ^ s
  | [], O, k, S, y6, _, q, h1, h2, h3 => ⟨O, S, y6, forL_nil, q, h1, h2, h3⟩
  | p :: π, O, k, S, y6, hp, q, h1, h2, h3 => by
    obtain ⟨g1, g2⟩ := q.get
    have p0 := hp p List.mem_cons_self
    have hp' : ∀ p ∈ π, p < L.length := fun x hx => hp x (List.mem_cons_of_mem _ hx)
    have ig := ndl_get p0
    have lw := hL _ (getD_mem p0)
    generalize L.getD p 0 = w at ig lw
    have ig' : ∀ h : p < (ndl L).length, (ndl L)[p]'h = D.int (w : Nat) := by
      intro h
      rw [List.getElem?_eq_getElem h] at ig
      exact Option.some.inj ig
    have e1 := inD_nref g1 w
    have stay : ∀ y, ∃ (O' : List Nat) (S' : Store) (z6 : Option D), forL (.nm 6) (fun ρ S => exSs (csOf T (n + 1)) b20l0 ρ S) [] (ndl π) [y0, y1, some (.int 8), y3, some (.lst (ndl L)), some (.ref (X.length + 1)), y] S = .nx [y0, y1, some (.int 8), y3, some (.lst (ndl L)), some (.ref (X.length + 1)), z6] S' ∧ QD ns (X ++ [.lst (ndl O')]) k S' ∧ O'.length ≤ 8 ∧ O'.Nodup ∧ ∀ x ∈ O', 0 < x ∧ x < 2 ^ s := fun y => fam_loop n hL hl y0 y1 y3 π O k S y hp' q h1 h2 h3
    have hcons : ndl (p :: π) = D.int (p : Nat) :: ndl π := rfl
    rw [hcons]
    by_cases w0 : 0 < w
    · by_cases w1 : w ∈ O
      · obtain ⟨O', S', z6, e, r⟩ := stay (some (.int (p : Nat)))
        refine ⟨O', S', z6, ?_, r⟩
        rw [← e]
        exact forL_nx rfl (by simp (dsimp := false) (implicitDefEqProofs := false) [b20l0, ndl_len, p0, ig', w0, e1, w1, exSs, exS, evE.eq_1, evE.eq_2, evE.eq_3, evE.eq_4, evE.eq_5, evE.eq_6, evE.eq_7, evE.eq_8, evE.eq_9, evE.eq_10, evE.eq_11, evE.eq_12, evE.eq_13, evE.eq_14, evE.eq_15, evE.eq_16, evE.eq_17, evE.eq_18, evE.eq_19, evE.eq_20, evE.eq_21, evE.eq_22, evE.eq_23, evE.eq_24, evE.eq_25, evE.eq_26, evE.eq_27, evE.eq_28, evE.eq_31, evE.eq_32, evE.eq_33, evE.eq_34, evE.eq_35, evE.eq_36, evE.eq_37, evE.eq_38, evT, evL, evI, evC, evW, startF, setS, idxD, seqOf, ixN, binD, arI, setI, cmpD, intCmp, cmpI, truD, isAny, isD, isNo, pln, vw, eqD, biD, tidy_same, wipe])
      · by_cases w2 : O.length < 8
        · have q2 := g2 (.lst (ndl (O ++ [w]))) (ndl_below 0 _)
          obtain ⟨O', S', z6, e, r⟩ := fam_loop n hL hl y0 y1 y3 π (O ++ [w]) k _ (some (.int (p : Nat))) hp' q2 (by simp; omega) (by
            rw [List.nodup_append]
            refine ⟨h2, by simp, fun a ha b hb => ?_⟩
            rw [List.mem_singleton.mp hb]
            intro z
            subst z
            exact w1 ha) (fun x hx => by
            rcases List.mem_append.mp hx with hx | hx
            · exact h3 x hx
            · rw [List.mem_singleton.mp hx]; exact ⟨w0, lw⟩)
          refine ⟨O', S', z6, ?_, r⟩
          rw [← e, ndl_app]
          have lt : O.length < LIM := by unfold LIM; omega
          have w2' : (O.length : Int) < 8 := by omega
          exact forL_nx rfl (by simp (dsimp := false) (implicitDefEqProofs := false) [b20l0, ndl_len, p0, ig', w0, e1, w1, g1, w2', bmOk, bmD, lt, exSs, exS, evE.eq_1, evE.eq_2, evE.eq_3, evE.eq_4, evE.eq_5, evE.eq_6, evE.eq_7, evE.eq_8, evE.eq_9, evE.eq_10, evE.eq_11, evE.eq_12, evE.eq_13, evE.eq_14, evE.eq_15, evE.eq_16, evE.eq_17, evE.eq_18, evE.eq_19, evE.eq_20, evE.eq_21, evE.eq_22, evE.eq_23, evE.eq_24, evE.eq_25, evE.eq_26, evE.eq_27, evE.eq_28, evE.eq_31, evE.eq_32, evE.eq_33, evE.eq_34, evE.eq_35, evE.eq_36, evE.eq_37, evE.eq_38, evT, evL, evI, evC, evW, startF, setS, idxD, seqOf, ixN, binD, arI, setI, cmpD, intCmp, cmpI, truD, isAny, isD, isNo, pln, vw, eqD, biD, tidy_same, wipe])
        · obtain ⟨O', S', z6, e, r⟩ := stay (some (.int (p : Nat)))
          refine ⟨O', S', z6, ?_, r⟩
          rw [← e]
          have w2' : ¬ (O.length : Int) < 8 := by omega
          exact forL_nx rfl (by simp (dsimp := false) (implicitDefEqProofs := false) [b20l0, ndl_len, p0, ig', w0, e1, w1, g1, w2', exSs, exS, evE.eq_1, evE.eq_2, evE.eq_3, evE.eq_4, evE.eq_5, evE.eq_6, evE.eq_7, evE.eq_8, evE.eq_9, evE.eq_10, evE.eq_11, evE.eq_12, evE.eq_13, evE.eq_14, evE.eq_15, evE.eq_16, evE.eq_17, evE.eq_18, evE.eq_19, evE.eq_20, evE.eq_21, evE.eq_22, evE.eq_23, evE.eq_24, evE.eq_25, evE.eq_26, evE.eq_27, evE.eq_28, evE.eq_31, evE.eq_32, evE.eq_33, evE.eq_34, evE.eq_35, evE.eq_36, evE.eq_37, evE.eq_38, evT, evL, evI, evC, evW, startF, setS, idxD, seqOf, ixN, binD, arI, setI, cmpD, intCmp, cmpI, truD, isAny, isD, isNo, pln, vw, eqD, biD, tidy_same, wipe])
    · obtain ⟨O', S', z6, e, r⟩ := stay (some (.int (p : Nat)))
      refine ⟨O', S', z6, ?_, r⟩
      rw [← e]
      exact forL_nx rfl (by simp (dsimp := false) (implicitDefEqProofs := false) [b20l0, ndl_len, p0, ig', w0, exSs, exS, evE.eq_1, evE.eq_2, evE.eq_3, evE.eq_4, evE.eq_5, evE.eq_6, evE.eq_7, evE.eq_8, evE.eq_9, evE.eq_10, evE.eq_11, evE.eq_12, evE.eq_13, evE.eq_14, evE.eq_15, evE.eq_16, evE.eq_17, evE.eq_18, evE.eq_19, evE.eq_20, evE.eq_21, evE.eq_22, evE.eq_23, evE.eq_24, evE.eq_25, evE.eq_26, evE.eq_27, evE.eq_28, evE.eq_31, evE.eq_32, evE.eq_33, evE.eq_34, evE.eq_35, evE.eq_36, evE.eq_37, evE.eq_38, evT, evL, evI, evC, evW, startF, setS, idxD, seqOf, ixN, binD, arI, setI, cmpD, intCmp, cmpI, truD, isAny, isD, isNo, pln, vw, eqD, biD, tidy_same, wipe])
theorem f_family (n : Nat) {ns : List Int} {X : Store} {k : Nat} {S : Store} (q : QD ns X k S) (hk : k + 4000 < 2 ^ 60) {s : Nat} (hs : s ≤ 8) :
    ∃ (L : List Nat) (S' : Store), run T (n + 4) 20 [.ref 0, .int (s : Nat), .int 8] S = .ok (.lst (ndl L)) S' ∧ QD ns X (k + 1000) S' ∧ L.length ≤ 8 ∧ L.Nodup ∧ ∀ x ∈ L, 0 < x ∧ x < 2 ^ s := by
  obtain ⟨c, S1, e1, q1, c1⟩ := dq q (by omega) (m := 6) (by decide) (by decide) (n + 2)
  obtain ⟨L, S2, e2, q2, h1, h2⟩ := fam_if n q1 (by omega) hs c
  have q3 := q2.app (c := .lst (ndl [])) rfl
  obtain ⟨π, S3, e3, q4, hπ⟩ := order (n + 1) q3 (m := L.length) (by omega) (by omega)
  obtain ⟨O, S4, z6, e4, q5, h3, h4, h5⟩ := fam_loop (n + 2) h2 h1 (some (.ref 0)) (some (.int (s : Nat))) (some (.int (c : Nat))) π [] _ S3 none (fun p hp => List.mem_range.mp (hπ.mem_iff.mp hp)) q4 (by simp) (by simp) (fun x hx => by simp at hx)
  obtain ⟨S5, rfl, q6⟩ := q5.un
  refine ⟨O, S5, ?_, q6.mono (by omega), h3, h4, h5⟩
  have ln := q2.len
  have e3' : run T (n + 3) 15 [.ref 0, .int (L.length : Nat)] (S2 ++ [.lst []]) = .ok (.lst (ndl π)) S3 := e3
  rw [run_def (F := ⟨3, 7, b20, true⟩) rfl rfl]
  show tidy true S (toR (exSs (csOf T (n + 3)) b20 _ S)) = _
  rw [fam_eq]
  simp (dsimp := false) (implicitDefEqProofs := false) [e1, mkL, e2, FR, ndl_len, ln, e3', seqIt, Ev.guard, e4, exSs, exS, evE.eq_1, evE.eq_2, evE.eq_3, evE.eq_4, evE.eq_5, evE.eq_6, evE.eq_7, evE.eq_8, evE.eq_9, evE.eq_10, evE.eq_11, evE.eq_12, evE.eq_13, evE.eq_14, evE.eq_15, evE.eq_16, evE.eq_17, evE.eq_18, evE.eq_19, evE.eq_20, evE.eq_21, evE.eq_22, evE.eq_23, evE.eq_24, evE.eq_25, evE.eq_26, evE.eq_27, evE.eq_28, evE.eq_31, evE.eq_32, evE.eq_33, evE.eq_34, evE.eq_35, evE.eq_36, evE.eq_37, evE.eq_38, evT, evL, evI, evC, evW, startF, setS, idxD, seqOf, ixN, binD, arI, setI, cmpD, intCmp, cmpI, truD, isAny, isD, isNo, pln, vw, eqD, biD, tidy_same, wipe]
  rw [← q.len]
  exact q.tidy q6 (ndl_below 0 _)
end Lw
end
section
set_option maxRecDepth 100000
set_option maxHeartbeats 8000000
namespace Lw
open Ev Lg
theorem tidyx_same (fz : Bool) (S : Store) (c : Nat) (l : List D) : tidy fz S (.ex c l S) = .ex c l S := by
  unfold tidy
  simp only [List.take_length]
  split <;> rfl
def isI : D → Bool
  | .int _ => true
  | _ => false
/-- a plain value -/
def plv : D → Bool
  | .non => true
  | .bl _ => true
  | .int _ => true
  | .str _ => true
  | .tup _ => true
  | .lst _ => true
  | _ => false
theorem f_int_g (n : Nat) {d : D} (hd : plv d = true) (S : Store) : run T (n + 1) 1 [d] S = .ok (.bl (isI d)) S := by
  rw [run_def (F := ⟨1, 1, b1, true⟩) rfl rfl]
  cases d with
  | ref i => simp [plv] at hd
  | obj c l => simp [plv] at hd
  | _ => first | (simp (dsimp := false) (implicitDefEqProofs := false) [b1, isI, exSs, exS, evE.eq_1, evE.eq_2, evE.eq_3, evE.eq_4, evE.eq_5, evE.eq_6, evE.eq_7, evE.eq_8, evE.eq_9, evE.eq_10, evE.eq_11, evE.eq_12, evE.eq_13, evE.eq_14, evE.eq_15, evE.eq_16, evE.eq_17, evE.eq_18, evE.eq_19, evE.eq_20, evE.eq_21, evE.eq_22, evE.eq_23, evE.eq_24, evE.eq_25, evE.eq_26, evE.eq_27, evE.eq_28, evE.eq_31, evE.eq_32, evE.eq_33, evE.eq_34, evE.eq_35, evE.eq_36, evE.eq_37, evE.eq_38, evT, evL, evI, evC, evW, startF, setS, idxD, seqOf, ixN, binD, arI, setI, cmpD, intCmp, cmpI, truD, isAny, isD, isNo, pln, vw, eqD, biD, tidy_same, tidyx_same, wipe]) | (simp [plv] at hd)
theorem f_ints_g (n : Nat) {l : List D} (h : ∀ d ∈ l, plv d = true) (hl : l.length ≤ 1000) (S : Store) : run T (n + 2) 5 [.tup l] S = .ok (.bl (l.all isI)) S := by
  rw [run_def (F := ⟨1, 2, b5, true⟩) rfl rfl]
  have lim := lim_le hl
  have e := lc_map (C := csOf T (n + 1)) (own := [1]) (tg := .nm 1) (it := .seq (.var 0)) (e := b5e0) (ρ := [some (.tup l), none]) (S := S) (l := l) (g := []) (fun d => .bl (isI d))
    (by simp (dsimp := false) (implicitDefEqProofs := false) [seqIt, Ev.guard, exSs, exS, evE.eq_1, evE.eq_2, evE.eq_3, evE.eq_4, evE.eq_5, evE.eq_6, evE.eq_7, evE.eq_8, evE.eq_9, evE.eq_10, evE.eq_11, evE.eq_12, evE.eq_13, evE.eq_14, evE.eq_15, evE.eq_16, evE.eq_17, evE.eq_18, evE.eq_19, evE.eq_20, evE.eq_21, evE.eq_22, evE.eq_23, evE.eq_24, evE.eq_25, evE.eq_26, evE.eq_27, evE.eq_28, evE.eq_31, evE.eq_32, evE.eq_33, evE.eq_34, evE.eq_35, evE.eq_36, evE.eq_37, evE.eq_38, evT, evL, evI, evC, evW, startF, setS, idxD, seqOf, ixN, binD, arI, setI, cmpD, intCmp, cmpI, truD, isAny, isD, isNo, pln, vw, eqD, biD, tidy_same, tidyx_same, wipe]) (fun c => gOk_nil _) (fun d hd x => ⟨_, rfl, by
      have := f_int_g n (h d hd) (S ++ [x])
      simp (dsimp := false) (implicitDefEqProofs := false) [b5e0, this, exSs, exS, evE.eq_1, evE.eq_2, evE.eq_3, evE.eq_4, evE.eq_5, evE.eq_6, evE.eq_7, evE.eq_8, evE.eq_9, evE.eq_10, evE.eq_11, evE.eq_12, evE.eq_13, evE.eq_14, evE.eq_15, evE.eq_16, evE.eq_17, evE.eq_18, evE.eq_19, evE.eq_20, evE.eq_21, evE.eq_22, evE.eq_23, evE.eq_24, evE.eq_25, evE.eq_26, evE.eq_27, evE.eq_28, evE.eq_31, evE.eq_32, evE.eq_33, evE.eq_34, evE.eq_35, evE.eq_36, evE.eq_37, evE.eq_38, evT, evL, evI, evC, evW, startF, setS, idxD, seqOf, ixN, binD, arI, setI, cmpD, intCmp, cmpI, truD, isAny, isD, isNo, pln, vw, eqD, biD, tidy_same, tidyx_same, wipe]⟩) lim (belowL_of fun d hd => by obtain ⟨i, _, rfl⟩ := List.mem_map.mp hd; rfl)
  have e2 := allBl_map isI l
  have e3 : (l.map isI).all id = l.all isI := by rw [List.all_map]; rfl
  simp (dsimp := false) (implicitDefEqProofs := false) [b5, e, lstOf, e2, e3, -List.all_map, exSs, exS, evE.eq_1, evE.eq_2, evE.eq_3, evE.eq_4, evE.eq_5, evE.eq_6, evE.eq_7, evE.eq_8, evE.eq_9, evE.eq_10, evE.eq_11, evE.eq_12, evE.eq_13, evE.eq_14, evE.eq_15, evE.eq_16, evE.eq_17, evE.eq_18, evE.eq_19, evE.eq_20, evE.eq_21, evE.eq_22, evE.eq_23, evE.eq_24, evE.eq_25, evE.eq_26, evE.eq_27, evE.eq_28, evE.eq_31, evE.eq_32, evE.eq_33, evE.eq_34, evE.eq_35, evE.eq_36, evE.eq_37, evE.eq_38, evT, evL, evI, evC, evW, startF, setS, idxD, seqOf, ixN, binD, arI, setI, cmpD, intCmp, cmpI, truD, isAny, isD, isNo, pln, vw, eqD, biD, tidy_same, tidyx_same, wipe]
theorem f_ints_n (n : Nat) {d : D} (hd : plv d = true) (ht : ∀ l, d ≠ .tup l) (S : Store) : run T (n + 2) 5 [d] S = .ok (.bl false) S := by
  rw [run_def (F := ⟨1, 2, b5, true⟩) rfl rfl]
  cases d with
  | ref i => simp [plv] at hd
  | obj c l => simp [plv] at hd
  | tup l => exact absurd rfl (ht l)
  | _ => first | (simp (dsimp := false) (implicitDefEqProofs := false) [b5, exSs, exS, evE.eq_1, evE.eq_2, evE.eq_3, evE.eq_4, evE.eq_5, evE.eq_6, evE.eq_7, evE.eq_8, evE.eq_9, evE.eq_10, evE.eq_11, evE.eq_12, evE.eq_13, evE.eq_14, evE.eq_15, evE.eq_16, evE.eq_17, evE.eq_18, evE.eq_19, evE.eq_20, evE.eq_21, evE.eq_22, evE.eq_23, evE.eq_24, evE.eq_25, evE.eq_26, evE.eq_27, evE.eq_28, evE.eq_31, evE.eq_32, evE.eq_33, evE.eq_34, evE.eq_35, evE.eq_36, evE.eq_37, evE.eq_38, evT, evL, evI, evC, evW, startF, setS, idxD, seqOf, ixN, binD, arI, setI, cmpD, intCmp, cmpI, truD, isAny, isD, isNo, pln, vw, eqD, biD, tidy_same, tidyx_same, wipe]) | (simp [plv] at hd)
/-- not a strictly rising row of ints below z -/
def Wr (z : Int) (d : D) : Prop := ∀ (n : Nat) (S : Store), run T (n + 4) 7 [d, .int z] S = .ok (.bl false) S
theorem wr_ints {z : Int} {d : D} (h : ∀ (n : Nat) (S : Store), run T (n + 2) 5 [d] S = .ok (.bl false) S) : Wr z d := fun n S => by
  have e1 : run T (n + 3) 6 [d] S = .ok (.bl false) S := by
    rw [run_def (F := ⟨1, 2, b6, true⟩) rfl rfl]
    have := h n S
    simp (dsimp := false) (implicitDefEqProofs := false) [b6, this, exSs, exS, evE.eq_1, evE.eq_2, evE.eq_3, evE.eq_4, evE.eq_5, evE.eq_6, evE.eq_7, evE.eq_8, evE.eq_9, evE.eq_10, evE.eq_11, evE.eq_12, evE.eq_13, evE.eq_14, evE.eq_15, evE.eq_16, evE.eq_17, evE.eq_18, evE.eq_19, evE.eq_20, evE.eq_21, evE.eq_22, evE.eq_23, evE.eq_24, evE.eq_25, evE.eq_26, evE.eq_27, evE.eq_28, evE.eq_31, evE.eq_32, evE.eq_33, evE.eq_34, evE.eq_35, evE.eq_36, evE.eq_37, evE.eq_38, evT, evL, evI, evC, evW, startF, setS, idxD, seqOf, ixN, binD, arI, setI, cmpD, intCmp, cmpI, truD, isAny, isD, isNo, pln, vw, eqD, biD, tidy_same, tidyx_same, wipe]
  rw [run_def (F := ⟨2, 3, b7, true⟩) rfl rfl]
  simp (dsimp := false) (implicitDefEqProofs := false) [b7, e1, exSs, exS, evE.eq_1, evE.eq_2, evE.eq_3, evE.eq_4, evE.eq_5, evE.eq_6, evE.eq_7, evE.eq_8, evE.eq_9, evE.eq_10, evE.eq_11, evE.eq_12, evE.eq_13, evE.eq_14, evE.eq_15, evE.eq_16, evE.eq_17, evE.eq_18, evE.eq_19, evE.eq_20, evE.eq_21, evE.eq_22, evE.eq_23, evE.eq_24, evE.eq_25, evE.eq_26, evE.eq_27, evE.eq_28, evE.eq_31, evE.eq_32, evE.eq_33, evE.eq_34, evE.eq_35, evE.eq_36, evE.eq_37, evE.eq_38, evT, evL, evI, evC, evW, startF, setS, idxD, seqOf, ixN, binD, arI, setI, cmpD, intCmp, cmpI, truD, isAny, isD, isNo, pln, vw, eqD, biD, tidy_same, tidyx_same, wipe]
theorem wr_plain {z : Int} {d : D} (hd : plv d = true) (ht : ∀ l, d ≠ .tup l) : Wr z d := wr_ints fun n S => f_ints_n n hd ht S
theorem wr_non {z : Int} {l : List D} (h : ∀ d ∈ l, plv d = true) (hl : l.length ≤ 1000) (ha : l.all isI = false) : Wr z (.tup l) := wr_ints fun n S => by rw [f_ints_g n h hl S, ha]
def upN (l : List Int) (k : Nat) : Bool := decide (l.getD k 0 < l.getD (k + 1) 0)
def ris (l : List Int) : Bool := (List.range (l.length - 1)).all (upN l)
theorem f_rising_g (n : Nat) (l : List Int) (hl : l.length ≤ 1000) (S : Store) : run T (n + 3) 6 [tupI l] S = .ok (.bl (ris l)) S := by
  rw [run_def (F := ⟨1, 2, b6, true⟩) rfl rfl]
  have lim := lim_le (n := l.length - 1) (by omega)
  have em : ((upTo 0 (l.length - 1)).map fun d => match d with
      | .int i => D.bl (upN l i.toNat)
      | _ => .non) = (List.range (l.length - 1)).map fun k => .bl (upN l k) := by
    rw [upTo0, List.map_map]
    rfl
  have e := lc_map (C := csOf T (n + 2)) (own := [1]) (tg := .nm 1) (it := .rng (.cons (.bin .sub false (.bi .len false (.cons (.var 0) .nil)) (.int 1)) .nil)) (e := b6e0) (ρ := [some (tupI l), none]) (S := S) (l := upTo 0 (l.length - 1)) (g := []) (fun d => match d with
      | .int i => D.bl (upN l i.toNat)
      | _ => .non)
    (by simp (dsimp := false) (implicitDefEqProofs := false) [tupI, rng1 hl, exSs, exS, evE.eq_1, evE.eq_2, evE.eq_3, evE.eq_4, evE.eq_5, evE.eq_6, evE.eq_7, evE.eq_8, evE.eq_9, evE.eq_10, evE.eq_11, evE.eq_12, evE.eq_13, evE.eq_14, evE.eq_15, evE.eq_16, evE.eq_17, evE.eq_18, evE.eq_19, evE.eq_20, evE.eq_21, evE.eq_22, evE.eq_23, evE.eq_24, evE.eq_25, evE.eq_26, evE.eq_27, evE.eq_28, evE.eq_31, evE.eq_32, evE.eq_33, evE.eq_34, evE.eq_35, evE.eq_36, evE.eq_37, evE.eq_38, evT, evL, evI, evC, evW, startF, setS, idxD, seqOf, ixN, binD, arI, setI, cmpD, intCmp, cmpI, truD, isAny, isD, isNo, pln, vw, eqD, biD, tidy_same, tidyx_same, wipe]) (fun c => gOk_nil _) (fun d hd x => ⟨_, rfl, by
      rw [upTo0] at hd
      obtain ⟨i, hi, rfl⟩ := List.mem_map.mp hd
      have hi := List.mem_range.mp hi
      have h0 : i < l.length := by omega
      have h1 : i + 1 < l.length := by omega
      have h0' : (i : Int) < l.length := by omega
      have h1' : (i : Int) + 1 < l.length := by omega
      have t : ((i : Int) + 1).toNat = i + 1 := by omega
      have p : (0 : Int) ≤ (i : Int) + 1 := by omega
      simp (dsimp := false) (implicitDefEqProofs := false) [b6e0, tupI, h0, h1, h0', h1', t, p, upN, exSs, exS, evE.eq_1, evE.eq_2, evE.eq_3, evE.eq_4, evE.eq_5, evE.eq_6, evE.eq_7, evE.eq_8, evE.eq_9, evE.eq_10, evE.eq_11, evE.eq_12, evE.eq_13, evE.eq_14, evE.eq_15, evE.eq_16, evE.eq_17, evE.eq_18, evE.eq_19, evE.eq_20, evE.eq_21, evE.eq_22, evE.eq_23, evE.eq_24, evE.eq_25, evE.eq_26, evE.eq_27, evE.eq_28, evE.eq_31, evE.eq_32, evE.eq_33, evE.eq_34, evE.eq_35, evE.eq_36, evE.eq_37, evE.eq_38, evT, evL, evI, evC, evW, startF, setS, idxD, seqOf, ixN, binD, arI, setI, cmpD, intCmp, cmpI, truD, isAny, isD, isNo, pln, vw, eqD, biD, tidy_same, tidyx_same, wipe]⟩) (by simpa [upTo0] using lim) (by rw [em]; exact belowL_of fun d hd => by obtain ⟨i, _, rfl⟩ := List.mem_map.mp hd; rfl)
  rw [em] at e
  have e5 := f_ints n l hl S
  have e6 := allBl_map (upN l) (List.range (l.length - 1))
  have e7 : ((List.range (l.length - 1)).map (upN l)).all id = ris l := by rw [List.all_map]; rfl
  unfold tupI at e e5 ⊢
  simp (dsimp := false) (implicitDefEqProofs := false) [b6, e5, e, lstOf, e6, e7, -List.map_map, -List.all_map, exSs, exS, evE.eq_1, evE.eq_2, evE.eq_3, evE.eq_4, evE.eq_5, evE.eq_6, evE.eq_7, evE.eq_8, evE.eq_9, evE.eq_10, evE.eq_11, evE.eq_12, evE.eq_13, evE.eq_14, evE.eq_15, evE.eq_16, evE.eq_17, evE.eq_18, evE.eq_19, evE.eq_20, evE.eq_21, evE.eq_22, evE.eq_23, evE.eq_24, evE.eq_25, evE.eq_26, evE.eq_27, evE.eq_28, evE.eq_31, evE.eq_32, evE.eq_33, evE.eq_34, evE.eq_35, evE.eq_36, evE.eq_37, evE.eq_38, evT, evL, evI, evC, evW, startF, setS, idxD, seqOf, ixN, binD, arI, setI, cmpD, intCmp, cmpI, truD, isAny, isD, isNo, pln, vw, eqD, biD, tidy_same, tidyx_same, wipe]
def inZ (z : Int) (p : Int) : Bool := decide (0 ≤ p) && decide (p < z)
theorem f_rbelow_g (n : Nat) (l : List Int) (hl : l.length ≤ 1000) (z : Int) (S : Store) : run T (n + 4) 7 [tupI l, .int z] S = .ok (.bl (ris l && l.all (inZ z))) S := by
  rw [run_def (F := ⟨2, 3, b7, true⟩) rfl rfl]
  have lim := lim_le hl
  have em : ((l.map D.int).map fun d => D.bl (dI (inZ z) d)) = l.map fun p => .bl (inZ z p) := by
    rw [List.map_map]; rfl
  have e := lc_map (C := csOf T (n + 3)) (own := [2]) (tg := .nm 2) (it := .seq (.var 0)) (e := b7e0) (ρ := [some (tupI l), some (.int z), none]) (S := S) (l := l.map .int) (g := []) (fun d => D.bl (dI (inZ z) d))
    (by simp (dsimp := false) (implicitDefEqProofs := false) [seqIt, tupI, Ev.guard, exSs, exS, evE.eq_1, evE.eq_2, evE.eq_3, evE.eq_4, evE.eq_5, evE.eq_6, evE.eq_7, evE.eq_8, evE.eq_9, evE.eq_10, evE.eq_11, evE.eq_12, evE.eq_13, evE.eq_14, evE.eq_15, evE.eq_16, evE.eq_17, evE.eq_18, evE.eq_19, evE.eq_20, evE.eq_21, evE.eq_22, evE.eq_23, evE.eq_24, evE.eq_25, evE.eq_26, evE.eq_27, evE.eq_28, evE.eq_31, evE.eq_32, evE.eq_33, evE.eq_34, evE.eq_35, evE.eq_36, evE.eq_37, evE.eq_38, evT, evL, evI, evC, evW, startF, setS, idxD, seqOf, ixN, binD, arI, setI, cmpD, intCmp, cmpI, truD, isAny, isD, isNo, pln, vw, eqD, biD, tidy_same, tidyx_same, wipe]) (fun c => gOk_nil _) (fun d hd x => ⟨_, rfl, by
      obtain ⟨i, hi, rfl⟩ := List.mem_map.mp hd
      by_cases h1 : 0 ≤ i
      · simp (dsimp := false) (implicitDefEqProofs := false) [b7e0, dI, inZ, h1, exSs, exS, evE.eq_1, evE.eq_2, evE.eq_3, evE.eq_4, evE.eq_5, evE.eq_6, evE.eq_7, evE.eq_8, evE.eq_9, evE.eq_10, evE.eq_11, evE.eq_12, evE.eq_13, evE.eq_14, evE.eq_15, evE.eq_16, evE.eq_17, evE.eq_18, evE.eq_19, evE.eq_20, evE.eq_21, evE.eq_22, evE.eq_23, evE.eq_24, evE.eq_25, evE.eq_26, evE.eq_27, evE.eq_28, evE.eq_31, evE.eq_32, evE.eq_33, evE.eq_34, evE.eq_35, evE.eq_36, evE.eq_37, evE.eq_38, evT, evL, evI, evC, evW, startF, setS, idxD, seqOf, ixN, binD, arI, setI, cmpD, intCmp, cmpI, truD, isAny, isD, isNo, pln, vw, eqD, biD, tidy_same, tidyx_same, wipe]
      · simp (dsimp := false) (implicitDefEqProofs := false) [b7e0, dI, inZ, h1, exSs, exS, evE.eq_1, evE.eq_2, evE.eq_3, evE.eq_4, evE.eq_5, evE.eq_6, evE.eq_7, evE.eq_8, evE.eq_9, evE.eq_10, evE.eq_11, evE.eq_12, evE.eq_13, evE.eq_14, evE.eq_15, evE.eq_16, evE.eq_17, evE.eq_18, evE.eq_19, evE.eq_20, evE.eq_21, evE.eq_22, evE.eq_23, evE.eq_24, evE.eq_25, evE.eq_26, evE.eq_27, evE.eq_28, evE.eq_31, evE.eq_32, evE.eq_33, evE.eq_34, evE.eq_35, evE.eq_36, evE.eq_37, evE.eq_38, evT, evL, evI, evC, evW, startF, setS, idxD, seqOf, ixN, binD, arI, setI, cmpD, intCmp, cmpI, truD, isAny, isD, isNo, pln, vw, eqD, biD, tidy_same, tidyx_same, wipe]⟩) (by simpa using lim) (by rw [em]; exact belowL_of fun d hd => by obtain ⟨i, _, rfl⟩ := List.mem_map.mp hd; rfl)
  rw [em] at e
  have e6 := f_rising_g n l hl S
  have e7 := allBl_map (inZ z) l
  have e8 : (l.map (inZ z)).all id = l.all (inZ z) := by rw [List.all_map]; rfl
  unfold tupI at e e6 ⊢
  cases hr : ris l with
  | false => rw [hr] at e6; simp (dsimp := false) (implicitDefEqProofs := false) [b7, e6, exSs, exS, evE.eq_1, evE.eq_2, evE.eq_3, evE.eq_4, evE.eq_5, evE.eq_6, evE.eq_7, evE.eq_8, evE.eq_9, evE.eq_10, evE.eq_11, evE.eq_12, evE.eq_13, evE.eq_14, evE.eq_15, evE.eq_16, evE.eq_17, evE.eq_18, evE.eq_19, evE.eq_20, evE.eq_21, evE.eq_22, evE.eq_23, evE.eq_24, evE.eq_25, evE.eq_26, evE.eq_27, evE.eq_28, evE.eq_31, evE.eq_32, evE.eq_33, evE.eq_34, evE.eq_35, evE.eq_36, evE.eq_37, evE.eq_38, evT, evL, evI, evC, evW, startF, setS, idxD, seqOf, ixN, binD, arI, setI, cmpD, intCmp, cmpI, truD, isAny, isD, isNo, pln, vw, eqD, biD, tidy_same, tidyx_same, wipe]
  | true => rw [hr] at e6; simp (dsimp := false) (implicitDefEqProofs := false) [b7, e6, e, lstOf, e7, e8, -List.map_map, -List.all_map, exSs, exS, evE.eq_1, evE.eq_2, evE.eq_3, evE.eq_4, evE.eq_5, evE.eq_6, evE.eq_7, evE.eq_8, evE.eq_9, evE.eq_10, evE.eq_11, evE.eq_12, evE.eq_13, evE.eq_14, evE.eq_15, evE.eq_16, evE.eq_17, evE.eq_18, evE.eq_19, evE.eq_20, evE.eq_21, evE.eq_22, evE.eq_23, evE.eq_24, evE.eq_25, evE.eq_26, evE.eq_27, evE.eq_28, evE.eq_31, evE.eq_32, evE.eq_33, evE.eq_34, evE.eq_35, evE.eq_36, evE.eq_37, evE.eq_38, evT, evL, evI, evC, evW, startF, setS, idxD, seqOf, ixN, binD, arI, setI, cmpD, intCmp, cmpI, truD, isAny, isD, isNo, pln, vw, eqD, biD, tidy_same, tidyx_same, wipe]
theorem wr_up {z : Int} {l : List Int} (hl : l.length ≤ 1000) {k : Nat} (hk : k + 1 < l.length) (h : ¬ l.getD k 0 < l.getD (k + 1) 0) : Wr z (tupI l) := fun n S => by
  rw [f_rbelow_g n l hl z S]
  have : ris l = false := by
    cases h1 : ris l with
    | false => rfl
    | true =>
      have := List.all_eq_true.mp h1 k (List.mem_range.mpr (by omega))
      exact absurd (of_decide_eq_true this) h
  rw [this]
  rfl
theorem wr_out {z : Int} {l : List Int} (hl : l.length ≤ 1000) {p : Int} (hp : p ∈ l) (h : inZ z p = false) : Wr z (tupI l) := fun n S => by
  rw [f_rbelow_g n l hl z S]
  have : l.all (inZ z) = false := by
    cases h1 : l.all (inZ z) with
    | false => rfl
    | true =>
      have := List.all_eq_true.mp h1 p hp
      rw [h] at this
      exact absurd this (by decide)
  rw [this, Bool.and_false]
/-! is_number_below -/
def okN (z : Int) : D → Bool
  | .int i => inZ z i
  | _ => false
theorem f_nb (n : Nat) {d : D} (hd : plv d = true) (z : Int) (S : Store) : run T (n + 2) 2 [d, .int z] S = .ok (.bl (okN z d)) S := by
  have e := f_int_g n hd S
  rw [run_def (F := ⟨2, 2, b2, true⟩) rfl rfl]
  cases d with
  | ref i => simp [plv] at hd
  | obj c l => simp [plv] at hd
  | int i =>
    by_cases h1 : 0 ≤ i
    · simp (dsimp := false) (implicitDefEqProofs := false) [b2, e, isI, okN, inZ, h1, exSs, exS, evE.eq_1, evE.eq_2, evE.eq_3, evE.eq_4, evE.eq_5, evE.eq_6, evE.eq_7, evE.eq_8, evE.eq_9, evE.eq_10, evE.eq_11, evE.eq_12, evE.eq_13, evE.eq_14, evE.eq_15, evE.eq_16, evE.eq_17, evE.eq_18, evE.eq_19, evE.eq_20, evE.eq_21, evE.eq_22, evE.eq_23, evE.eq_24, evE.eq_25, evE.eq_26, evE.eq_27, evE.eq_28, evE.eq_31, evE.eq_32, evE.eq_33, evE.eq_34, evE.eq_35, evE.eq_36, evE.eq_37, evE.eq_38, evT, evL, evI, evC, evW, startF, setS, idxD, seqOf, ixN, binD, arI, setI, cmpD, intCmp, cmpI, truD, isAny, isD, isNo, pln, vw, eqD, biD, tidy_same, tidyx_same, wipe]
    · simp (dsimp := false) (implicitDefEqProofs := false) [b2, e, isI, okN, inZ, h1, exSs, exS, evE.eq_1, evE.eq_2, evE.eq_3, evE.eq_4, evE.eq_5, evE.eq_6, evE.eq_7, evE.eq_8, evE.eq_9, evE.eq_10, evE.eq_11, evE.eq_12, evE.eq_13, evE.eq_14, evE.eq_15, evE.eq_16, evE.eq_17, evE.eq_18, evE.eq_19, evE.eq_20, evE.eq_21, evE.eq_22, evE.eq_23, evE.eq_24, evE.eq_25, evE.eq_26, evE.eq_27, evE.eq_28, evE.eq_31, evE.eq_32, evE.eq_33, evE.eq_34, evE.eq_35, evE.eq_36, evE.eq_37, evE.eq_38, evT, evL, evI, evC, evW, startF, setS, idxD, seqOf, ixN, binD, arI, setI, cmpD, intCmp, cmpI, truD, isAny, isD, isNo, pln, vw, eqD, biD, tidy_same, tidyx_same, wipe]
  | _ => first | (simp (dsimp := false) (implicitDefEqProofs := false) [b2, e, isI, okN, exSs, exS, evE.eq_1, evE.eq_2, evE.eq_3, evE.eq_4, evE.eq_5, evE.eq_6, evE.eq_7, evE.eq_8, evE.eq_9, evE.eq_10, evE.eq_11, evE.eq_12, evE.eq_13, evE.eq_14, evE.eq_15, evE.eq_16, evE.eq_17, evE.eq_18, evE.eq_19, evE.eq_20, evE.eq_21, evE.eq_22, evE.eq_23, evE.eq_24, evE.eq_25, evE.eq_26, evE.eq_27, evE.eq_28, evE.eq_31, evE.eq_32, evE.eq_33, evE.eq_34, evE.eq_35, evE.eq_36, evE.eq_37, evE.eq_38, evT, evL, evI, evC, evW, startF, setS, idxD, seqOf, ixN, binD, arI, setI, cmpD, intCmp, cmpI, truD, isAny, isD, isNo, pln, vw, eqD, biD, tidy_same, tidyx_same, wipe]) | (simp [plv] at hd)
end Lw
end
section
set_option maxRecDepth 100000
set_option maxHeartbeats 8000000
namespace Lw
open Ev Lg
theorem sm_plv {k : Nat} {d : D} (h : sm2 k d = true) : plv d = true := by
  cases d with
  | ref i => cases k <;> simp [sm2] at h
  | obj c l => cases k <;> simp [sm2] at h
  | _ => first | rfl | (cases k <;> simp [sm2] at h)
theorem sm2_tup_inv {k : Nat} {l : List D} (h : sm2 k (.tup l) = true) : l.length ≤ 1000 ∧ ∃ j, k = j + 1 ∧ ∀ d ∈ l, sm2 j d = true := by
  cases k with
  | zero => exact absurd h (by simp [sm2])
  | succ j =>
    simp only [sm2, Bool.and_eq_true, decide_eq_true_eq] at h
    refine ⟨h.1, j, rfl, fun d hd => ?_⟩
    obtain ⟨i, hi, rfl⟩ := List.getElem_of_mem hd
    exact sm2L_get h.2 (List.getElem?_eq_getElem hi)
theorem sm2_lst_inv {k : Nat} {l : List D} (h : sm2 k (.lst l) = true) : l.length ≤ 1000 ∧ ∃ j, k = j + 1 ∧ ∀ d ∈ l, sm2 j d = true := by
  cases k with
  | zero => exact absurd h (by simp [sm2])
  | succ j =>
    simp only [sm2, Bool.and_eq_true, decide_eq_true_eq] at h
    refine ⟨h.1, j, rfl, fun d hd => ?_⟩
    obtain ⟨i, hi, rfl⟩ := List.getElem_of_mem hd
    exact sm2L_get h.2 (List.getElem?_eq_getElem hi)
theorem sm2L_of {k : Nat} {l : List D} : (∀ d ∈ l, sm2 k d = true) → sm2L k l = true := by
  induction l with
  | nil => intro _; rfl
  | cons d l ih =>
    intro h
    simp only [sm2L, Bool.and_eq_true]
    exact ⟨h d List.mem_cons_self, ih fun x hx => h x (List.mem_cons_of_mem _ hx)⟩
theorem sm2_tup {k : Nat} {l : List D} (hl : l.length ≤ 1000) (h : ∀ d ∈ l, sm2 k d = true) : sm2 (k + 1) (.tup l) = true := by
  show (decide _ && sm2L k l) = true
  rw [Bool.and_eq_true]
  exact ⟨decide_eq_true hl, sm2L_of h⟩
theorem sm2_lst {k : Nat} {l : List D} (hl : l.length ≤ 1000) (h : ∀ d ∈ l, sm2 k d = true) : sm2 (k + 1) (.lst l) = true := by
  show (decide _ && sm2L k l) = true
  rw [Bool.and_eq_true]
  exact ⟨decide_eq_true hl, sm2L_of h⟩
theorem sm2_int (k : Nat) (i : Int) : sm2 k (.int i) = true := by cases k <;> rfl
/-! frozen -/
def fzv : Nat → D → D
  | k + 1, .tup l => .tup (l.map (fzv k))
  | k + 1, .lst l => .tup (l.map (fzv k))
  | _, d => d
theorem fzv_below : ∀ (k : Nat) (d : D), sm2 k d = true → ∀ n, below n (fzv k d) = true
  | 0, d, h, n => by
    cases d <;> first | rfl | (simp [sm2] at h)
  | k + 1, d, h, n => by
    cases d with
    | tup l =>
      obtain ⟨_, j, e, hj⟩ := sm2_tup_inv h
      cases e
      exact belowL_of fun x hx => by
        obtain ⟨y, hy, rfl⟩ := List.mem_map.mp hx
        exact fzv_below k y (hj y hy) n
    | lst l =>
      obtain ⟨_, j, e, hj⟩ := sm2_lst_inv h
      cases e
      exact belowL_of fun x hx => by
        obtain ⟨y, hy, rfl⟩ := List.mem_map.mp hx
        exact fzv_below k y (hj y hy) n
    | _ => first | rfl | (simp [sm2] at h)
theorem seq_of (n : Nat) {d : D} (hd : plv d = true) (S : Store) : run T (n + 1) 4 [d] S = .ok (.bl (match d with
    | .tup _ => true
    | .lst _ => true
    | _ => false)) S := by
  rw [run_def (F := ⟨1, 1, b4, true⟩) rfl rfl]
  cases d with
  | ref i => simp [plv] at hd
  | obj c l => simp [plv] at hd
  | _ => first | (simp (dsimp := false) (implicitDefEqProofs := false) [b4, exSs, exS, evE.eq_1, evE.eq_2, evE.eq_3, evE.eq_4, evE.eq_5, evE.eq_6, evE.eq_7, evE.eq_8, evE.eq_9, evE.eq_10, evE.eq_11, evE.eq_12, evE.eq_13, evE.eq_14, evE.eq_15, evE.eq_16, evE.eq_17, evE.eq_18, evE.eq_19, evE.eq_20, evE.eq_21, evE.eq_22, evE.eq_23, evE.eq_24, evE.eq_25, evE.eq_26, evE.eq_27, evE.eq_28, evE.eq_31, evE.eq_32, evE.eq_33, evE.eq_34, evE.eq_35, evE.eq_36, evE.eq_37, evE.eq_38, evT, evL, evI, evC, evW, startF, setS, idxD, seqOf, ixN, binD, arI, setI, cmpD, intCmp, cmpI, truD, isAny, isD, isNo, pln, vw, eqD, biD, tidy_same, tidyx_same, wipe]) | (simp [plv] at hd)
theorem f_fz : ∀ (k : Nat) (d : D), sm2 k d = true → ∀ (n : Nat) (S : Store), run T (n + k + 2) 9 [d] S = .ok (fzv k d) S
  | 0, d, h, n, S => by
    have e := seq_of n (sm_plv h) S
    rw [run_def (F := ⟨1, 2, b9, true⟩) rfl rfl]
    cases d <;> first | (simp [sm2] at h; done) | (simp (dsimp := false) (implicitDefEqProofs := false) [b9, e, fzv, exSs, exS, evE.eq_1, evE.eq_2, evE.eq_3, evE.eq_4, evE.eq_5, evE.eq_6, evE.eq_7, evE.eq_8, evE.eq_9, evE.eq_10, evE.eq_11, evE.eq_12, evE.eq_13, evE.eq_14, evE.eq_15, evE.eq_16, evE.eq_17, evE.eq_18, evE.eq_19, evE.eq_20, evE.eq_21, evE.eq_22, evE.eq_23, evE.eq_24, evE.eq_25, evE.eq_26, evE.eq_27, evE.eq_28, evE.eq_31, evE.eq_32, evE.eq_33, evE.eq_34, evE.eq_35, evE.eq_36, evE.eq_37, evE.eq_38, evT, evL, evI, evC, evW, startF, setS, idxD, seqOf, ixN, binD, arI, setI, cmpD, intCmp, cmpI, truD, isAny, isD, isNo, pln, vw, eqD, biD, tidy_same, tidyx_same, wipe])
  | k + 1, d, h, n, S => by
    have e := seq_of (n + k + 1) (sm_plv h) S
    rw [show n + (k + 1) + 2 = (n + k + 1 + 1) + 1 by omega, run_def (F := ⟨1, 2, b9, true⟩) rfl rfl]
    have key : ∀ (l : List D), l.length ≤ 1000 → (∀ d ∈ l, sm2 k d = true) → ∀ w : D, (w = .tup l ∨ w = .lst l) → evE (csOf T (n + k + 1 + 1)) (.lc false [1] (.nm 1) (.seq (.var 0)) .no b9e0) [some w, none] S = .ok (.lst (l.map (fzv k))) S := by
      intro l hl hs w hw
      refine lc_map (g := []) (fzv k) ?_ (fun c => gOk_nil _) (fun d hd x => ⟨_, rfl, ?_⟩) (lim_le hl) (belowL_of fun x hx => by
        obtain ⟨y, hy, rfl⟩ := List.mem_map.mp hx
        exact fzv_below k y (hs y hy) _)
      · rcases hw with rfl | rfl <;> simp (dsimp := false) (implicitDefEqProofs := false) [seqIt, Ev.guard, exSs, exS, evE.eq_1, evE.eq_2, evE.eq_3, evE.eq_4, evE.eq_5, evE.eq_6, evE.eq_7, evE.eq_8, evE.eq_9, evE.eq_10, evE.eq_11, evE.eq_12, evE.eq_13, evE.eq_14, evE.eq_15, evE.eq_16, evE.eq_17, evE.eq_18, evE.eq_19, evE.eq_20, evE.eq_21, evE.eq_22, evE.eq_23, evE.eq_24, evE.eq_25, evE.eq_26, evE.eq_27, evE.eq_28, evE.eq_31, evE.eq_32, evE.eq_33, evE.eq_34, evE.eq_35, evE.eq_36, evE.eq_37, evE.eq_38, evT, evL, evI, evC, evW, startF, setS, idxD, seqOf, ixN, binD, arI, setI, cmpD, intCmp, cmpI, truD, isAny, isD, isNo, pln, vw, eqD, biD, tidy_same, tidyx_same, wipe]
      · have := f_fz k d (hs d hd) n (S ++ [x])
        rcases hw with rfl | rfl <;> simp (dsimp := false) (implicitDefEqProofs := false) [b9e0, this, exSs, exS, evE.eq_1, evE.eq_2, evE.eq_3, evE.eq_4, evE.eq_5, evE.eq_6, evE.eq_7, evE.eq_8, evE.eq_9, evE.eq_10, evE.eq_11, evE.eq_12, evE.eq_13, evE.eq_14, evE.eq_15, evE.eq_16, evE.eq_17, evE.eq_18, evE.eq_19, evE.eq_20, evE.eq_21, evE.eq_22, evE.eq_23, evE.eq_24, evE.eq_25, evE.eq_26, evE.eq_27, evE.eq_28, evE.eq_31, evE.eq_32, evE.eq_33, evE.eq_34, evE.eq_35, evE.eq_36, evE.eq_37, evE.eq_38, evT, evL, evI, evC, evW, startF, setS, idxD, seqOf, ixN, binD, arI, setI, cmpD, intCmp, cmpI, truD, isAny, isD, isNo, pln, vw, eqD, biD, tidy_same, tidyx_same, wipe]
    cases d with
    | tup l =>
      obtain ⟨hl, j, ej, hj⟩ := sm2_tup_inv h
      cases ej
      have e2 := key l hl hj _ (.inl rfl)
      simp (dsimp := false) (implicitDefEqProofs := false) [b9, e, e2, fzv, lstOf, lim_le hl, exSs, exS, evE.eq_1, evE.eq_2, evE.eq_3, evE.eq_4, evE.eq_5, evE.eq_6, evE.eq_7, evE.eq_8, evE.eq_9, evE.eq_10, evE.eq_11, evE.eq_12, evE.eq_13, evE.eq_14, evE.eq_15, evE.eq_16, evE.eq_17, evE.eq_18, evE.eq_19, evE.eq_20, evE.eq_21, evE.eq_22, evE.eq_23, evE.eq_24, evE.eq_25, evE.eq_26, evE.eq_27, evE.eq_28, evE.eq_31, evE.eq_32, evE.eq_33, evE.eq_34, evE.eq_35, evE.eq_36, evE.eq_37, evE.eq_38, evT, evL, evI, evC, evW, startF, setS, idxD, seqOf, ixN, binD, arI, setI, cmpD, intCmp, cmpI, truD, isAny, isD, isNo, pln, vw, eqD, biD, tidy_same, tidyx_same, wipe]
    | lst l =>
      obtain ⟨hl, j, ej, hj⟩ := sm2_lst_inv h
      cases ej
      have e2 := key l hl hj _ (.inr rfl)
      simp (dsimp := false) (implicitDefEqProofs := false) [b9, e, e2, fzv, lstOf, lim_le hl, exSs, exS, evE.eq_1, evE.eq_2, evE.eq_3, evE.eq_4, evE.eq_5, evE.eq_6, evE.eq_7, evE.eq_8, evE.eq_9, evE.eq_10, evE.eq_11, evE.eq_12, evE.eq_13, evE.eq_14, evE.eq_15, evE.eq_16, evE.eq_17, evE.eq_18, evE.eq_19, evE.eq_20, evE.eq_21, evE.eq_22, evE.eq_23, evE.eq_24, evE.eq_25, evE.eq_26, evE.eq_27, evE.eq_28, evE.eq_31, evE.eq_32, evE.eq_33, evE.eq_34, evE.eq_35, evE.eq_36, evE.eq_37, evE.eq_38, evT, evL, evI, evC, evW, startF, setS, idxD, seqOf, ixN, binD, arI, setI, cmpD, intCmp, cmpI, truD, isAny, isD, isNo, pln, vw, eqD, biD, tidy_same, tidyx_same, wipe]
    | _ => first | (simp [sm2] at h; done) | (simp (dsimp := false) (implicitDefEqProofs := false) [b9, e, fzv, exSs, exS, evE.eq_1, evE.eq_2, evE.eq_3, evE.eq_4, evE.eq_5, evE.eq_6, evE.eq_7, evE.eq_8, evE.eq_9, evE.eq_10, evE.eq_11, evE.eq_12, evE.eq_13, evE.eq_14, evE.eq_15, evE.eq_16, evE.eq_17, evE.eq_18, evE.eq_19, evE.eq_20, evE.eq_21, evE.eq_22, evE.eq_23, evE.eq_24, evE.eq_25, evE.eq_26, evE.eq_27, evE.eq_28, evE.eq_31, evE.eq_32, evE.eq_33, evE.eq_34, evE.eq_35, evE.eq_36, evE.eq_37, evE.eq_38, evT, evL, evI, evC, evW, startF, setS, idxD, seqOf, ixN, binD, arI, setI, cmpD, intCmp, cmpI, truD, isAny, isD, isNo, pln, vw, eqD, biD, tidy_same, tidyx_same, wipe])
theorem sm2_fzv : ∀ (k : Nat) (d : D), sm2 k d = true → sm2 k (fzv k d) = true
  | 0, d, h => by cases d <;> first | exact h | rfl
  | k + 1, d, h => by
    cases d with
    | tup l =>
      obtain ⟨hl, j, e, hj⟩ := sm2_tup_inv h
      cases e
      exact sm2_tup (by simpa using hl) fun x hx => by
        obtain ⟨y, hy, rfl⟩ := List.mem_map.mp hx
        exact sm2_fzv k y (hj y hy)
    | lst l =>
      obtain ⟨hl, j, e, hj⟩ := sm2_lst_inv h
      cases e
      exact sm2_tup (by simpa using hl) fun x hx => by
        obtain ⟨y, hy, rfl⟩ := List.mem_map.mp hx
        exact sm2_fzv k y (hj y hy)
    | _ => exact h
/-! lots and no lots -/
def btw (a b : Int) : D → Bool
  | .int i => decide (a ≤ i) && decide (i ≤ b)
  | _ => false
theorem f_btw (n : Nat) {d : D} (hd : plv d = true) (a b : Int) (S : Store) : run T (n + 2) 3 [d, .int a, .int b] S = .ok (.bl (btw a b d)) S := by
  have e := f_int_g n hd S
  rw [run_def (F := ⟨3, 3, b3, true⟩) rfl rfl]
  cases d with
  | ref i => simp [plv] at hd
  | obj c l => simp [plv] at hd
  | int i =>
    by_cases h1 : a ≤ i
    · simp (dsimp := false) (implicitDefEqProofs := false) [b3, e, isI, btw, h1, exSs, exS, evE.eq_1, evE.eq_2, evE.eq_3, evE.eq_4, evE.eq_5, evE.eq_6, evE.eq_7, evE.eq_8, evE.eq_9, evE.eq_10, evE.eq_11, evE.eq_12, evE.eq_13, evE.eq_14, evE.eq_15, evE.eq_16, evE.eq_17, evE.eq_18, evE.eq_19, evE.eq_20, evE.eq_21, evE.eq_22, evE.eq_23, evE.eq_24, evE.eq_25, evE.eq_26, evE.eq_27, evE.eq_28, evE.eq_31, evE.eq_32, evE.eq_33, evE.eq_34, evE.eq_35, evE.eq_36, evE.eq_37, evE.eq_38, evT, evL, evI, evC, evW, startF, setS, idxD, seqOf, ixN, binD, arI, setI, cmpD, intCmp, cmpI, truD, isAny, isD, isNo, pln, vw, eqD, biD, tidy_same, tidyx_same, wipe]
    · simp (dsimp := false) (implicitDefEqProofs := false) [b3, e, isI, btw, h1, exSs, exS, evE.eq_1, evE.eq_2, evE.eq_3, evE.eq_4, evE.eq_5, evE.eq_6, evE.eq_7, evE.eq_8, evE.eq_9, evE.eq_10, evE.eq_11, evE.eq_12, evE.eq_13, evE.eq_14, evE.eq_15, evE.eq_16, evE.eq_17, evE.eq_18, evE.eq_19, evE.eq_20, evE.eq_21, evE.eq_22, evE.eq_23, evE.eq_24, evE.eq_25, evE.eq_26, evE.eq_27, evE.eq_28, evE.eq_31, evE.eq_32, evE.eq_33, evE.eq_34, evE.eq_35, evE.eq_36, evE.eq_37, evE.eq_38, evT, evL, evI, evC, evW, startF, setS, idxD, seqOf, ixN, binD, arI, setI, cmpD, intCmp, cmpI, truD, isAny, isD, isNo, pln, vw, eqD, biD, tidy_same, tidyx_same, wipe]
  | _ => first | (simp (dsimp := false) (implicitDefEqProofs := false) [b3, e, isI, btw, exSs, exS, evE.eq_1, evE.eq_2, evE.eq_3, evE.eq_4, evE.eq_5, evE.eq_6, evE.eq_7, evE.eq_8, evE.eq_9, evE.eq_10, evE.eq_11, evE.eq_12, evE.eq_13, evE.eq_14, evE.eq_15, evE.eq_16, evE.eq_17, evE.eq_18, evE.eq_19, evE.eq_20, evE.eq_21, evE.eq_22, evE.eq_23, evE.eq_24, evE.eq_25, evE.eq_26, evE.eq_27, evE.eq_28, evE.eq_31, evE.eq_32, evE.eq_33, evE.eq_34, evE.eq_35, evE.eq_36, evE.eq_37, evE.eq_38, evT, evL, evI, evC, evW, startF, setS, idxD, seqOf, ixN, binD, arI, setI, cmpD, intCmp, cmpI, truD, isAny, isD, isNo, pln, vw, eqD, biD, tidy_same, tidyx_same, wipe]) | (simp [plv] at hd)
def unI : D → Int
  | .int i => i
  | _ => 0
theorem ints_of {l : List D} (h : l.all isI = true) : l = (l.map unI).map .int := by
  induction l with
  | nil => rfl
  | cons d l ih =>
    rw [List.all_cons, Bool.and_eq_true] at h
    rw [List.map_cons, List.map_cons, ← ih h.2]
    have : d = .int (unI d) := by
      cases d <;> first | rfl | (exact absurd h.1 (by simp [isI]))
    rw [← this]
def rbB (z : Int) : D → Bool
  | .tup l => l.all isI && (ris (l.map unI) && (l.map unI).all (inZ z))
  | _ => false
def lotB (z : Int) : D → Bool
  | .tup l => rbB z (.tup l) && decide (0 < l.length)
  | _ => false
theorem f_rb (n : Nat) {k : Nat} {d : D} (hd : sm2 k d = true) (z : Int) (S : Store) : run T (n + 4) 7 [d, .int z] S = .ok (.bl (rbB z d)) S := by
  have pl := sm_plv hd
  cases d with
  | tup l =>
    obtain ⟨hl, j, e, hj⟩ := sm2_tup_inv hd
    cases ha : l.all isI with
    | true =>
      have hi := ints_of ha
      have := f_rbelow_g n (l.map unI) (by simpa using hl) z S
      unfold tupI at this
      rw [← hi] at this
      rw [this]
      simp only [rbB, ha, Bool.true_and]
    | false =>
      rw [wr_non (z := z) (fun d hd => sm_plv (hj d hd)) hl ha n S]
      simp only [rbB, ha, Bool.false_and]
  | ref i => simp [plv] at pl
  | obj c l => simp [plv] at pl
  | non => exact wr_plain rfl (fun l h => by cases h) n S
  | bl b => exact wr_plain rfl (fun l h => by cases h) n S
  | int i => exact wr_plain rfl (fun l h => by cases h) n S
  | str s => exact wr_plain rfl (fun l h => by cases h) n S
  | lst l => exact wr_plain rfl (fun l h => by cases h) n S
theorem f_lotg (n : Nat) {k : Nat} {d : D} (hd : sm2 k d = true) (z : Int) (S : Store) : run T (n + 5) 11 [d, .int z] S = .ok (.bl (lotB z d)) S := by
  have e := f_rb n hd z S
  rw [run_def (F := ⟨2, 2, b11, true⟩) rfl rfl]
  cases d with
  | tup l =>
    cases hb : rbB z (.tup l) with
    | true => rw [hb] at e; simp (dsimp := false) (implicitDefEqProofs := false) [b11, e, lotB, hb, exSs, exS, evE.eq_1, evE.eq_2, evE.eq_3, evE.eq_4, evE.eq_5, evE.eq_6, evE.eq_7, evE.eq_8, evE.eq_9, evE.eq_10, evE.eq_11, evE.eq_12, evE.eq_13, evE.eq_14, evE.eq_15, evE.eq_16, evE.eq_17, evE.eq_18, evE.eq_19, evE.eq_20, evE.eq_21, evE.eq_22, evE.eq_23, evE.eq_24, evE.eq_25, evE.eq_26, evE.eq_27, evE.eq_28, evE.eq_31, evE.eq_32, evE.eq_33, evE.eq_34, evE.eq_35, evE.eq_36, evE.eq_37, evE.eq_38, evT, evL, evI, evC, evW, startF, setS, idxD, seqOf, ixN, binD, arI, setI, cmpD, intCmp, cmpI, truD, isAny, isD, isNo, pln, vw, eqD, biD, tidy_same, tidyx_same, wipe]
    | false => rw [hb] at e; simp (dsimp := false) (implicitDefEqProofs := false) [b11, e, lotB, hb, exSs, exS, evE.eq_1, evE.eq_2, evE.eq_3, evE.eq_4, evE.eq_5, evE.eq_6, evE.eq_7, evE.eq_8, evE.eq_9, evE.eq_10, evE.eq_11, evE.eq_12, evE.eq_13, evE.eq_14, evE.eq_15, evE.eq_16, evE.eq_17, evE.eq_18, evE.eq_19, evE.eq_20, evE.eq_21, evE.eq_22, evE.eq_23, evE.eq_24, evE.eq_25, evE.eq_26, evE.eq_27, evE.eq_28, evE.eq_31, evE.eq_32, evE.eq_33, evE.eq_34, evE.eq_35, evE.eq_36, evE.eq_37, evE.eq_38, evT, evL, evI, evC, evW, startF, setS, idxD, seqOf, ixN, binD, arI, setI, cmpD, intCmp, cmpI, truD, isAny, isD, isNo, pln, vw, eqD, biD, tidy_same, tidyx_same, wipe]
  | _ =>
    simp only [rbB] at e
    simp (dsimp := false) (implicitDefEqProofs := false) [b11, e, lotB, exSs, exS, evE.eq_1, evE.eq_2, evE.eq_3, evE.eq_4, evE.eq_5, evE.eq_6, evE.eq_7, evE.eq_8, evE.eq_9, evE.eq_10, evE.eq_11, evE.eq_12, evE.eq_13, evE.eq_14, evE.eq_15, evE.eq_16, evE.eq_17, evE.eq_18, evE.eq_19, evE.eq_20, evE.eq_21, evE.eq_22, evE.eq_23, evE.eq_24, evE.eq_25, evE.eq_26, evE.eq_27, evE.eq_28, evE.eq_31, evE.eq_32, evE.eq_33, evE.eq_34, evE.eq_35, evE.eq_36, evE.eq_37, evE.eq_38, evT, evL, evI, evC, evW, startF, setS, idxD, seqOf, ixN, binD, arI, setI, cmpD, intCmp, cmpI, truD, isAny, isD, isNo, pln, vw, eqD, biD, tidy_same, tidyx_same, wipe]
end Lw
end
section
set_option maxRecDepth 100000
set_option maxHeartbeats 8000000
namespace Lw
open Ev Lg
theorem sm2_below : ∀ (k : Nat) (d : D), sm2 k d = true → ∀ n, below n d = true
  | 0, d, h, n => by
    cases d <;> first | rfl | (simp [sm2] at h; done)
  | k + 1, d, h, n => by
    cases d with
    | tup l =>
      obtain ⟨_, j, e, hj⟩ := sm2_tup_inv h
      cases e
      exact belowL_of fun x hx => sm2_below k x (hj x hx) n
    | lst l =>
      obtain ⟨_, j, e, hj⟩ := sm2_lst_inv h
      cases e
      exact belowL_of fun x hx => sm2_below k x (hj x hx) n
    | _ => first | rfl | (simp [sm2] at h; done)
/-! twice the same lot -/
theorem adj_nd : ∀ G : List (List Int), G.Pairwise (fun a b => lexL b a = false) → (∀ k, k + 1 < G.length → G.getD k [] ≠ G.getD (k + 1) []) → G.Nodup
  | [], _, _ => List.nodup_nil
  | [a], _, _ => by simp
  | a :: b :: r, h, hn => by
    obtain ⟨h1, h2⟩ := List.pairwise_cons.mp h
    have ih := adj_nd (b :: r) h2 fun k hk => hn (k + 1) (by simp at hk ⊢; omega)
    rw [List.nodup_cons]
    refine ⟨fun z => ?_, ih⟩
    have e0 : a ≠ b := hn 0 (by simp)
    rcases List.mem_cons.mp z with z | z
    · exact e0 z
    · obtain ⟨h3, _⟩ := List.pairwise_cons.mp h2
      exact e0 (lexL_eq a b (h3 a z) (h1 b List.mem_cons_self))
def unk (G : List (List Int)) (k : Nat) : Bool := !decide (G.getD k [] = G.getD (k + 1) [])
theorem f_unl (n : Nat) (F : List (List Int)) (hl : F.length ≤ 1000) (hn : ¬ F.Nodup) (hne : ∀ r ∈ F, r ≠ []) (S : Store) : run T (n + 1) 8 [.tup (F.map tupI)] S = .ok (.bl false) S := by
  rw [run_def (F := ⟨1, 3, b8, true⟩) rfl rfl]
  have hl' : (sortT F).length ≤ 1000 := by rw [sortT_len]; exact hl
  have lim := lim_le (n := (sortT F).length - 1) (by omega)
  have em : ((upTo 0 ((sortT F).length - 1)).map fun d => match d with
      | .int i => D.bl (unk (sortT F) i.toNat)
      | _ => .non) = (List.range ((sortT F).length - 1)).map fun k => .bl (unk (sortT F) k) := by
    rw [upTo0, List.map_map]
    rfl
  have e := lc_map (C := csOf T n) (own := [2]) (tg := .nm 2) (it := .rng (.cons (.bin .sub false (.bi .len false (.cons (.var 1) .nil)) (.int 1)) .nil)) (e := b8e0) (ρ := [some (.tup (F.map tupI)), some (.lst ((sortT F).map tupI)), none]) (S := S) (l := upTo 0 ((sortT F).length - 1)) (g := []) (fun d => match d with
      | .int i => D.bl (unk (sortT F) i.toNat)
      | _ => .non)
    (by simp (dsimp := false) (implicitDefEqProofs := false) [rng1 hl', exSs, exS, evE.eq_1, evE.eq_2, evE.eq_3, evE.eq_4, evE.eq_5, evE.eq_6, evE.eq_7, evE.eq_8, evE.eq_9, evE.eq_10, evE.eq_11, evE.eq_12, evE.eq_13, evE.eq_14, evE.eq_15, evE.eq_16, evE.eq_17, evE.eq_18, evE.eq_19, evE.eq_20, evE.eq_21, evE.eq_22, evE.eq_23, evE.eq_24, evE.eq_25, evE.eq_26, evE.eq_27, evE.eq_28, evE.eq_31, evE.eq_32, evE.eq_33, evE.eq_34, evE.eq_35, evE.eq_36, evE.eq_37, evE.eq_38, evT, evL, evI, evC, evW, startF, setS, idxD, seqOf, ixN, binD, arI, setI, cmpD, intCmp, cmpI, truD, isAny, isD, isNo, pln, vw, eqD, biD, tidy_same, tidyx_same, wipe, evHx, evHl, evHt, evHs, Rs.os, toR, Rs.nox]) (fun c => gOk_nil _) (fun d hd x => ⟨_, rfl, by
      rw [upTo0] at hd
      obtain ⟨i, hi, rfl⟩ := List.mem_map.mp hd
      have hi := List.mem_range.mp hi
      have h0 : i < (sortT F).length := by omega
      have h1 : i + 1 < (sortT F).length := by omega
      have h0' : (i : Int) < (sortT F).length := by omega
      have h1' : (i : Int) + 1 < (sortT F).length := by omega
      have t : ((i : Int) + 1).toNat = i + 1 := by omega
      have p : (0 : Int) ≤ (i : Int) + 1 := by omega
      by_cases q : (sortT F)[i] = (sortT F)[i + 1]
      · simp (dsimp := false) (implicitDefEqProofs := false) [b8e0, h0, h1, h0', h1', t, p, q, pln_tupI, eqD_tupI, tupI, unk, exSs, exS, evE.eq_1, evE.eq_2, evE.eq_3, evE.eq_4, evE.eq_5, evE.eq_6, evE.eq_7, evE.eq_8, evE.eq_9, evE.eq_10, evE.eq_11, evE.eq_12, evE.eq_13, evE.eq_14, evE.eq_15, evE.eq_16, evE.eq_17, evE.eq_18, evE.eq_19, evE.eq_20, evE.eq_21, evE.eq_22, evE.eq_23, evE.eq_24, evE.eq_25, evE.eq_26, evE.eq_27, evE.eq_28, evE.eq_31, evE.eq_32, evE.eq_33, evE.eq_34, evE.eq_35, evE.eq_36, evE.eq_37, evE.eq_38, evT, evL, evI, evC, evW, startF, setS, idxD, seqOf, ixN, binD, arI, setI, cmpD, intCmp, cmpI, truD, isAny, isD, isNo, pln, vw, eqD, biD, tidy_same, tidyx_same, wipe, evHx, evHl, evHt, evHs, Rs.os, toR, Rs.nox]
      · simp (dsimp := false) (implicitDefEqProofs := false) [b8e0, h0, h1, h0', h1', t, p, q, pln_tupI, eqD_tupI, tupI, unk, exSs, exS, evE.eq_1, evE.eq_2, evE.eq_3, evE.eq_4, evE.eq_5, evE.eq_6, evE.eq_7, evE.eq_8, evE.eq_9, evE.eq_10, evE.eq_11, evE.eq_12, evE.eq_13, evE.eq_14, evE.eq_15, evE.eq_16, evE.eq_17, evE.eq_18, evE.eq_19, evE.eq_20, evE.eq_21, evE.eq_22, evE.eq_23, evE.eq_24, evE.eq_25, evE.eq_26, evE.eq_27, evE.eq_28, evE.eq_31, evE.eq_32, evE.eq_33, evE.eq_34, evE.eq_35, evE.eq_36, evE.eq_37, evE.eq_38, evT, evL, evI, evC, evW, startF, setS, idxD, seqOf, ixN, binD, arI, setI, cmpD, intCmp, cmpI, truD, isAny, isD, isNo, pln, vw, eqD, biD, tidy_same, tidyx_same, wipe, evHx, evHl, evHt, evHs, Rs.os, toR, Rs.nox]⟩) (by simpa [upTo0] using lim) (by rw [em]; exact belowL_of fun d hd => by obtain ⟨i, _, rfl⟩ := List.mem_map.mp hd; rfl)
  rw [em] at e
  have e2 := allBl_map (unk (sortT F)) (List.range ((sortT F).length - 1))
  have e3 : ((List.range ((sortT F).length - 1)).map (unk (sortT F))).all id = false := by
    cases hb : ((List.range ((sortT F).length - 1)).map (unk (sortT F))).all id with
    | false => rfl
    | true =>
      exfalso
      have nd := adj_nd (sortT F) (sortT_sorted F) fun k hk z => by
        have := List.all_eq_true.mp hb (unk (sortT F) k) (List.mem_map.mpr ⟨k, List.mem_range.mpr (by omega), rfl⟩)
        unfold unk at this
        rw [decide_eq_true z] at this
        exact absurd this (by decide)
      exact hn ((sortT_perm F).nodup_iff.mp nd)
  rcases sorted_or F with rfl | h0
  · exact absurd List.nodup_nil hn
  · simp (dsimp := false) (implicitDefEqProofs := false) [b8, h0, allTup_tups F hne, mkL, e, lstOf, e2, e3, -List.map_map, -List.all_map, exSs, exS, evE.eq_1, evE.eq_2, evE.eq_3, evE.eq_4, evE.eq_5, evE.eq_6, evE.eq_7, evE.eq_8, evE.eq_9, evE.eq_10, evE.eq_11, evE.eq_12, evE.eq_13, evE.eq_14, evE.eq_15, evE.eq_16, evE.eq_17, evE.eq_18, evE.eq_19, evE.eq_20, evE.eq_21, evE.eq_22, evE.eq_23, evE.eq_24, evE.eq_25, evE.eq_26, evE.eq_27, evE.eq_28, evE.eq_31, evE.eq_32, evE.eq_33, evE.eq_34, evE.eq_35, evE.eq_36, evE.eq_37, evE.eq_38, evT, evL, evI, evC, evW, startF, setS, idxD, seqOf, ixN, binD, arI, setI, cmpD, intCmp, cmpI, truD, isAny, isD, isNo, pln, vw, eqD, biD, tidy_same, tidyx_same, wipe, evHx, evHl, evHt, evHs, Rs.os, toR, Rs.nox]
/-! no lots -/
def No (size kept : D) : Prop := ∀ (n : Nat) (S : Store), run T (n + 7) 12 [size, kept] S = .ok (.bl false) S
theorem no_size {k : Nat} {size kept : D} (hs : sm2 k size = true) (hb : btw 0 8 size = false) : No size kept := fun n S => by
  have e := f_btw (n + 4) (sm_plv hs) 0 8 S
  rw [hb] at e
  have gl : T.glb[0]? = some (.int 8) := rfl
  rw [run_def (F := ⟨2, 3, b12, true⟩) rfl rfl]
  simp (dsimp := false) (implicitDefEqProofs := false) [b12, e, gl, exSs, exS, evE.eq_1, evE.eq_2, evE.eq_3, evE.eq_4, evE.eq_5, evE.eq_6, evE.eq_7, evE.eq_8, evE.eq_9, evE.eq_10, evE.eq_11, evE.eq_12, evE.eq_13, evE.eq_14, evE.eq_15, evE.eq_16, evE.eq_17, evE.eq_18, evE.eq_19, evE.eq_20, evE.eq_21, evE.eq_22, evE.eq_23, evE.eq_24, evE.eq_25, evE.eq_26, evE.eq_27, evE.eq_28, evE.eq_31, evE.eq_32, evE.eq_33, evE.eq_34, evE.eq_35, evE.eq_36, evE.eq_37, evE.eq_38, evT, evL, evI, evC, evW, startF, setS, idxD, seqOf, ixN, binD, arI, setI, cmpD, intCmp, cmpI, truD, isAny, isD, isNo, pln, vw, eqD, biD, tidy_same, tidyx_same, wipe, evHx, evHl, evHt, evHs, Rs.os, toR, Rs.nox]
theorem no_mem {k : Nat} {size kept : D} (hs : sm2 k size = true) (hk : plv kept = true) (ht : ∀ l, kept ≠ .tup l) : No size kept := fun n S => by
  have e := f_btw (n + 4) (sm_plv hs) 0 8 S
  have gl : T.glb[0]? = some (.int 8) := rfl
  rw [run_def (F := ⟨2, 3, b12, true⟩) rfl rfl]
  cases hb : btw 0 8 size with
  | false => rw [hb] at e; simp (dsimp := false) (implicitDefEqProofs := false) [b12, e, gl, exSs, exS, evE.eq_1, evE.eq_2, evE.eq_3, evE.eq_4, evE.eq_5, evE.eq_6, evE.eq_7, evE.eq_8, evE.eq_9, evE.eq_10, evE.eq_11, evE.eq_12, evE.eq_13, evE.eq_14, evE.eq_15, evE.eq_16, evE.eq_17, evE.eq_18, evE.eq_19, evE.eq_20, evE.eq_21, evE.eq_22, evE.eq_23, evE.eq_24, evE.eq_25, evE.eq_26, evE.eq_27, evE.eq_28, evE.eq_31, evE.eq_32, evE.eq_33, evE.eq_34, evE.eq_35, evE.eq_36, evE.eq_37, evE.eq_38, evT, evL, evI, evC, evW, startF, setS, idxD, seqOf, ixN, binD, arI, setI, cmpD, intCmp, cmpI, truD, isAny, isD, isNo, pln, vw, eqD, biD, tidy_same, tidyx_same, wipe, evHx, evHl, evHt, evHs, Rs.os, toR, Rs.nox]
  | true =>
    rw [hb] at e
    cases kept with
    | ref i => simp [plv] at hk
    | obj c l => simp [plv] at hk
    | tup l => exact absurd rfl (ht l)
    | _ => first | (simp (dsimp := false) (implicitDefEqProofs := false) [b12, e, gl, exSs, exS, evE.eq_1, evE.eq_2, evE.eq_3, evE.eq_4, evE.eq_5, evE.eq_6, evE.eq_7, evE.eq_8, evE.eq_9, evE.eq_10, evE.eq_11, evE.eq_12, evE.eq_13, evE.eq_14, evE.eq_15, evE.eq_16, evE.eq_17, evE.eq_18, evE.eq_19, evE.eq_20, evE.eq_21, evE.eq_22, evE.eq_23, evE.eq_24, evE.eq_25, evE.eq_26, evE.eq_27, evE.eq_28, evE.eq_31, evE.eq_32, evE.eq_33, evE.eq_34, evE.eq_35, evE.eq_36, evE.eq_37, evE.eq_38, evT, evL, evI, evC, evW, startF, setS, idxD, seqOf, ixN, binD, arI, setI, cmpD, intCmp, cmpI, truD, isAny, isD, isNo, pln, vw, eqD, biD, tidy_same, tidyx_same, wipe, evHx, evHl, evHt, evHs, Rs.os, toR, Rs.nox]) | (simp [plv] at hk)
theorem no_lot {s : Nat} {l : List D} (hl : l.length ≤ 1000) (h : ∀ d ∈ l, sm2 2 d = true) {d : D} (hd : d ∈ l) (hb : lotB (s : Nat) d = false) : No (.int (s : Nat)) (.tup l) := fun n S => by
  have e := f_btw (n + 4) (d := .int (s : Nat)) rfl 0 8 S
  have gl : T.glb[0]? = some (.int 8) := rfl
  rw [run_def (F := ⟨2, 3, b12, true⟩) rfl rfl]
  cases hb2 : btw 0 8 (.int (s : Nat)) with
  | false => rw [hb2] at e; simp (dsimp := false) (implicitDefEqProofs := false) [b12, e, gl, exSs, exS, evE.eq_1, evE.eq_2, evE.eq_3, evE.eq_4, evE.eq_5, evE.eq_6, evE.eq_7, evE.eq_8, evE.eq_9, evE.eq_10, evE.eq_11, evE.eq_12, evE.eq_13, evE.eq_14, evE.eq_15, evE.eq_16, evE.eq_17, evE.eq_18, evE.eq_19, evE.eq_20, evE.eq_21, evE.eq_22, evE.eq_23, evE.eq_24, evE.eq_25, evE.eq_26, evE.eq_27, evE.eq_28, evE.eq_31, evE.eq_32, evE.eq_33, evE.eq_34, evE.eq_35, evE.eq_36, evE.eq_37, evE.eq_38, evT, evL, evI, evC, evW, startF, setS, idxD, seqOf, ixN, binD, arI, setI, cmpD, intCmp, cmpI, truD, isAny, isD, isNo, pln, vw, eqD, biD, tidy_same, tidyx_same, wipe, evHx, evHl, evHt, evHs, Rs.os, toR, Rs.nox]
  | true =>
    rw [hb2] at e
    have e1 := lc_map (C := csOf T (n + 6)) (own := [2]) (tg := .nm 2) (it := .seq (.var 1)) (e := b12e0) (ρ := [some (.int (s : Nat)), some (.tup l), none]) (S := S) (l := l) (g := []) (fun d => .bl (lotB (s : Nat) d))
      (by simp (dsimp := false) (implicitDefEqProofs := false) [seqIt, Ev.guard, exSs, exS, evE.eq_1, evE.eq_2, evE.eq_3, evE.eq_4, evE.eq_5, evE.eq_6, evE.eq_7, evE.eq_8, evE.eq_9, evE.eq_10, evE.eq_11, evE.eq_12, evE.eq_13, evE.eq_14, evE.eq_15, evE.eq_16, evE.eq_17, evE.eq_18, evE.eq_19, evE.eq_20, evE.eq_21, evE.eq_22, evE.eq_23, evE.eq_24, evE.eq_25, evE.eq_26, evE.eq_27, evE.eq_28, evE.eq_31, evE.eq_32, evE.eq_33, evE.eq_34, evE.eq_35, evE.eq_36, evE.eq_37, evE.eq_38, evT, evL, evI, evC, evW, startF, setS, idxD, seqOf, ixN, binD, arI, setI, cmpD, intCmp, cmpI, truD, isAny, isD, isNo, pln, vw, eqD, biD, tidy_same, tidyx_same, wipe, evHx, evHl, evHt, evHs, Rs.os, toR, Rs.nox]) (fun c => gOk_nil _) (fun d hd x => ⟨_, rfl, by
        have := f_lotg (n + 1) (h d hd) (s : Nat) (S ++ [x])
        simp (dsimp := false) (implicitDefEqProofs := false) [b12e0, this, exSs, exS, evE.eq_1, evE.eq_2, evE.eq_3, evE.eq_4, evE.eq_5, evE.eq_6, evE.eq_7, evE.eq_8, evE.eq_9, evE.eq_10, evE.eq_11, evE.eq_12, evE.eq_13, evE.eq_14, evE.eq_15, evE.eq_16, evE.eq_17, evE.eq_18, evE.eq_19, evE.eq_20, evE.eq_21, evE.eq_22, evE.eq_23, evE.eq_24, evE.eq_25, evE.eq_26, evE.eq_27, evE.eq_28, evE.eq_31, evE.eq_32, evE.eq_33, evE.eq_34, evE.eq_35, evE.eq_36, evE.eq_37, evE.eq_38, evT, evL, evI, evC, evW, startF, setS, idxD, seqOf, ixN, binD, arI, setI, cmpD, intCmp, cmpI, truD, isAny, isD, isNo, pln, vw, eqD, biD, tidy_same, tidyx_same, wipe, evHx, evHl, evHt, evHs, Rs.os, toR, Rs.nox]⟩) (lim_le hl) (belowL_of fun d hd => by obtain ⟨i, _, rfl⟩ := List.mem_map.mp hd; rfl)
    have e2 := allBl_map (lotB (s : Nat)) l
    have e3 : (l.map (lotB (s : Nat))).all id = false := by
      cases hq : (l.map (lotB (s : Nat))).all id with
      | false => rfl
      | true =>
        have := List.all_eq_true.mp hq _ (List.mem_map.mpr ⟨d, hd, rfl⟩)
        rw [hb] at this
        exact absurd this (by decide)
    simp (dsimp := false) (implicitDefEqProofs := false) [b12, e, gl, e1, lstOf, e2, e3, -List.map_map, -List.all_map, exSs, exS, evE.eq_1, evE.eq_2, evE.eq_3, evE.eq_4, evE.eq_5, evE.eq_6, evE.eq_7, evE.eq_8, evE.eq_9, evE.eq_10, evE.eq_11, evE.eq_12, evE.eq_13, evE.eq_14, evE.eq_15, evE.eq_16, evE.eq_17, evE.eq_18, evE.eq_19, evE.eq_20, evE.eq_21, evE.eq_22, evE.eq_23, evE.eq_24, evE.eq_25, evE.eq_26, evE.eq_27, evE.eq_28, evE.eq_31, evE.eq_32, evE.eq_33, evE.eq_34, evE.eq_35, evE.eq_36, evE.eq_37, evE.eq_38, evT, evL, evI, evC, evW, startF, setS, idxD, seqOf, ixN, binD, arI, setI, cmpD, intCmp, cmpI, truD, isAny, isD, isNo, pln, vw, eqD, biD, tidy_same, tidyx_same, wipe, evHx, evHl, evHt, evHs, Rs.os, toR, Rs.nox]
theorem no_dup {s : Nat} {F : List (List Int)} (hl : F.length ≤ 1000) (hn : ¬ F.Nodup) (hr : ∀ r ∈ F, r ≠ [] ∧ r.length ≤ 1000) : No (.int (s : Nat)) (.tup (F.map tupI)) := fun n S => by
  have e := f_btw (n + 4) (d := .int (s : Nat)) rfl 0 8 S
  have gl : T.glb[0]? = some (.int 8) := rfl
  rw [run_def (F := ⟨2, 3, b12, true⟩) rfl rfl]
  cases hb2 : btw 0 8 (.int (s : Nat)) with
  | false => rw [hb2] at e; simp (dsimp := false) (implicitDefEqProofs := false) [b12, e, gl, exSs, exS, evE.eq_1, evE.eq_2, evE.eq_3, evE.eq_4, evE.eq_5, evE.eq_6, evE.eq_7, evE.eq_8, evE.eq_9, evE.eq_10, evE.eq_11, evE.eq_12, evE.eq_13, evE.eq_14, evE.eq_15, evE.eq_16, evE.eq_17, evE.eq_18, evE.eq_19, evE.eq_20, evE.eq_21, evE.eq_22, evE.eq_23, evE.eq_24, evE.eq_25, evE.eq_26, evE.eq_27, evE.eq_28, evE.eq_31, evE.eq_32, evE.eq_33, evE.eq_34, evE.eq_35, evE.eq_36, evE.eq_37, evE.eq_38, evT, evL, evI, evC, evW, startF, setS, idxD, seqOf, ixN, binD, arI, setI, cmpD, intCmp, cmpI, truD, isAny, isD, isNo, pln, vw, eqD, biD, tidy_same, tidyx_same, wipe, evHx, evHl, evHt, evHs, Rs.os, toR, Rs.nox]
  | true =>
    rw [hb2] at e
    have h2 : ∀ d ∈ F.map tupI, sm2 2 d = true := fun d hd => by
      obtain ⟨r, hr2, rfl⟩ := List.mem_map.mp hd
      exact sm2_tup (by simpa using (hr r hr2).2) fun x hx => by
        obtain ⟨i, _, rfl⟩ := List.mem_map.mp hx
        exact sm2_int _ _
    have e1 := lc_map (C := csOf T (n + 6)) (own := [2]) (tg := .nm 2) (it := .seq (.var 1)) (e := b12e0) (ρ := [some (.int (s : Nat)), some (.tup (F.map tupI)), none]) (S := S) (l := F.map tupI) (g := []) (fun d => .bl (lotB (s : Nat) d))
      (by simp (dsimp := false) (implicitDefEqProofs := false) [seqIt, Ev.guard, exSs, exS, evE.eq_1, evE.eq_2, evE.eq_3, evE.eq_4, evE.eq_5, evE.eq_6, evE.eq_7, evE.eq_8, evE.eq_9, evE.eq_10, evE.eq_11, evE.eq_12, evE.eq_13, evE.eq_14, evE.eq_15, evE.eq_16, evE.eq_17, evE.eq_18, evE.eq_19, evE.eq_20, evE.eq_21, evE.eq_22, evE.eq_23, evE.eq_24, evE.eq_25, evE.eq_26, evE.eq_27, evE.eq_28, evE.eq_31, evE.eq_32, evE.eq_33, evE.eq_34, evE.eq_35, evE.eq_36, evE.eq_37, evE.eq_38, evT, evL, evI, evC, evW, startF, setS, idxD, seqOf, ixN, binD, arI, setI, cmpD, intCmp, cmpI, truD, isAny, isD, isNo, pln, vw, eqD, biD, tidy_same, tidyx_same, wipe, evHx, evHl, evHt, evHs, Rs.os, toR, Rs.nox]) (fun c => gOk_nil _) (fun d hd x => ⟨_, rfl, by
        have := f_lotg (n + 1) (h2 d hd) (s : Nat) (S ++ [x])
        simp (dsimp := false) (implicitDefEqProofs := false) [b12e0, this, exSs, exS, evE.eq_1, evE.eq_2, evE.eq_3, evE.eq_4, evE.eq_5, evE.eq_6, evE.eq_7, evE.eq_8, evE.eq_9, evE.eq_10, evE.eq_11, evE.eq_12, evE.eq_13, evE.eq_14, evE.eq_15, evE.eq_16, evE.eq_17, evE.eq_18, evE.eq_19, evE.eq_20, evE.eq_21, evE.eq_22, evE.eq_23, evE.eq_24, evE.eq_25, evE.eq_26, evE.eq_27, evE.eq_28, evE.eq_31, evE.eq_32, evE.eq_33, evE.eq_34, evE.eq_35, evE.eq_36, evE.eq_37, evE.eq_38, evT, evL, evI, evC, evW, startF, setS, idxD, seqOf, ixN, binD, arI, setI, cmpD, intCmp, cmpI, truD, isAny, isD, isNo, pln, vw, eqD, biD, tidy_same, tidyx_same, wipe, evHx, evHl, evHt, evHs, Rs.os, toR, Rs.nox]⟩) (by simpa using lim_le hl) (belowL_of fun d hd => by obtain ⟨i, _, rfl⟩ := List.mem_map.mp hd; rfl)
    have e2 := allBl_map (lotB (s : Nat)) (F.map tupI)
    have e4 := f_unl (n + 5) F hl hn (fun r h => (hr r h).1) S
    cases hq : ((F.map tupI).map (lotB (s : Nat))).all id with
    | false => simp (dsimp := false) (implicitDefEqProofs := false) [b12, e, gl, e1, lstOf, e2, hq, -List.map_map, -List.all_map, exSs, exS, evE.eq_1, evE.eq_2, evE.eq_3, evE.eq_4, evE.eq_5, evE.eq_6, evE.eq_7, evE.eq_8, evE.eq_9, evE.eq_10, evE.eq_11, evE.eq_12, evE.eq_13, evE.eq_14, evE.eq_15, evE.eq_16, evE.eq_17, evE.eq_18, evE.eq_19, evE.eq_20, evE.eq_21, evE.eq_22, evE.eq_23, evE.eq_24, evE.eq_25, evE.eq_26, evE.eq_27, evE.eq_28, evE.eq_31, evE.eq_32, evE.eq_33, evE.eq_34, evE.eq_35, evE.eq_36, evE.eq_37, evE.eq_38, evT, evL, evI, evC, evW, startF, setS, idxD, seqOf, ixN, binD, arI, setI, cmpD, intCmp, cmpI, truD, isAny, isD, isNo, pln, vw, eqD, biD, tidy_same, tidyx_same, wipe, evHx, evHl, evHt, evHs, Rs.os, toR, Rs.nox]
    | true => simp (dsimp := false) (implicitDefEqProofs := false) [b12, e, gl, e1, lstOf, e2, hq, e4, -List.map_map, -List.all_map, exSs, exS, evE.eq_1, evE.eq_2, evE.eq_3, evE.eq_4, evE.eq_5, evE.eq_6, evE.eq_7, evE.eq_8, evE.eq_9, evE.eq_10, evE.eq_11, evE.eq_12, evE.eq_13, evE.eq_14, evE.eq_15, evE.eq_16, evE.eq_17, evE.eq_18, evE.eq_19, evE.eq_20, evE.eq_21, evE.eq_22, evE.eq_23, evE.eq_24, evE.eq_25, evE.eq_26, evE.eq_27, evE.eq_28, evE.eq_31, evE.eq_32, evE.eq_33, evE.eq_34, evE.eq_35, evE.eq_36, evE.eq_37, evE.eq_38, evT, evL, evI, evC, evW, startF, setS, idxD, seqOf, ixN, binD, arI, setI, cmpD, intCmp, cmpI, truD, isAny, isD, isNo, pln, vw, eqD, biD, tidy_same, tidyx_same, wipe, evHx, evHl, evHt, evHs, Rs.os, toR, Rs.nox]
/-! made, refused -/
theorem f_initx (n : Nat) {size mem : D} (hm : sm2 3 mem = true) (h : No size (fzv 3 mem)) (S : Store) : run T (n + 8) 29 [.ref S.length, size, mem] (S ++ [.ins 0 []]) = .ex 2 [.tup [size, mem]] (S ++ [.ins 0 []]) := by
  rw [run_def (F := ⟨3, 4, b29, true⟩) rfl rfl]
  have e1 := f_fz 3 mem hm (n + 2) (S ++ [.ins 0 []])
  have e2 := h n (S ++ [.ins 0 []])
  have ec : excF T 2 = [0] := rfl
  simp (dsimp := false) (implicitDefEqProofs := false) [b29, e1, e2, ec, exSs, exS, evE.eq_1, evE.eq_2, evE.eq_3, evE.eq_4, evE.eq_5, evE.eq_6, evE.eq_7, evE.eq_8, evE.eq_9, evE.eq_10, evE.eq_11, evE.eq_12, evE.eq_13, evE.eq_14, evE.eq_15, evE.eq_16, evE.eq_17, evE.eq_18, evE.eq_19, evE.eq_20, evE.eq_21, evE.eq_22, evE.eq_23, evE.eq_24, evE.eq_25, evE.eq_26, evE.eq_27, evE.eq_28, evE.eq_31, evE.eq_32, evE.eq_33, evE.eq_34, evE.eq_35, evE.eq_36, evE.eq_37, evE.eq_38, evT, evL, evI, evC, evW, startF, setS, idxD, seqOf, ixN, binD, arI, setI, cmpD, intCmp, cmpI, truD, isAny, isD, isNo, pln, vw, eqD, biD, tidy_same, tidyx_same, wipe, evHx, evHl, evHt, evHs, Rs.os, toR, Rs.nox]
theorem mkx (n : Nat) {size mem : D} (hs : sm2 3 size = true) (hm : sm2 3 mem = true) (h : No size (fzv 3 mem)) (S : Store) : makD T (run T (n + 8)) false 0 [size, mem] S = .ex 2 [.tup [size, mem]] S := by
  have e := f_initx n hm h S
  have c : T.cls[0]? = some ⟨[3, 4], some 29, [(5, 30), (6, 31), (7, 32), (8, 33), (9, 34)]⟩ := rfl
  have b1 := sm2_below 3 _ hs S.length
  have b2 := sm2_below 3 _ hm S.length
  unfold makD
  rw [c]
  simp (dsimp := false) (implicitDefEqProofs := false) [e, belowL, below, cut_self, b1, b2, exSs, exS, evE.eq_1, evE.eq_2, evE.eq_3, evE.eq_4, evE.eq_5, evE.eq_6, evE.eq_7, evE.eq_8, evE.eq_9, evE.eq_10, evE.eq_11, evE.eq_12, evE.eq_13, evE.eq_14, evE.eq_15, evE.eq_16, evE.eq_17, evE.eq_18, evE.eq_19, evE.eq_20, evE.eq_21, evE.eq_22, evE.eq_23, evE.eq_24, evE.eq_25, evE.eq_26, evE.eq_27, evE.eq_28, evE.eq_31, evE.eq_32, evE.eq_33, evE.eq_34, evE.eq_35, evE.eq_36, evE.eq_37, evE.eq_38, evT, evL, evI, evC, evW, startF, setS, idxD, seqOf, ixN, binD, arI, setI, cmpD, intCmp, cmpI, truD, isAny, isD, isNo, pln, vw, eqD, biD, tidy_same, tidyx_same, wipe, evHx, evHl, evHt, evHs, Rs.os, toR, Rs.nox]
theorem f_refd (n : Nat) {size mem : D} (hs : sm2 3 size = true) (hm : sm2 3 mem = true) (h : No size (fzv 3 mem)) (b : Bool) (S : Store) : run T (n + 10) 24 [size, mem, .bl b] S = .ok (.bl true) S := by
  have e := mkx n hs hm h S
  have ec : excF T 2 = [0] := rfl
  have ea : ancOf T 2 = [2, 0] := rfl
  have sm : sm2 4 (.tup [size, mem]) = true := sm2_tup (by simp) fun d hd => by
    rcases List.mem_cons.mp hd with rfl | hd
    · exact hs
    · rw [List.mem_singleton.mp hd]; exact hm
  have e1 := same 4 (.tup [size, mem]) sm (n + 8) S (by omega)
  have f1 : (csOf T (n + 9)).fn1 = run T (n + 8) := rfl
  rw [run_def (F := ⟨3, 4, b24, true⟩) rfl rfl]
  cases b with
  | true => simp (dsimp := false) (implicitDefEqProofs := false) [b24, f1, e, ea, ec, lookN, ofO, e1, Ev.pick, exSs, exS, evE.eq_1, evE.eq_2, evE.eq_3, evE.eq_4, evE.eq_5, evE.eq_6, evE.eq_7, evE.eq_8, evE.eq_9, evE.eq_10, evE.eq_11, evE.eq_12, evE.eq_13, evE.eq_14, evE.eq_15, evE.eq_16, evE.eq_17, evE.eq_18, evE.eq_19, evE.eq_20, evE.eq_21, evE.eq_22, evE.eq_23, evE.eq_24, evE.eq_25, evE.eq_26, evE.eq_27, evE.eq_28, evE.eq_31, evE.eq_32, evE.eq_33, evE.eq_34, evE.eq_35, evE.eq_36, evE.eq_37, evE.eq_38, evT, evL, evI, evC, evW, startF, setS, idxD, seqOf, ixN, binD, arI, setI, cmpD, intCmp, cmpI, truD, isAny, isD, isNo, pln, vw, eqD, biD, tidy_same, tidyx_same, wipe, evHx, evHl, evHt, evHs, Rs.os, toR, Rs.nox]
  | false => simp (dsimp := false) (implicitDefEqProofs := false) [b24, f1, e, ea, ec, lookN, ofO, e1, exSs, exS, evE.eq_1, evE.eq_2, evE.eq_3, evE.eq_4, evE.eq_5, evE.eq_6, evE.eq_7, evE.eq_8, evE.eq_9, evE.eq_10, evE.eq_11, evE.eq_12, evE.eq_13, evE.eq_14, evE.eq_15, evE.eq_16, evE.eq_17, evE.eq_18, evE.eq_19, evE.eq_20, evE.eq_21, evE.eq_22, evE.eq_23, evE.eq_24, evE.eq_25, evE.eq_26, evE.eq_27, evE.eq_28, evE.eq_31, evE.eq_32, evE.eq_33, evE.eq_34, evE.eq_35, evE.eq_36, evE.eq_37, evE.eq_38, evT, evL, evI, evC, evW, startF, setS, idxD, seqOf, ixN, binD, arI, setI, cmpD, intCmp, cmpI, truD, isAny, isD, isNo, pln, vw, eqD, biD, tidy_same, tidyx_same, wipe, evHx, evHl, evHt, evHs, Rs.os, toR, Rs.nox]
end Lw
end
section
set_option maxRecDepth 100000
set_option maxHeartbeats 8000000
namespace Lw
open Ev Lg
theorem bl8 (m : Nat) : (bits m).length ≤ 1000 := Nat.le_trans (bits_len m) (by decide)
def mtl (L : List Nat) : List D := (L.map bits).map tupI
theorem mtl_below (n : Nat) (L : List Nat) : belowL n (mtl L) = true := belowL_tups _ _
theorem mtl_len (L : List Nat) : (mtl L).length = L.length := by simp [mtl]
theorem mem_mtl {L : List Nat} {d : D} (h : d ∈ mtl L) : ∃ m ∈ L, d = tupI (bits m) := by
  unfold mtl at h
  rw [List.map_map] at h
  obtain ⟨m, hm, rfl⟩ := List.mem_map.mp h
  exact ⟨m, hm, rfl⟩
theorem mtl_app (A : List Nat) (m : Nat) : mtl (A ++ [m]) = mtl A ++ [tupI (bits m)] := by simp [mtl]
theorem pow_256 {s m : Nat} (hs : s ≤ 8) (h : m < 2 ^ s) : m < 256 := Nat.lt_of_lt_of_le h (Nat.pow_le_pow_right (n := 2) (i := s) (j := 8) (by decide) hs)
theorem bits_in {s m : Nat} (hm : m < 2 ^ s) : ∀ p ∈ bits m, 0 ≤ p ∧ p < (s : Int) := fun p hp => by
  obtain ⟨k, hk, h1, rfl⟩ := mem_bits.mp hp
  refine ⟨by omega, ?_⟩
  have : k < s := Nat.lt_of_not_le fun h => by
    have := Nat.testBit_lt_two_pow (Nat.lt_of_lt_of_le hm (Nat.pow_le_pow_right (n := 2) (by decide) h))
    rw [this] at h1
    exact absurd h1 (by decide)
  omega
theorem tr_mk {s : Nat} (hs : s ≤ 8) {L : List Nat} (h : Tr s L) : Mk L := fun m hm => pow_256 hs (h.2 m hm).2
theorem nd_bits : ∀ L : List Nat, L.Nodup → Mk L → (L.map bits).Nodup := by
  intro L
  induction L with
  | nil => intro _ _; simp
  | cons a L ih =>
    intro hn hk
    rw [List.nodup_cons] at hn
    rw [List.map_cons, List.nodup_cons]
    refine ⟨fun z => ?_, ih hn.2 fun x hx => hk x (List.mem_cons_of_mem _ hx)⟩
    obtain ⟨b, hb, e⟩ := List.mem_map.mp z
    have := bits_inj (hk b (List.mem_cons_of_mem _ hb)) (hk a List.mem_cons_self) e
    exact hn.1 (this ▸ hb)
theorem bits_ne {s m : Nat} (hs : s ≤ 8) (h : 0 < m ∧ m < 2 ^ s) : bits m ≠ [] := fun z => by
  have := (bits_nil (pow_256 hs h.2)).mp z
  omega
theorem tr_ok {s : Nat} (hs : s ≤ 8) {L : List Nat} (hl : L.length ≤ 1000) (h : Tr s L) : LotsOk s (L.map bits) := by
  refine ⟨hs, by simpa using hl, nd_bits L h.1 (tr_mk hs h), fun r hr => ?_⟩
  obtain ⟨m, hm, rfl⟩ := List.mem_map.mp hr
  have hx := h.2 m hm
  exact ⟨bits_ne hs hx, bl8 m, bits_srt m, bits_in hx.2⟩
def lotD (s : Nat) (L : List Nat) : D := .obj 0 [.int (s : Nat), .tup (mtl L)]
theorem fz_ints (k : Nat) (l : List Int) : (l.map D.int).map (fzv k) = l.map D.int := by
  rw [List.map_map]
  refine List.map_congr_left fun i _ => ?_
  cases k <;> rfl
theorem fz_tupI (k : Nat) (l : List Int) : fzv (k + 1) (tupI l) = tupI l := by
  show D.tup ((l.map D.int).map (fzv k)) = _
  rw [fz_ints]
  rfl
theorem fz_mtl (k : Nat) (L : List Nat) : (mtl L).map (fzv (k + 1)) = mtl L := by
  unfold mtl
  rw [List.map_map]
  refine List.map_congr_left fun r _ => ?_
  exact fz_tupI k r
theorem sm_ints {l : List Int} (hl : l.length ≤ 1000) (k : Nat) : sm2 (k + 1) (tupI l) = true := sm2_tup (by simpa using hl) fun d hd => by
  obtain ⟨i, _, rfl⟩ := List.mem_map.mp hd
  exact sm2_int _ _
theorem sm_mtl (L : List Nat) : ∀ d ∈ mtl L, sm2 2 d = true := fun d hd => by
  obtain ⟨m, _, rfl⟩ := mem_mtl hd
  exact sm_ints (bl8 m) 1
/-! right ones -/
theorem f_initg (n : Nat) {s : Nat} (hs : s ≤ 8) {L : List Nat} (hl : L.length ≤ 1000) (h : Tr s L) {mem : D} (hm : sm2 3 mem = true) (hf : fzv 3 mem = .tup (mtl L)) (S : Store) : run T (n + 8) 29 [.ref S.length, .int (s : Nat), mem] (S ++ [.ins 0 []]) = .ok .non (S ++ [.ins 0 [(3, .int (s : Nat)), (4, .tup (mtl L))]]) := by
  rw [run_def (F := ⟨3, 4, b29, true⟩) rfl rfl]
  obtain ⟨h1, h2, h3, h4⟩ := tr_ok hs hl h
  have e1 := f_fz 3 mem hm (n + 2) (S ++ [.ins 0 []])
  rw [hf] at e1
  have e2 := f_lots (n + 1) s h1 (L.map bits) h2 h3 h4 (S ++ [.ins 0 []])
  have fl : fldsOf T 0 = [3, 4] := rfl
  rw [show (L.map bits).map tupI = mtl L from rfl] at e2
  generalize mtl L = Q at *
  simp (dsimp := false) (implicitDefEqProofs := false) [b29, e1, e2, fl, putN, exSs, exS, evE.eq_1, evE.eq_2, evE.eq_3, evE.eq_4, evE.eq_5, evE.eq_6, evE.eq_7, evE.eq_8, evE.eq_9, evE.eq_10, evE.eq_11, evE.eq_12, evE.eq_13, evE.eq_14, evE.eq_15, evE.eq_16, evE.eq_17, evE.eq_18, evE.eq_19, evE.eq_20, evE.eq_21, evE.eq_22, evE.eq_23, evE.eq_24, evE.eq_25, evE.eq_26, evE.eq_27, evE.eq_28, evE.eq_31, evE.eq_32, evE.eq_33, evE.eq_34, evE.eq_35, evE.eq_36, evE.eq_37, evE.eq_38, evT, evL, evI, evC, evW, startF, setS, idxD, seqOf, ixN, binD, arI, setI, cmpD, intCmp, cmpI, truD, isAny, isD, isNo, pln, vw, eqD, biD, tidy_same, tidyx_same, wipe, evHx, evHl, evHt, evHs, Rs.os, toR, Rs.nox]
  exact tidy_len (by simp)
theorem mkg (n : Nat) {s : Nat} (hs : s ≤ 8) {L : List Nat} (hl : L.length ≤ 1000) (h : Tr s L) {mem : D} (hm : sm2 3 mem = true) (hf : fzv 3 mem = .tup (mtl L)) (S : Store) : makD T (run T (n + 8)) false 0 [.int (s : Nat), mem] S = .ok (lotD s L) S := by
  have e := f_initg n hs hl h hm hf S
  have c : T.cls[0]? = some ⟨[3, 4], some 29, [(5, 30), (6, 31), (7, 32), (8, 33), (9, 34)]⟩ := rfl
  have b := mtl_below S.length L
  unfold makD
  rw [c]
  simp (dsimp := false) (implicitDefEqProofs := false) [e, belowL, below, cut_self, lotD, b, exSs, exS, evE.eq_1, evE.eq_2, evE.eq_3, evE.eq_4, evE.eq_5, evE.eq_6, evE.eq_7, evE.eq_8, evE.eq_9, evE.eq_10, evE.eq_11, evE.eq_12, evE.eq_13, evE.eq_14, evE.eq_15, evE.eq_16, evE.eq_17, evE.eq_18, evE.eq_19, evE.eq_20, evE.eq_21, evE.eq_22, evE.eq_23, evE.eq_24, evE.eq_25, evE.eq_26, evE.eq_27, evE.eq_28, evE.eq_31, evE.eq_32, evE.eq_33, evE.eq_34, evE.eq_35, evE.eq_36, evE.eq_37, evE.eq_38, evT, evL, evI, evC, evW, startF, setS, idxD, seqOf, ixN, binD, arI, setI, cmpD, intCmp, cmpI, truD, isAny, isD, isNo, pln, vw, eqD, biD, tidy_same, tidyx_same, wipe, evHx, evHl, evHt, evHs, Rs.os, toR, Rs.nox]
theorem mkg_tup (n : Nat) {s : Nat} (hs : s ≤ 8) {L : List Nat} (hl : L.length ≤ 1000) (h : Tr s L) (S : Store) : makD T (run T (n + 8)) false 0 [.int (s : Nat), .tup (mtl L)] S = .ok (lotD s L) S :=
  mkg n hs hl h (sm2_tup (by rw [mtl_len]; exact hl) (sm_mtl L)) (by show D.tup ((mtl L).map (fzv 2)) = _; rw [fz_mtl]) S
/-! len, ==, != -/
theorem f_len (n : Nat) {s : Nat} {L : List Nat} (S : Store) : run T (n + 1) 31 [lotD s L] S = .ok (.int (L.length : Nat)) S := by
  rw [run_def (F := ⟨1, 1, b31, true⟩) rfl rfl]
  have at_ : fldsOf T 0 = [3, 4] := rfl
  have ml := mtl_len L
  unfold lotD
  generalize mtl L = Q at *
  simp (dsimp := false) (implicitDefEqProofs := false) [b31, attD, at_, lookN, ofO, ml, exSs, exS, evE.eq_1, evE.eq_2, evE.eq_3, evE.eq_4, evE.eq_5, evE.eq_6, evE.eq_7, evE.eq_8, evE.eq_9, evE.eq_10, evE.eq_11, evE.eq_12, evE.eq_13, evE.eq_14, evE.eq_15, evE.eq_16, evE.eq_17, evE.eq_18, evE.eq_19, evE.eq_20, evE.eq_21, evE.eq_22, evE.eq_23, evE.eq_24, evE.eq_25, evE.eq_26, evE.eq_27, evE.eq_28, evE.eq_31, evE.eq_32, evE.eq_33, evE.eq_34, evE.eq_35, evE.eq_36, evE.eq_37, evE.eq_38, evT, evL, evI, evC, evW, startF, setS, idxD, seqOf, ixN, binD, arI, setI, cmpD, intCmp, cmpI, truD, isAny, isD, isNo, pln, vw, eqD, biD, tidy_same, tidyx_same, wipe, evHx, evHl, evHt, evHs, Rs.os, toR, Rs.nox]
def eqB (s s2 : Nat) (L L2 : List Nat) : Bool := decide (s = s2) && decide (L = L2)
theorem bits_map_inj : ∀ {L L2 : List Nat}, Mk L → Mk L2 → L.map bits = L2.map bits → L = L2
  | [], [], _, _, _ => rfl
  | [], _ :: _, _, _, h => by simp at h
  | _ :: _, [], _, _, h => by simp at h
  | a :: L, b :: L2, h1, h2, h => by
    rw [List.map_cons, List.map_cons, List.cons.injEq] at h
    rw [bits_inj (h1 a List.mem_cons_self) (h2 b List.mem_cons_self) h.1, bits_map_inj (fun x hx => h1 x (List.mem_cons_of_mem _ hx)) (fun x hx => h2 x (List.mem_cons_of_mem _ hx)) h.2]
theorem eq_mtl {L L2 : List Nat} (h1 : Mk L) (h2 : Mk L2) : eqL (mtl L) (mtl L2) = decide (L = L2) := by
  unfold mtl
  rw [eqL_tups]
  by_cases h : L = L2
  · subst h; simp
  · rw [decide_eq_false h, decide_eq_false fun z => h (bits_map_inj h1 h2 z)]
theorem f_eq (n : Nat) {s s2 : Nat} {L L2 : List Nat} (h1 : Mk L) (h2 : Mk L2) (S : Store) : run T (n + 1) 30 [lotD s L, lotD s2 L2] S = .ok (.bl (eqB s s2 L L2)) S := by
  rw [run_def (F := ⟨2, 2, b30, true⟩) rfl rfl]
  have at_ : fldsOf T 0 = [3, 4] := rfl
  have tc : T.cls.length = 1 := rfl
  have p1 : plnL 59 (mtl L) = true := plnL_tups 58 _
  have p1' : plnL 59 (mtl L2) = true := plnL_tups 58 _
  have p2 := eq_mtl h1 h2
  unfold lotD
  generalize mtl L = Q at *
  generalize mtl L2 = Q2 at *
  unfold eqB
  by_cases h : s = s2
  · subst h
    simp (dsimp := false) (implicitDefEqProofs := false) [b30, attD, at_, lookN, tc, ofO, p1, p1', p2, exSs, exS, evE.eq_1, evE.eq_2, evE.eq_3, evE.eq_4, evE.eq_5, evE.eq_6, evE.eq_7, evE.eq_8, evE.eq_9, evE.eq_10, evE.eq_11, evE.eq_12, evE.eq_13, evE.eq_14, evE.eq_15, evE.eq_16, evE.eq_17, evE.eq_18, evE.eq_19, evE.eq_20, evE.eq_21, evE.eq_22, evE.eq_23, evE.eq_24, evE.eq_25, evE.eq_26, evE.eq_27, evE.eq_28, evE.eq_31, evE.eq_32, evE.eq_33, evE.eq_34, evE.eq_35, evE.eq_36, evE.eq_37, evE.eq_38, evT, evL, evI, evC, evW, startF, setS, idxD, seqOf, ixN, binD, arI, setI, cmpD, intCmp, cmpI, truD, isAny, isD, isNo, pln, vw, eqD, biD, tidy_same, tidyx_same, wipe, evHx, evHl, evHt, evHs, Rs.os, toR, Rs.nox]
  · have h' : (((s : Nat) : Int) == ((s2 : Nat) : Int)) = false := beq_eq_false_iff_ne.mpr (by omega)
    simp (dsimp := false) (implicitDefEqProofs := false) [b30, attD, at_, lookN, tc, ofO, h', h, exSs, exS, evE.eq_1, evE.eq_2, evE.eq_3, evE.eq_4, evE.eq_5, evE.eq_6, evE.eq_7, evE.eq_8, evE.eq_9, evE.eq_10, evE.eq_11, evE.eq_12, evE.eq_13, evE.eq_14, evE.eq_15, evE.eq_16, evE.eq_17, evE.eq_18, evE.eq_19, evE.eq_20, evE.eq_21, evE.eq_22, evE.eq_23, evE.eq_24, evE.eq_25, evE.eq_26, evE.eq_27, evE.eq_28, evE.eq_31, evE.eq_32, evE.eq_33, evE.eq_34, evE.eq_35, evE.eq_36, evE.eq_37, evE.eq_38, evT, evL, evI, evC, evW, startF, setS, idxD, seqOf, ixN, binD, arI, setI, cmpD, intCmp, cmpI, truD, isAny, isD, isNo, pln, vw, eqD, biD, tidy_same, tidyx_same, wipe, evHx, evHl, evHt, evHs, Rs.os, toR, Rs.nox]
theorem f_eqn (n : Nat) {s : Nat} {L : List Nat} {v : D} (hv : plv v = true) (S : Store) : run T (n + 1) 30 [lotD s L, v] S = .ok (.bl false) S := by
  rw [run_def (F := ⟨2, 2, b30, true⟩) rfl rfl]
  have tc : T.cls.length = 1 := rfl
  unfold lotD
  generalize mtl L = Q at *
  cases v with
  | ref i => simp [plv] at hv
  | obj c l => simp [plv] at hv
  | _ => first | (simp (dsimp := false) (implicitDefEqProofs := false) [b30, tc, ofO, exSs, exS, evE.eq_1, evE.eq_2, evE.eq_3, evE.eq_4, evE.eq_5, evE.eq_6, evE.eq_7, evE.eq_8, evE.eq_9, evE.eq_10, evE.eq_11, evE.eq_12, evE.eq_13, evE.eq_14, evE.eq_15, evE.eq_16, evE.eq_17, evE.eq_18, evE.eq_19, evE.eq_20, evE.eq_21, evE.eq_22, evE.eq_23, evE.eq_24, evE.eq_25, evE.eq_26, evE.eq_27, evE.eq_28, evE.eq_31, evE.eq_32, evE.eq_33, evE.eq_34, evE.eq_35, evE.eq_36, evE.eq_37, evE.eq_38, evT, evL, evI, evC, evW, startF, setS, idxD, seqOf, ixN, binD, arI, setI, cmpD, intCmp, cmpI, truD, isAny, isD, isNo, pln, vw, eqD, biD, tidy_same, tidyx_same, wipe, evHx, evHl, evHt, evHs, Rs.os, toR, Rs.nox]) | (simp [plv] at hv)
theorem m5 (s : Nat) (L : List Nat) (S : Store) : mthOf T (lotD s L) 5 S = some 30 := rfl
theorem cl0 (s : Nat) (L : List Nat) (S : Store) : clsD (lotD s L) S = some 0 := rfl
theorem f_equal (n : Nat) {s s2 : Nat} {L L2 : List Nat} (h1 : Mk L) (h2 : Mk L2) {b : Bool} (hb : eqB s s2 L L2 = b) (S : Store) : run T (n + 3) 25 [lotD s L, lotD s2 L2, .bl b] S = .ok (.bl true) S := by
  rw [run_def (F := ⟨3, 3, b25, true⟩) rfl rfl]
  have hb2 : eqB s2 s L2 L = b := by
    rw [← hb]
    unfold eqB
    by_cases h : s = s2
    · by_cases h' : L = L2
      · subst h; subst h'; rfl
      · have h'' : ¬ L2 = L := fun z => h' z.symm
        simp [h', h'']
    · have h' : ¬ s2 = s := fun z => h z.symm
      simp [h, h']
  have e1 := f_eq (n + 1) (s := s) (s2 := s2) h1 h2 S
  have e2 := f_eq n (s := s) (s2 := s2) h1 h2 S
  have e3 := f_eq (n + 1) (s := s2) (s2 := s) h2 h1 S
  rw [hb] at e1 e2
  rw [hb2] at e3
  have f1 : (csOf T (n + 2)).fn1 = run T (n + 1) := rfl
  have g1 := m5 s L
  have g2 := m5 s2 L2
  have g3 := cl0 s L
  have g4 := cl0 s2 L2
  have s1 := fun b => same 0 (.bl b) rfl (n + 1) S (by omega)
  generalize lotD s L = Q at *
  generalize lotD s2 L2 = Q2 at *
  cases b with
  | true => simp (dsimp := false) (implicitDefEqProofs := false) [b25, g1, g2, g3, g4, e1, e2, e3, f1, notR, ofO, s1, exSs, exS, evE.eq_1, evE.eq_2, evE.eq_3, evE.eq_4, evE.eq_5, evE.eq_6, evE.eq_7, evE.eq_8, evE.eq_9, evE.eq_10, evE.eq_11, evE.eq_12, evE.eq_13, evE.eq_14, evE.eq_15, evE.eq_16, evE.eq_17, evE.eq_18, evE.eq_19, evE.eq_20, evE.eq_21, evE.eq_22, evE.eq_23, evE.eq_24, evE.eq_25, evE.eq_26, evE.eq_27, evE.eq_28, evE.eq_31, evE.eq_32, evE.eq_33, evE.eq_34, evE.eq_35, evE.eq_36, evE.eq_37, evE.eq_38, evT, evL, evI, evC, evW, startF, setS, idxD, seqOf, ixN, binD, arI, setI, cmpD, intCmp, cmpI, truD, isAny, isD, isNo, pln, vw, eqD, biD, tidy_same, tidyx_same, wipe, evHx, evHl, evHt, evHs, Rs.os, toR, Rs.nox]
  | false => simp (dsimp := false) (implicitDefEqProofs := false) [b25, g1, g2, g3, g4, e1, e2, e3, f1, notR, ofO, s1, exSs, exS, evE.eq_1, evE.eq_2, evE.eq_3, evE.eq_4, evE.eq_5, evE.eq_6, evE.eq_7, evE.eq_8, evE.eq_9, evE.eq_10, evE.eq_11, evE.eq_12, evE.eq_13, evE.eq_14, evE.eq_15, evE.eq_16, evE.eq_17, evE.eq_18, evE.eq_19, evE.eq_20, evE.eq_21, evE.eq_22, evE.eq_23, evE.eq_24, evE.eq_25, evE.eq_26, evE.eq_27, evE.eq_28, evE.eq_31, evE.eq_32, evE.eq_33, evE.eq_34, evE.eq_35, evE.eq_36, evE.eq_37, evE.eq_38, evT, evL, evI, evC, evW, startF, setS, idxD, seqOf, ixN, binD, arI, setI, cmpD, intCmp, cmpI, truD, isAny, isD, isNo, pln, vw, eqD, biD, tidy_same, tidyx_same, wipe, evHx, evHl, evHt, evHs, Rs.os, toR, Rs.nox]
end Lw
end
section
set_option maxRecDepth 100000
set_option maxHeartbeats 8000000
namespace Lw
open Ev Lg
/-- the box, and any cells behind it -/
def QE (ns : List Int) (X : Store) (k : Nat) (S : Store) : Prop := ns.length ≤ 63 ∧ ∃ a b c, S = std ns a b c :: X ∧ 0 ≤ a ∧ 0 ≤ b ∧ 0 ≤ c ∧ c ≤ (k : Int)
section
variable {ns : List Int} {X : Store} {k k' : Nat} {S S' : Store}
theorem QD.e (q : QD ns X k S) : QE ns X k S := ⟨q.1.1, q.2⟩
theorem QE.len (q : QE ns X k S) : S.length = X.length + 1 := by
  obtain ⟨_, a, b, c, rfl, _⟩ := q
  rfl
theorem QE.mono (q : QE ns X k S) (h : k ≤ k') : QE ns X k' S := by
  obtain ⟨hn, a, b, c, h1, h2, h3, h4, h5⟩ := q
  exact ⟨hn, a, b, c, h1, h2, h3, h4, by omega⟩
theorem QE.app (q : QE ns X k S) (Y : Store) : QE ns (X ++ Y) k (S ++ Y) := by
  obtain ⟨hn, a, b, c, rfl, h⟩ := q
  exact ⟨hn, a, b, c, rfl, h⟩
theorem QE.un {x : Cell} (q : QE ns (X ++ [x]) k S) : ∃ S', S = S' ++ [x] ∧ QE ns X k S' := by
  obtain ⟨hn, a, b, c, rfl, h⟩ := q
  exact ⟨std ns a b c :: X, rfl, hn, a, b, c, rfl, h⟩
theorem QE.get {x : Cell} (q : QE ns (X ++ [x]) k S) : S[X.length + 1]? = some x ∧ ∀ y, QE ns (X ++ [y]) k (S.set (X.length + 1) y) := by
  obtain ⟨S', rfl, q'⟩ := q.un
  have l := q'.len
  refine ⟨by rw [← l]; simp, fun y => ?_⟩
  have : (S' ++ [x]).set (X.length + 1) y = S' ++ [y] := by rw [← l]; simp
  rw [this]
  exact q'.app [y]
theorem QE.tidy (q : QE ns X k S) (q1 : QE ns X k' S') {d : D} (b : below 0 d = true) : Ev.tidy true S (.ok d S') = .ok d S' := by
  have l1 := q.len
  have l2 := q1.len
  have b2 := bel_mono (n := S.length) |>.1 d b
  have t : S'.take S.length = S' := by rw [l1, ← l2]; simp
  unfold Ev.tidy
  simp only [b2, if_true, t]
  split <;> rfl
end
theorem de {ns : List Int} {X : Store} {k : Nat} {S : Store} (q : QE ns X k S) (hk : k < 2 ^ 80) {m : Int} (hm : 0 < m) (hmw : m < 2 ^ 90) (n : Nat) :
    ∃ (r : Nat) (S' : Store), run T (n + 1) 14 [.ref 0, .int m] S = .ok (.int r) S' ∧ QE ns X (k + 1) S' ∧ (r : Int) < m := by
  obtain ⟨hn, a, b, c, rfl, h1, h2, h3, h4⟩ := q
  obtain ⟨r, a', b', e, r0, r1, h1', h2'⟩ := draw_of (T := T) (f := 14) rfl hn h1 h2 h3 (by omega) hm (by omega) n X
  refine ⟨r.toNat, _, ?_, ⟨hn, a', b', c + 1, rfl, h1', h2', by omega, by omega⟩, by omega⟩
  rw [e, Int.toNat_of_nonneg r0]
/-! as lists or tuples -/
theorem fz_lsti (k : Nat) (l : List Int) : fzv (k + 1) (.lst (l.map .int)) = tupI l := by
  show D.tup ((l.map D.int).map (fzv k)) = _
  rw [fz_ints]
  rfl
theorem sm_lints {l : List Int} (hl : l.length ≤ 1000) (k : Nat) : sm2 (k + 1) (.lst (l.map .int)) = true := sm2_lst (by simpa using hl) fun d hd => by
  obtain ⟨i, _, rfl⟩ := List.mem_map.mp hd
  exact sm2_int _ _
def Pv (O : List D) (A : List Nat) : Prop := O.map (fzv 2) = mtl A ∧ ∀ d ∈ O, sm2 2 d = true
theorem Pv.len {O : List D} {A : List Nat} (h : Pv O A) : O.length = A.length := by
  have := congrArg List.length h.1
  rw [List.length_map, mtl_len] at this
  exact this
theorem Pv.snoc {O : List D} {A : List Nat} (h : Pv O A) {m : Nat} {d : D} (hd : d = .lst ((bits m).map .int) ∨ d = tupI (bits m)) : Pv (O ++ [d]) (A ++ [m]) := by
  have key : fzv 2 d = tupI (bits m) ∧ sm2 2 d = true := by
    rcases hd with rfl | rfl
    · exact ⟨fz_lsti 1 _, sm_lints (bl8 m) 1⟩
    · exact ⟨fz_tupI 1 _, sm_ints (bl8 m) 1⟩
  refine ⟨?_, fun x hx => ?_⟩
  · rw [List.map_append, h.1, mtl_app, List.map_singleton, key.1]
  · rcases List.mem_append.mp hx with hx | hx
    · exact h.2 x hx
    · rw [List.mem_singleton.mp hx]; exact key.2
theorem pv_loop (n : Nat) {ns : List Int} {X : Store} (y1 : Option D) : ∀ (M A : List Nat) (O : List D) (k : Nat) (S : Store) (y3 : Option D), Pv O A → A.length + M.length ≤ 500 → QE ns (X ++ [.lst O]) k S → k + 10 * M.length < 2 ^ 60 → ∃ (O' : List D) (S' : Store) (z3 : Option D),
    forL (.nm 3) (fun ρ S => exSs (csOf T (n + 1)) b21l0 ρ S) [] (mtl M) [some (.ref 0), y1, some (.ref (X.length + 1)), y3] S = .nx [some (.ref 0), y1, some (.ref (X.length + 1)), z3] S' ∧ Pv O' (A ++ M) ∧ QE ns (X ++ [.lst O']) (k + M.length) S'
  | [], A, O, k, S, y3, h, _, q, _ => ⟨O, S, y3, forL_nil, by rw [List.append_nil]; exact h, q⟩
  | m :: M, A, O, k, S, y3, h, hl, q, hk => by
    simp only [List.length_cons] at hl hk
    obtain ⟨r, S1, e1, q1, r1⟩ := de q (by omega) (m := 2) (by decide) (by decide) n
    obtain ⟨g1, g2⟩ := q1.get
    have g0 := q.get.1
    have ol := h.len
    have lt : O.length < LIM := by unfold LIM; omega
    have lb : ((bits m).map D.int).length ≤ LIM := by rw [List.length_map]; exact lim_le (bl8 m)
    rw [show mtl (m :: M) = tupI (bits m) :: mtl M from rfl]
    have fin : ∀ d : D, (d = .lst ((bits m).map .int) ∨ d = tupI (bits m)) → ∃ (O' : List D) (S' : Store) (z3 : Option D),
      forL (.nm 3) (fun ρ S => exSs (csOf T (n + 1)) b21l0 ρ S) [] (mtl M) [some (.ref 0), y1, some (.ref (X.length + 1)), some (tupI (bits m))] (S1.set (X.length + 1) (.lst (O ++ [d]))) = .nx [some (.ref 0), y1, some (.ref (X.length + 1)), z3] S' ∧ Pv O' (A ++ m :: M) ∧ QE ns (X ++ [.lst O']) (k + (M.length + 1)) S' := by
      intro d hd
      obtain ⟨O', S', z3, e, p, q'⟩ := pv_loop n y1 M (A ++ [m]) (O ++ [d]) (k + 1) _ (some (tupI (bits m))) (h.snoc hd) (by simp; omega) (g2 (.lst (O ++ [d]))) (by omega)
      rw [List.append_assoc] at p
      exact ⟨O', S', z3, e, p, q'.mono (by omega)⟩
    by_cases hr : r = 0
    · subst hr
      obtain ⟨O', S', z3, e, p, q'⟩ := fin _ (.inl rfl)
      refine ⟨O', S', z3, ?_, p, q'⟩
      rw [← e]
      refine forL_nx rfl ?_
      unfold tupI
      generalize (bits m).map D.int = Q at *
      rw [show ((0 : Nat) : Int) = 0 from rfl] at e1
      simp (dsimp := false) (implicitDefEqProofs := false) [b21l0, e1, bmOk, bmD, g1, lt, lstOf, mkL, lb, exSs, exS, evE.eq_1, evE.eq_2, evE.eq_3, evE.eq_4, evE.eq_5, evE.eq_6, evE.eq_7, evE.eq_8, evE.eq_9, evE.eq_10, evE.eq_11, evE.eq_12, evE.eq_13, evE.eq_14, evE.eq_15, evE.eq_16, evE.eq_17, evE.eq_18, evE.eq_19, evE.eq_20, evE.eq_21, evE.eq_22, evE.eq_23, evE.eq_24, evE.eq_25, evE.eq_26, evE.eq_27, evE.eq_28, evE.eq_31, evE.eq_32, evE.eq_33, evE.eq_34, evE.eq_35, evE.eq_36, evE.eq_37, evE.eq_38, evT, evL, evI, evC, evW, startF, setS, idxD, seqOf, ixN, binD, arI, setI, cmpD, intCmp, cmpI, truD, isAny, isD, isNo, pln, vw, eqD, biD, tidy_same, tidyx_same, wipe, evHx, evHl, evHt, evHs, Rs.os, toR, Rs.nox]
    · have hr' : ((r : Int) == 0) = false := beq_eq_false_iff_ne.mpr (by omega)
      obtain ⟨O', S', z3, e, p, q'⟩ := fin _ (.inr rfl)
      refine ⟨O', S', z3, ?_, p, q'⟩
      rw [← e]
      refine forL_nx rfl ?_
      unfold tupI
      generalize (bits m).map D.int = Q at *
      simp (dsimp := false) (implicitDefEqProofs := false) [b21l0, e1, hr', bmOk, bmD, g1, lt, lstOf, mkL, lb, exSs, exS, evE.eq_1, evE.eq_2, evE.eq_3, evE.eq_4, evE.eq_5, evE.eq_6, evE.eq_7, evE.eq_8, evE.eq_9, evE.eq_10, evE.eq_11, evE.eq_12, evE.eq_13, evE.eq_14, evE.eq_15, evE.eq_16, evE.eq_17, evE.eq_18, evE.eq_19, evE.eq_20, evE.eq_21, evE.eq_22, evE.eq_23, evE.eq_24, evE.eq_25, evE.eq_26, evE.eq_27, evE.eq_28, evE.eq_31, evE.eq_32, evE.eq_33, evE.eq_34, evE.eq_35, evE.eq_36, evE.eq_37, evE.eq_38, evT, evL, evI, evC, evW, startF, setS, idxD, seqOf, ixN, binD, arI, setI, cmpD, intCmp, cmpI, truD, isAny, isD, isNo, pln, vw, eqD, biD, tidy_same, tidyx_same, wipe, evHx, evHl, evHt, evHs, Rs.os, toR, Rs.nox]
theorem f_passed (n : Nat) {ns : List Int} {X : Store} {k : Nat} {S : Store} (q : QE ns X k S) (hX : ∀ c ∈ X, belowC (X.length + 1) c = true) (hk : k + 2000 < 2 ^ 60) {M : List Nat} (hm : M.length ≤ 8) : ∃ (v : D) (S' : Store), run T (n + 2) 21 [.ref 0, .tup (mtl M)] S = .ok v S' ∧ QE ns X (k + 10) S' ∧ sm2 3 v = true ∧ fzv 3 v = .tup (mtl M) := by
  have q1 := q.app [.lst []]
  obtain ⟨O, S1, z3, e1, p, q2⟩ := pv_loop n (some (.tup (mtl M))) M [] [] k _ none ⟨rfl, fun d hd => by simp at hd⟩ (by simp; omega) q1 (by omega)
  rw [List.nil_append] at p
  have ol := p.len
  obtain ⟨r, S2, e2, q3, r1⟩ := de q2 (by omega) (m := 2) (by decide) (by decide) n
  have g2 := q3.get.1
  have l1 := q.len
  obtain ⟨S3, rfl, q4⟩ := q3.un
  have l3 := q4.len
  have bO : ∀ n, belowL n O = true := fun n => belowL_of fun d hd => sm2_below 2 d (p.2 d hd) n
  have cut : cutOk S (S3 ++ [.lst O]) = true := by
    obtain ⟨hn, a, b, c, rfl, h⟩ := q4
    unfold cutOk
    rw [l1, ← l3, List.take_left', Bool.or_eq_true]
    · refine .inr (List.all_eq_true.mpr fun x hx => ?_)
      rcases List.mem_cons.mp hx with rfl | hx
      · refine belC_mono ?_
        simp [std, belowC, belowL, below]
      · rw [l3]; exact hX x hx
    · rfl
  have t : (S3 ++ [Cell.lst O]).take S.length = S3 := by rw [l1, ← l3]; simp
  have lim : O.length ≤ LIM := lim_le (by omega)
  have g3 : (S3 ++ [Cell.lst O])[S.length]? = some (.lst O) := by rw [l1, ← l3]; simp
  have sm : sm2 3 (.lst O) = true ∧ sm2 3 (.tup O) = true := ⟨sm2_lst (by omega) p.2, sm2_tup (by omega) p.2⟩
  have fz : fzv 3 (.lst O) = .tup (mtl M) ∧ fzv 3 (.tup O) = .tup (mtl M) := ⟨by show D.tup (O.map (fzv 2)) = _; rw [p.1], by show D.tup (O.map (fzv 2)) = _; rw [p.1]⟩
  rw [run_def (F := ⟨2, 4, b21, true⟩) rfl rfl]
  rw [← l1] at e1 g2
  by_cases hr : r = 0
  · subst hr
    refine ⟨.lst O, S3, ?_, q4.mono (by omega), sm.1, fz.1⟩
    have td : Ev.tidy true S (.ok (.ref S.length) (S3 ++ [.lst O])) = .ok (.lst O) S3 := by
      unfold Ev.tidy
      have nb : below S.length (.ref S.length) = false := by simp [below]
      simp only [cut, if_true, nb, g3, bO, t, Bool.false_eq_true, if_false]
    rw [show ((0 : Nat) : Int) = 0 from rfl] at e2
    generalize mtl M = Q at *
    simp (dsimp := false) (implicitDefEqProofs := false) [b21, mkL, seqIt, Ev.guard, e1, e2, exSs, exS, evE.eq_1, evE.eq_2, evE.eq_3, evE.eq_4, evE.eq_5, evE.eq_6, evE.eq_7, evE.eq_8, evE.eq_9, evE.eq_10, evE.eq_11, evE.eq_12, evE.eq_13, evE.eq_14, evE.eq_15, evE.eq_16, evE.eq_17, evE.eq_18, evE.eq_19, evE.eq_20, evE.eq_21, evE.eq_22, evE.eq_23, evE.eq_24, evE.eq_25, evE.eq_26, evE.eq_27, evE.eq_28, evE.eq_31, evE.eq_32, evE.eq_33, evE.eq_34, evE.eq_35, evE.eq_36, evE.eq_37, evE.eq_38, evT, evL, evI, evC, evW, startF, setS, idxD, seqOf, ixN, binD, arI, setI, cmpD, intCmp, cmpI, truD, isAny, isD, isNo, pln, vw, eqD, biD, tidy_same, tidyx_same, wipe, evHx, evHl, evHt, evHs, Rs.os, toR, Rs.nox]
    exact td
  · have hr' : ((r : Int) == 0) = false := beq_eq_false_iff_ne.mpr (by omega)
    refine ⟨.tup O, S3, ?_, q4.mono (by omega), sm.2, fz.2⟩
    have td : Ev.tidy true S (.ok (.tup O) (S3 ++ [.lst O])) = .ok (.tup O) S3 := by
      unfold Ev.tidy
      have nb : below S.length (.tup O) = true := bO _
      simp only [cut, if_true, nb, t]
    generalize mtl M = Q at *
    simp (dsimp := false) (implicitDefEqProofs := false) [b21, mkL, seqIt, Ev.guard, e1, e2, hr', lstOf, g3, lim, exSs, exS, evE.eq_1, evE.eq_2, evE.eq_3, evE.eq_4, evE.eq_5, evE.eq_6, evE.eq_7, evE.eq_8, evE.eq_9, evE.eq_10, evE.eq_11, evE.eq_12, evE.eq_13, evE.eq_14, evE.eq_15, evE.eq_16, evE.eq_17, evE.eq_18, evE.eq_19, evE.eq_20, evE.eq_21, evE.eq_22, evE.eq_23, evE.eq_24, evE.eq_25, evE.eq_26, evE.eq_27, evE.eq_28, evE.eq_31, evE.eq_32, evE.eq_33, evE.eq_34, evE.eq_35, evE.eq_36, evE.eq_37, evE.eq_38, evT, evL, evI, evC, evW, startF, setS, idxD, seqOf, ixN, binD, arI, setI, cmpD, intCmp, cmpI, truD, isAny, isD, isNo, pln, vw, eqD, biD, tidy_same, tidyx_same, wipe, evHx, evHl, evHt, evHs, Rs.os, toR, Rs.nox]
    exact td
end Lw
end
section
set_option maxRecDepth 100000
set_option maxHeartbeats 8000000
namespace Lw
open Ev Lg
theorem ix_lst {l : List D} {r : Nat} {d : D} (h : l[r]? = some d) (S : Store) : idxD (.lst l) (.int (r : Nat)) S = some d := by
  have hr : r < l.length := (List.getElem?_eq_some_iff.mp h).1
  have hr' : (r : Int) < l.length := by omega
  simp [idxD, seqOf, ixN, hr', h]
theorem ix_tup {l : List D} {r : Nat} {d : D} (h : l[r]? = some d) (S : Store) : idxD (.tup l) (.int (r : Nat)) S = some d := by
  have hr : r < l.length := (List.getElem?_eq_some_iff.mp h).1
  have hr' : (r : Int) < l.length := by omega
  simp [idxD, seqOf, ixN, hr', h]
/-- a value that is no lot -/
def Bl (s : Nat) (v : D) : Prop := sm2 2 v = true ∧ lotB (s : Nat) (fzv 2 v) = false
theorem unI_ints (l : List Int) : (l.map D.int).map unI = l := by
  rw [List.map_map]
  conv => rhs; rw [← List.map_id l]
  rfl
theorem bl_ints {s : Nat} {l : List Int} (hl : l.length ≤ 1000) (h : ris l = false ∨ l.all (inZ (s : Nat)) = false ∨ l = []) : Bl s (tupI l) := by
  refine ⟨sm_ints hl 1, ?_⟩
  rw [fz_tupI]
  show (rbB _ (.tup (l.map D.int)) && decide _) = false
  simp only [rbB, unI_ints]
  rcases h with h | h | h
  · rw [h]; simp
  · rw [h]; simp
  · subst h; simp
theorem ris_no {l : List Int} {k : Nat} (hk : k + 1 < l.length) (h : ¬ l.getD k 0 < l.getD (k + 1) 0) : ris l = false := by
  cases h1 : ris l with
  | false => rfl
  | true =>
    have := List.all_eq_true.mp h1 k (List.mem_range.mpr (by omega))
    exact absurd (of_decide_eq_true this) h
theorem out_no {s : Nat} {l : List Int} {p : Int} (hp : p ∈ l) (h : inZ (s : Nat) p = false) : l.all (inZ (s : Nat)) = false := by
  cases h1 : l.all (inZ (s : Nat)) with
  | false => rfl
  | true =>
    have := List.all_eq_true.mp h1 p hp
    rw [h] at this
    exact absurd this (by decide)
theorem bl_non {s : Nat} {l : List D} (hl : l.length ≤ 1000) (h : ∀ d ∈ l, sm2 1 d = true) {d : D} (hd : d ∈ l) (hi : isI (fzv 1 d) = false) : Bl s (.tup l) := by
  refine ⟨sm2_tup hl h, ?_⟩
  show (rbB _ (.tup (l.map (fzv 1))) && decide _) = false
  have : (l.map (fzv 1)).all isI = false := by
    cases h1 : (l.map (fzv 1)).all isI with
    | false => rfl
    | true =>
      have := List.all_eq_true.mp h1 _ (List.mem_map.mpr ⟨d, hd, rfl⟩)
      rw [hi] at this
      exact absurd this (by decide)
  simp only [rbB, this, Bool.false_and]
def WS : List D := [.non, .int 0, .bl true, .str [], .str [48, 49], .str [48, 44, 49], .int (-1)]
theorem ws_get (s : Nat) {r : Nat} (hr : r < 7) : ∃ d, WS[r]? = some d ∧ Bl s d := by
  match r, hr with
  | 0, _ => exact ⟨_, rfl, rfl, rfl⟩
  | 1, _ => exact ⟨_, rfl, rfl, rfl⟩
  | 2, _ => exact ⟨_, rfl, rfl, rfl⟩
  | 3, _ => exact ⟨_, rfl, by decide, rfl⟩
  | 4, _ => exact ⟨_, rfl, by decide, rfl⟩
  | 5, _ => exact ⟨_, rfl, by decide, rfl⟩
  | 6, _ => exact ⟨_, rfl, rfl, rfl⟩
  | k + 7, h => exact absurd h (by omega)
def WY : List D := [.non, .str [], .str [48], .tup [.int 0], .lst [.int 1], .tup []]
theorem wy_get {r : Nat} (hr : r < 6) : ∃ d, WY[r]? = some d ∧ sm2 1 d = true ∧ isI (fzv 1 d) = false := by
  match r, hr with
  | 0, _ => exact ⟨_, rfl, rfl, rfl⟩
  | 1, _ => exact ⟨_, rfl, by decide, rfl⟩
  | 2, _ => exact ⟨_, rfl, by decide, rfl⟩
  | 3, _ => exact ⟨_, rfl, by decide, rfl⟩
  | 4, _ => exact ⟨_, rfl, by decide, rfl⟩
  | 5, _ => exact ⟨_, rfl, by decide, rfl⟩
  | k + 6, h => exact absurd h (by omega)
def tlS : Sts → Sts
  | .cons _ b => b
  | b => b
def bB : Sts := tlS (tlS b22)
theorem bb_eq : b22 = .cons (.asg 3 (.call 14 (.cons (.var 0) (.cons (.bi .len false (.cons (.var 2) .nil)) .nil)))) (.cons (.asg 4 (.call 14 (.cons (.var 0) (.cons (.int 9) .nil)))) bB) := rfl
def bB1 : Sts := tlS bB
def bB2 : Sts := tlS bB1
def bB3 : Sts := tlS bB2
def bB4 : Sts := tlS bB3
def bB5 : Sts := tlS bB4
def bB6 : Sts := tlS bB5
def bB7 : Sts := tlS bB6
def bB8 : Sts := tlS bB7
def bB9 : Sts := tlS bB8
def BlR (n : Nat) (ns : List Int) (X : Store) (k : Nat) (s : Nat) (b : Sts) (ρ : Fr) (S : Store) : Prop := ∃ (d : D) (S' : Store), exSs (csOf T (n + 1)) b ρ S = .rt d S' ∧ Bl s d ∧ QE ns X (k + 1) S'
theorem bb_main (n : Nat) {ns : List Int} {X : Store} {k : Nat} {S : Store} (q : QE ns X k S) (hk : k + 100 < 2 ^ 60) {s : Nat} {l : List Int} (hl : l.length ≤ 8) (hs : l.Pairwise (· < ·)) (hr0 : ∀ p ∈ l, 0 ≤ p ∧ p < (s : Int)) (y : Nat) (hy : y < 9) (a : Nat) (ha : a < l.length) :
    BlR n ns X k s bB [some (.ref 0), some (.int (s : Nat)), some (tupI l), some (.int (a : Nat)), some (.int (y : Nat)), none] S := by
  have lim : l.length ≤ LIM := lim_le (by omega)
  have ml : (l.map D.int).length = l.length := by simp
  have a0 : a ≤ l.length := by omega
  have ga : (l.map D.int)[a]? = some (.int (l.getD a 0)) := by simp [ha]
  have c1 := cut_lo (l.map D.int) a (by simpa using a0)
  have c2 := cut_hi (l.map D.int) a
  have c3 := cut_hi (l.map D.int) (a + 1)
  push_cast at c3
  -- the last return
  have last : ∀ (S : Store), exSs (csOf T (n + 1)) bB9 [some (.ref 0), some (.int (s : Nat)), some (tupI l), some (.int (a : Nat)), some (.int (y : Nat)), none] S = .rt (tupI (l.take a ++ [l.getD a 0] ++ l.drop a)) S := by
    intro S
    have ia := ix_tup ga S
    have lm1 : a + 1 ≤ LIM := lim_le (by omega)
    have lm2 : a + 1 + (l.length - a) ≤ LIM := lim_le (by omega)
    have lt : ((l.map D.int).take a).length = a := by simp; omega
    have ld : ((l.map D.int).drop a).length = l.length - a := by simp
    have e : (l.take a ++ [l.getD a 0] ++ l.drop a).map D.int = (l.map D.int).take a ++ [.int (l.getD a 0)] ++ (l.map D.int).drop a := by simp [List.map_take, List.map_drop]
    unfold tupI at *
    rw [e]
    generalize (l.map D.int).take a = Q1 at *
    generalize (l.map D.int).drop a = Q2 at *
    generalize l.getD a 0 = g at *
    generalize l.map D.int = Q at *
    simp (dsimp := false) (implicitDefEqProofs := false) [bB9, bB8, bB7, bB6, bB5, bB4, bB3, bB2, bB1, bB, tlS, b22, ml, a0, c1, c2, ia, slcD, lstOf, lt, ld, lm1, lm2, mkL, ofO, -List.getD_eq_getElem?_getD, exSs, exS, evE.eq_1, evE.eq_2, evE.eq_3, evE.eq_4, evE.eq_5, evE.eq_6, evE.eq_7, evE.eq_8, evE.eq_9, evE.eq_10, evE.eq_11, evE.eq_12, evE.eq_13, evE.eq_14, evE.eq_15, evE.eq_16, evE.eq_17, evE.eq_18, evE.eq_19, evE.eq_20, evE.eq_21, evE.eq_22, evE.eq_23, evE.eq_24, evE.eq_25, evE.eq_26, evE.eq_27, evE.eq_28, evE.eq_31, evE.eq_32, evE.eq_33, evE.eq_34, evE.eq_35, evE.eq_36, evE.eq_37, evE.eq_38, evT, evL, evI, evC, evW, startF, setS, seqOf, ixN, binD, arI, setI, cmpD, intCmp, cmpI, truD, isAny, isD, isNo, pln, vw, eqD, biD, tidy_same, tidyx_same, wipe, evHx, evHl, evHt, evHs, Rs.os, toR, Rs.nox]
  have lastB : Bl s (tupI (l.take a ++ [l.getD a 0] ++ l.drop a)) := by
    refine bl_ints (by simp; omega) (.inl (ris_no (k := a) (by simp; omega) ?_))
    have e1 : (l.take a ++ [l.getD a 0] ++ l.drop a).getD a 0 = l.getD a 0 := by
      rw [List.append_assoc, List.getD_eq_getElem?_getD, List.getElem?_append_right (by rw [List.length_take]; exact Nat.min_le_left _ _)]
      simp [Nat.min_eq_left a0]
    have e2 : (l.take a ++ [l.getD a 0] ++ l.drop a).getD (a + 1) 0 = l.getD a 0 := by
      rw [List.append_assoc, List.getD_eq_getElem?_getD, List.getElem?_append_right (by simp; omega)]
      simp [Nat.min_eq_left a0]
    rw [e1, e2]
    omega
  have l0 : 0 < l.length := by omega
  match y, hy with
  | 0, _ =>
    by_cases h : 1 < l.length
    · refine ⟨tupI l.reverse, S, ?_, bl_ints (by simp; omega) (.inl (ris_no (k := 0) (by simp; omega) ?_)), q.mono (by omega)⟩
      · have e : (l.map D.int).reverse = l.reverse.map .int := by rw [List.map_reverse]
        have h' : (1 : Int) < l.length := by omega
        unfold tupI
        rw [← e]
        generalize l.map D.int = Q at *
        simp (dsimp := false) (implicitDefEqProofs := false) [bB, tlS, b22, revR, ml, lim, h, h', exSs, exS, evE.eq_1, evE.eq_2, evE.eq_3, evE.eq_4, evE.eq_5, evE.eq_6, evE.eq_7, evE.eq_8, evE.eq_9, evE.eq_10, evE.eq_11, evE.eq_12, evE.eq_13, evE.eq_14, evE.eq_15, evE.eq_16, evE.eq_17, evE.eq_18, evE.eq_19, evE.eq_20, evE.eq_21, evE.eq_22, evE.eq_23, evE.eq_24, evE.eq_25, evE.eq_26, evE.eq_27, evE.eq_28, evE.eq_31, evE.eq_32, evE.eq_33, evE.eq_34, evE.eq_35, evE.eq_36, evE.eq_37, evE.eq_38, evT, evL, evI, evC, evW, startF, setS, idxD, seqOf, ixN, binD, arI, setI, cmpD, intCmp, cmpI, truD, isAny, isD, isNo, pln, vw, eqD, biD, tidy_same, tidyx_same, wipe, evHx, evHl, evHt, evHs, Rs.os, toR, Rs.nox]
      · have h0 : 0 < l.reverse.length := by simp; omega
        have h1 : 1 < l.reverse.length := by simp; omega
        have g0 : l.reverse.getD 0 0 = l[l.length - 1] := by
          rw [List.getD_eq_getElem?_getD, List.getElem?_eq_getElem h0, List.getElem_reverse]; rfl
        have g1 : l.reverse.getD (0 + 1) 0 = l[l.length - 2] := by
          rw [List.getD_eq_getElem?_getD, List.getElem?_eq_getElem h1, List.getElem_reverse]; rfl
        rw [g0, g1]
        have := List.pairwise_iff_getElem.mp hs (l.length - 2) (l.length - 1) (by omega) (by omega) (by omega)
        omega
    · have h' : ¬ (1 : Int) < l.length := by omega
      refine ⟨_, S, ?_, lastB, q.mono (by omega)⟩
      rw [← last S]
      unfold tupI
      generalize l.map D.int = Q at *
      simp (dsimp := false) (implicitDefEqProofs := false) [bB9, bB8, bB7, bB6, bB5, bB4, bB3, bB2, bB1, bB, tlS, b22, ml, h, h', -List.getD_eq_getElem?_getD, exSs, exS, evE.eq_1, evE.eq_2, evE.eq_3, evE.eq_4, evE.eq_5, evE.eq_6, evE.eq_7, evE.eq_8, evE.eq_9, evE.eq_10, evE.eq_11, evE.eq_12, evE.eq_13, evE.eq_14, evE.eq_15, evE.eq_16, evE.eq_17, evE.eq_18, evE.eq_19, evE.eq_20, evE.eq_21, evE.eq_22, evE.eq_23, evE.eq_24, evE.eq_25, evE.eq_26, evE.eq_27, evE.eq_28, evE.eq_31, evE.eq_32, evE.eq_33, evE.eq_34, evE.eq_35, evE.eq_36, evE.eq_37, evE.eq_38, evT, evL, evI, evC, evW, startF, setS, idxD, seqOf, ixN, binD, arI, setI, cmpD, intCmp, cmpI, truD, isAny, isD, isNo, pln, vw, eqD, biD, tidy_same, tidyx_same, wipe, evHx, evHl, evHt, evHs, Rs.os, toR, Rs.nox]
  | 1, _ =>
    obtain ⟨r, S1, e1, q1, r1⟩ := de q (by omega) (m := 3) (by decide) (by decide) n
    have lm2 : 1 + l.length ≤ LIM := lim_le (by omega)
    refine ⟨tupI ((-1 - (r : Int)) :: l), S1, ?_, bl_ints (by simp; omega) (.inr (.inl (out_no (p := -1 - (r : Int)) List.mem_cons_self ?_))), q1⟩
    · unfold tupI
      rw [List.map_cons]
      generalize l.map D.int = Q at *
      simp (dsimp := false) (implicitDefEqProofs := false) [bB, tlS, b22, ml, lm2, e1, exSs, exS, evE.eq_1, evE.eq_2, evE.eq_3, evE.eq_4, evE.eq_5, evE.eq_6, evE.eq_7, evE.eq_8, evE.eq_9, evE.eq_10, evE.eq_11, evE.eq_12, evE.eq_13, evE.eq_14, evE.eq_15, evE.eq_16, evE.eq_17, evE.eq_18, evE.eq_19, evE.eq_20, evE.eq_21, evE.eq_22, evE.eq_23, evE.eq_24, evE.eq_25, evE.eq_26, evE.eq_27, evE.eq_28, evE.eq_31, evE.eq_32, evE.eq_33, evE.eq_34, evE.eq_35, evE.eq_36, evE.eq_37, evE.eq_38, evT, evL, evI, evC, evW, startF, setS, idxD, seqOf, ixN, binD, arI, setI, cmpD, intCmp, cmpI, truD, isAny, isD, isNo, pln, vw, eqD, biD, tidy_same, tidyx_same, wipe, evHx, evHl, evHt, evHs, Rs.os, toR, Rs.nox]
    · have : decide ((0 : Int) ≤ -1 - (r : Int)) = false := decide_eq_false (by omega)
      simp only [inZ, this, Bool.false_and]
  | 2, _ =>
    obtain ⟨r, S1, e1, q1, r1⟩ := de q (by omega) (m := 2) (by decide) (by decide) n
    have lm : l.length + 1 ≤ LIM := lim_le (by omega)
    refine ⟨tupI (l ++ [(s : Int) + r]), S1, ?_, bl_ints (by simp; omega) (.inr (.inl (out_no (p := (s : Int) + r) (by simp) ?_))), q1⟩
    · unfold tupI
      rw [List.map_append]
      generalize l.map D.int = Q at *
      simp (dsimp := false) (implicitDefEqProofs := false) [bB, tlS, b22, ml, lm, e1, exSs, exS, evE.eq_1, evE.eq_2, evE.eq_3, evE.eq_4, evE.eq_5, evE.eq_6, evE.eq_7, evE.eq_8, evE.eq_9, evE.eq_10, evE.eq_11, evE.eq_12, evE.eq_13, evE.eq_14, evE.eq_15, evE.eq_16, evE.eq_17, evE.eq_18, evE.eq_19, evE.eq_20, evE.eq_21, evE.eq_22, evE.eq_23, evE.eq_24, evE.eq_25, evE.eq_26, evE.eq_27, evE.eq_28, evE.eq_31, evE.eq_32, evE.eq_33, evE.eq_34, evE.eq_35, evE.eq_36, evE.eq_37, evE.eq_38, evT, evL, evI, evC, evW, startF, setS, idxD, seqOf, ixN, binD, arI, setI, cmpD, intCmp, cmpI, truD, isAny, isD, isNo, pln, vw, eqD, biD, tidy_same, tidyx_same, wipe, evHx, evHl, evHt, evHs, Rs.os, toR, Rs.nox]
    · have : decide ((s : Int) + r < s) = false := decide_eq_false (by omega)
      simp only [inZ, this, Bool.and_false]
  | 3, _ =>
    match l, hl, l0, lim, ml with
    | p :: r, hl, _, lim, ml =>
      simp only [List.length_cons] at hl
      have h' : (0 : Int) < (r.length : Int) + 1 := by omega
      have sm1 : ∀ x ∈ r.map D.int, sm2 1 x = true := fun x hx => by
        obtain ⟨i, _, rfl⟩ := List.mem_map.mp hx
        exact sm2_int _ _
      by_cases hp : p = 0
      · subst hp
        have lm2 : 1 + r.length ≤ LIM := lim_le (by omega)
        have lm3 : r.length + 1 ≤ LIM := by omega
        have c2 := cut_hi (D.int 0 :: r.map D.int) 1
        have c2 : cut (D.int 0 :: r.map D.int) (some 1) none = r.map D.int := c2
        refine ⟨.tup (.bl false :: r.map .int), S, ?_, bl_non (by simp; omega) (fun x hx => ?_) (d := .bl false) List.mem_cons_self rfl, q.mono (by omega)⟩
        · simp (dsimp := false) (implicitDefEqProofs := false) [bB, tlS, b22, tupI, h', slcD, c2, lstOf, lm2, lm3, mkL, exSs, exS, evE.eq_1, evE.eq_2, evE.eq_3, evE.eq_4, evE.eq_5, evE.eq_6, evE.eq_7, evE.eq_8, evE.eq_9, evE.eq_10, evE.eq_11, evE.eq_12, evE.eq_13, evE.eq_14, evE.eq_15, evE.eq_16, evE.eq_17, evE.eq_18, evE.eq_19, evE.eq_20, evE.eq_21, evE.eq_22, evE.eq_23, evE.eq_24, evE.eq_25, evE.eq_26, evE.eq_27, evE.eq_28, evE.eq_31, evE.eq_32, evE.eq_33, evE.eq_34, evE.eq_35, evE.eq_36, evE.eq_37, evE.eq_38, evT, evL, evI, evC, evW, startF, setS, idxD, seqOf, ixN, binD, arI, setI, cmpD, intCmp, cmpI, truD, isAny, isD, isNo, pln, vw, eqD, biD, tidy_same, tidyx_same, wipe, evHx, evHl, evHt, evHs, Rs.os, toR, Rs.nox]
        · rcases List.mem_cons.mp hx with rfl | hx
          · rfl
          · exact sm1 x hx
      · have hp' : (p == 0) = false := beq_eq_false_iff_ne.mpr hp
        have lm2 : 1 + (r.length + 1) ≤ LIM := lim_le (by omega)
        refine ⟨.tup (.bl false :: .int p :: r.map .int), S, ?_, bl_non (by simp; omega) (fun x hx => ?_) (d := .bl false) List.mem_cons_self rfl, q.mono (by omega)⟩
        · simp (dsimp := false) (implicitDefEqProofs := false) [bB, tlS, b22, tupI, h', hp', lm2, exSs, exS, evE.eq_1, evE.eq_2, evE.eq_3, evE.eq_4, evE.eq_5, evE.eq_6, evE.eq_7, evE.eq_8, evE.eq_9, evE.eq_10, evE.eq_11, evE.eq_12, evE.eq_13, evE.eq_14, evE.eq_15, evE.eq_16, evE.eq_17, evE.eq_18, evE.eq_19, evE.eq_20, evE.eq_21, evE.eq_22, evE.eq_23, evE.eq_24, evE.eq_25, evE.eq_26, evE.eq_27, evE.eq_28, evE.eq_31, evE.eq_32, evE.eq_33, evE.eq_34, evE.eq_35, evE.eq_36, evE.eq_37, evE.eq_38, evT, evL, evI, evC, evW, startF, setS, idxD, seqOf, ixN, binD, arI, setI, cmpD, intCmp, cmpI, truD, isAny, isD, isNo, pln, vw, eqD, biD, tidy_same, tidyx_same, wipe, evHx, evHl, evHt, evHs, Rs.os, toR, Rs.nox]
        · rcases List.mem_cons.mp hx with rfl | hx
          · rfl
          · rcases List.mem_cons.mp hx with rfl | hx
            · exact sm2_int _ _
            · exact sm1 x hx
  | 4, _ =>
    by_cases h : (1 : Int) ∈ l
    · have em : (l.map D.int).map (fun d => match d with
          | .int i => if i = 1 then D.bl true else .int i
          | _ => .non) = l.map fun i => if i = 1 then D.bl true else .int i := by
        rw [List.map_map]
        rfl
      have bq : ∀ n, belowL n (l.map fun i => if i = 1 then D.bl true else .int i) = true := fun n => belowL_of fun d hd => by
        obtain ⟨i, _, rfl⟩ := List.mem_map.mp hd
        try dsimp only
        split <;> rfl
      have e1 := lc_map (C := csOf T (n + 1)) (own := [5]) (tg := .nm 5) (it := .seq (.var 2)) (e := b22e0) (ρ := [some (.ref 0), some (.int (s : Nat)), some (tupI l), some (.int (a : Nat)), some (.int ((4 : Nat) : Int)), none]) (S := S) (l := l.map .int) (g := []) (fun d => match d with
          | .int i => if i = 1 then D.bl true else .int i
          | _ => .non) (by simp (dsimp := false) (implicitDefEqProofs := false) [seqIt, Ev.guard, tupI, exSs, exS, evE.eq_1, evE.eq_2, evE.eq_3, evE.eq_4, evE.eq_5, evE.eq_6, evE.eq_7, evE.eq_8, evE.eq_9, evE.eq_10, evE.eq_11, evE.eq_12, evE.eq_13, evE.eq_14, evE.eq_15, evE.eq_16, evE.eq_17, evE.eq_18, evE.eq_19, evE.eq_20, evE.eq_21, evE.eq_22, evE.eq_23, evE.eq_24, evE.eq_25, evE.eq_26, evE.eq_27, evE.eq_28, evE.eq_31, evE.eq_32, evE.eq_33, evE.eq_34, evE.eq_35, evE.eq_36, evE.eq_37, evE.eq_38, evT, evL, evI, evC, evW, startF, setS, idxD, seqOf, ixN, binD, arI, setI, cmpD, intCmp, cmpI, truD, isAny, isD, isNo, pln, vw, eqD, biD, tidy_same, tidyx_same, wipe, evHx, evHl, evHt, evHs, Rs.os, toR, Rs.nox]) (fun c => gOk_nil _) (fun d hd x => ⟨_, rfl, by
          obtain ⟨i, _, rfl⟩ := List.mem_map.mp hd
          by_cases hi : i = 1
          · subst hi; simp (dsimp := false) (implicitDefEqProofs := false) [b22e0, mkL, ofO, exSs, exS, evE.eq_1, evE.eq_2, evE.eq_3, evE.eq_4, evE.eq_5, evE.eq_6, evE.eq_7, evE.eq_8, evE.eq_9, evE.eq_10, evE.eq_11, evE.eq_12, evE.eq_13, evE.eq_14, evE.eq_15, evE.eq_16, evE.eq_17, evE.eq_18, evE.eq_19, evE.eq_20, evE.eq_21, evE.eq_22, evE.eq_23, evE.eq_24, evE.eq_25, evE.eq_26, evE.eq_27, evE.eq_28, evE.eq_31, evE.eq_32, evE.eq_33, evE.eq_34, evE.eq_35, evE.eq_36, evE.eq_37, evE.eq_38, evT, evL, evI, evC, evW, startF, setS, idxD, seqOf, ixN, binD, arI, setI, cmpD, intCmp, cmpI, truD, isAny, isD, isNo, pln, vw, eqD, biD, tidy_same, tidyx_same, wipe, evHx, evHl, evHt, evHs, Rs.os, toR, Rs.nox]
          · have hi' : (i == 1) = false := beq_eq_false_iff_ne.mpr hi
            simp (dsimp := false) (implicitDefEqProofs := false) [b22e0, mkL, ofO, hi, hi', exSs, exS, evE.eq_1, evE.eq_2, evE.eq_3, evE.eq_4, evE.eq_5, evE.eq_6, evE.eq_7, evE.eq_8, evE.eq_9, evE.eq_10, evE.eq_11, evE.eq_12, evE.eq_13, evE.eq_14, evE.eq_15, evE.eq_16, evE.eq_17, evE.eq_18, evE.eq_19, evE.eq_20, evE.eq_21, evE.eq_22, evE.eq_23, evE.eq_24, evE.eq_25, evE.eq_26, evE.eq_27, evE.eq_28, evE.eq_31, evE.eq_32, evE.eq_33, evE.eq_34, evE.eq_35, evE.eq_36, evE.eq_37, evE.eq_38, evT, evL, evI, evC, evW, startF, setS, idxD, seqOf, ixN, binD, arI, setI, cmpD, intCmp, cmpI, truD, isAny, isD, isNo, pln, vw, eqD, biD, tidy_same, tidyx_same, wipe, evHx, evHl, evHt, evHs, Rs.os, toR, Rs.nox]⟩) (by simpa using lim) (by rw [em]; exact bq _)
      rw [em] at e1
      have e3 := inD_tupI 1 l S
      rw [decide_eq_true h] at e3
      refine ⟨.tup (l.map fun i => if i = 1 then D.bl true else .int i), S, ?_, bl_non (by simp; omega) (fun x hx => ?_) (d := .bl true) (List.mem_map.mpr ⟨1, h, rfl⟩) rfl, q.mono (by omega)⟩
      · have lq : (l.map fun i => if i = 1 then D.bl true else .int i).length ≤ LIM := by simpa using lim
        rw [show ((4 : Nat) : Int) = 4 from rfl] at e1 ⊢
        generalize (l.map fun i => if i = 1 then D.bl true else .int i) = Q2 at *
        generalize tupI l = Q at *
        simp (dsimp := false) (implicitDefEqProofs := false) [bB, tlS, b22, e3, e1, lstOf, lq, ofO, exSs, exS, evE.eq_1, evE.eq_2, evE.eq_3, evE.eq_4, evE.eq_5, evE.eq_6, evE.eq_7, evE.eq_8, evE.eq_9, evE.eq_10, evE.eq_11, evE.eq_12, evE.eq_13, evE.eq_14, evE.eq_15, evE.eq_16, evE.eq_17, evE.eq_18, evE.eq_19, evE.eq_20, evE.eq_21, evE.eq_22, evE.eq_23, evE.eq_24, evE.eq_25, evE.eq_26, evE.eq_27, evE.eq_28, evE.eq_31, evE.eq_32, evE.eq_33, evE.eq_34, evE.eq_35, evE.eq_36, evE.eq_37, evE.eq_38, evT, evL, evI, evC, evW, startF, setS, idxD, seqOf, ixN, binD, arI, setI, cmpD, intCmp, cmpI, truD, isAny, isD, isNo, pln, vw, eqD, biD, tidy_same, tidyx_same, wipe, evHx, evHl, evHt, evHs, Rs.os, toR, Rs.nox]
      · obtain ⟨i, _, rfl⟩ := List.mem_map.mp hx
        try dsimp only
        split
        · rfl
        · exact sm2_int _ _
    · have e3 := inD_tupI 1 l S
      rw [decide_eq_false h] at e3
      refine ⟨_, S, ?_, lastB, q.mono (by omega)⟩
      rw [← last S]
      generalize tupI l = Q at *
      simp (dsimp := false) (implicitDefEqProofs := false) [bB9, bB8, bB7, bB6, bB5, bB4, bB3, bB2, bB1, bB, tlS, b22, e3, ofO, exSs, exS, evE.eq_1, evE.eq_2, evE.eq_3, evE.eq_4, evE.eq_5, evE.eq_6, evE.eq_7, evE.eq_8, evE.eq_9, evE.eq_10, evE.eq_11, evE.eq_12, evE.eq_13, evE.eq_14, evE.eq_15, evE.eq_16, evE.eq_17, evE.eq_18, evE.eq_19, evE.eq_20, evE.eq_21, evE.eq_22, evE.eq_23, evE.eq_24, evE.eq_25, evE.eq_26, evE.eq_27, evE.eq_28, evE.eq_31, evE.eq_32, evE.eq_33, evE.eq_34, evE.eq_35, evE.eq_36, evE.eq_37, evE.eq_38, evT, evL, evI, evC, evW, startF, setS, idxD, seqOf, ixN, binD, arI, setI, cmpD, intCmp, cmpI, truD, isAny, isD, isNo, pln, vw, eqD, biD, tidy_same, tidyx_same, wipe, evHx, evHl, evHt, evHs, Rs.os, toR, Rs.nox]
  | 5, _ =>
    obtain ⟨r, S1, e1, q1, r1⟩ := de q (by omega) (m := 6) (by decide) (by decide) n
    obtain ⟨d, g, s2, i2⟩ := wy_get (r := r) (by omega)
    have ix := ix_lst g S1
    unfold WY at ix
    have lt : ((l.map D.int).take a).length = a := by simp; omega
    have ld : ((l.map D.int).drop (a + 1)).length = l.length - (a + 1) := by simp
    have lm1 : a + 1 ≤ LIM := lim_le (by omega)
    have lm2 : a + 1 + (l.length - (a + 1)) ≤ LIM := lim_le (by omega)
    have mi : ∀ x ∈ (l.map D.int).take a ++ [d] ++ (l.map D.int).drop (a + 1), sm2 1 x = true := fun x hx => by
      have key : x ∈ l.map D.int → sm2 1 x = true := fun hx => by
        obtain ⟨i, _, rfl⟩ := List.mem_map.mp hx
        exact sm2_int _ _
      rcases List.mem_append.mp hx with hx | hx
      · rcases List.mem_append.mp hx with hx | hx
        · exact key (List.mem_of_mem_take hx)
        · rw [List.mem_singleton.mp hx]; exact s2
      · exact key (List.mem_of_mem_drop hx)
    refine ⟨.tup ((l.map D.int).take a ++ [d] ++ (l.map D.int).drop (a + 1)), S1, ?_, bl_non (by simp; omega) mi (d := d) (by simp) i2, q1⟩
    unfold tupI
    generalize (l.map D.int).take a = Q1 at *
    generalize (l.map D.int).drop (a + 1) = Q2 at *
    generalize l.map D.int = Q at *
    simp (dsimp := false) (implicitDefEqProofs := false) [bB, tlS, b22, ml, e1, c1, c3, slcD, mkL, ix, ofO, lstOf, lt, ld, lm1, lm2, -List.getD_eq_getElem?_getD, exSs, exS, evE.eq_1, evE.eq_2, evE.eq_3, evE.eq_4, evE.eq_5, evE.eq_6, evE.eq_7, evE.eq_8, evE.eq_9, evE.eq_10, evE.eq_11, evE.eq_12, evE.eq_13, evE.eq_14, evE.eq_15, evE.eq_16, evE.eq_17, evE.eq_18, evE.eq_19, evE.eq_20, evE.eq_21, evE.eq_22, evE.eq_23, evE.eq_24, evE.eq_25, evE.eq_26, evE.eq_27, evE.eq_28, evE.eq_31, evE.eq_32, evE.eq_33, evE.eq_34, evE.eq_35, evE.eq_36, evE.eq_37, evE.eq_38, evT, evL, evI, evC, evW, startF, setS, seqOf, ixN, binD, arI, setI, cmpD, intCmp, cmpI, truD, isAny, isD, isNo, pln, vw, eqD, biD, tidy_same, tidyx_same, wipe, evHx, evHl, evHt, evHs, Rs.os, toR, Rs.nox]
  | 6, _ =>
    obtain ⟨r, S1, e1, q1, r1⟩ := de q (by omega) (m := 7) (by decide) (by decide) n
    obtain ⟨d, g, hd⟩ := ws_get s (r := r) (by omega)
    have ix := ix_lst g S1
    unfold WS at ix
    refine ⟨d, S1, ?_, hd, q1⟩
    unfold tupI
    generalize l.map D.int = Q at *
    simp (dsimp := false) (implicitDefEqProofs := false) [bB, tlS, b22, ml, e1, mkL, ix, ofO, -List.getD_eq_getElem?_getD, exSs, exS, evE.eq_1, evE.eq_2, evE.eq_3, evE.eq_4, evE.eq_5, evE.eq_6, evE.eq_7, evE.eq_8, evE.eq_9, evE.eq_10, evE.eq_11, evE.eq_12, evE.eq_13, evE.eq_14, evE.eq_15, evE.eq_16, evE.eq_17, evE.eq_18, evE.eq_19, evE.eq_20, evE.eq_21, evE.eq_22, evE.eq_23, evE.eq_24, evE.eq_25, evE.eq_26, evE.eq_27, evE.eq_28, evE.eq_31, evE.eq_32, evE.eq_33, evE.eq_34, evE.eq_35, evE.eq_36, evE.eq_37, evE.eq_38, evT, evL, evI, evC, evW, startF, setS, seqOf, ixN, binD, arI, setI, cmpD, intCmp, cmpI, truD, isAny, isD, isNo, pln, vw, eqD, biD, tidy_same, tidyx_same, wipe, evHx, evHl, evHt, evHs, Rs.os, toR, Rs.nox]
  | 7, _ =>
    have c0 := cut_lo (l.map D.int) 0 (by omega)
    have c0 : cut (l.map D.int) none (some 0) = [] := c0
    refine ⟨tupI [], S, ?_, bl_ints (by simp) (.inr (.inr rfl)), q.mono (by omega)⟩
    unfold tupI
    generalize l.map D.int = Q at *
    simp (dsimp := false) (implicitDefEqProofs := false) [bB, tlS, b22, ml, slcD, c0, mkL, lstOf, -List.getD_eq_getElem?_getD, exSs, exS, evE.eq_1, evE.eq_2, evE.eq_3, evE.eq_4, evE.eq_5, evE.eq_6, evE.eq_7, evE.eq_8, evE.eq_9, evE.eq_10, evE.eq_11, evE.eq_12, evE.eq_13, evE.eq_14, evE.eq_15, evE.eq_16, evE.eq_17, evE.eq_18, evE.eq_19, evE.eq_20, evE.eq_21, evE.eq_22, evE.eq_23, evE.eq_24, evE.eq_25, evE.eq_26, evE.eq_27, evE.eq_28, evE.eq_31, evE.eq_32, evE.eq_33, evE.eq_34, evE.eq_35, evE.eq_36, evE.eq_37, evE.eq_38, evT, evL, evI, evC, evW, startF, setS, idxD, seqOf, ixN, binD, arI, setI, cmpD, intCmp, cmpI, truD, isAny, isD, isNo, pln, vw, eqD, biD, tidy_same, tidyx_same, wipe, evHx, evHl, evHt, evHs, Rs.os, toR, Rs.nox]
  | 8, _ =>
    refine ⟨_, S, ?_, lastB, q.mono (by omega)⟩
    rw [← last S]
    unfold tupI
    generalize l.map D.int = Q at *
    simp (dsimp := false) (implicitDefEqProofs := false) [bB9, bB8, bB7, bB6, bB5, bB4, bB3, bB2, bB1, bB, tlS, b22, ml, -List.getD_eq_getElem?_getD, exSs, exS, evE.eq_1, evE.eq_2, evE.eq_3, evE.eq_4, evE.eq_5, evE.eq_6, evE.eq_7, evE.eq_8, evE.eq_9, evE.eq_10, evE.eq_11, evE.eq_12, evE.eq_13, evE.eq_14, evE.eq_15, evE.eq_16, evE.eq_17, evE.eq_18, evE.eq_19, evE.eq_20, evE.eq_21, evE.eq_22, evE.eq_23, evE.eq_24, evE.eq_25, evE.eq_26, evE.eq_27, evE.eq_28, evE.eq_31, evE.eq_32, evE.eq_33, evE.eq_34, evE.eq_35, evE.eq_36, evE.eq_37, evE.eq_38, evT, evL, evI, evC, evW, startF, setS, idxD, seqOf, ixN, binD, arI, setI, cmpD, intCmp, cmpI, truD, isAny, isD, isNo, pln, vw, eqD, biD, tidy_same, tidyx_same, wipe, evHx, evHl, evHt, evHs, Rs.os, toR, Rs.nox]
  | y + 9, h => exact absurd h (by omega)
theorem f_badlot (n : Nat) {ns : List Int} {X : Store} {k : Nat} {S : Store} (q : QE ns X k S) (hk : k + 1000 < 2 ^ 60) {s m : Nat} (hs : s ≤ 8) (hm : 0 < m ∧ m < 2 ^ s) : ∃ (d : D) (S' : Store), run T (n + 2) 22 [.ref 0, .int (s : Nat), tupI (bits m)] S = .ok d S' ∧ Bl s d ∧ QE ns X (k + 3) S' := by
  have l0 : 0 < (bits m).length := List.length_pos_iff.mpr (bits_ne hs hm)
  have l8 := bits_len m
  obtain ⟨a, S1, e1, q1, a1⟩ := de q (by omega) (m := ((bits m).length : Int)) (by omega) (by omega) n
  obtain ⟨y, S2, e2, q2, y1⟩ := de q1 (by omega) (m := 9) (by decide) (by decide) n
  obtain ⟨d, S3, e3, hd, q3⟩ := bb_main n q2 (by omega) (s := s) l8 (bits_srt m) (bits_in hm.2) y (by omega) a (by omega)
  refine ⟨d, S3, ?_, hd, q3⟩
  have td := q.tidy q3 (sm2_below 2 d hd.1 0)
  rw [run_def (F := ⟨3, 6, b22, true⟩) rfl rfl]
  show tidy true S (toR (exSs (csOf T (n + 1)) b22 _ S)) = _
  rw [bb_eq]
  have ml : ((bits m).map D.int).length = (bits m).length := by simp
  unfold tupI at *
  generalize (bits m).map D.int = Q at *
  simp (dsimp := false) (implicitDefEqProofs := false) [e1, e2, ml, e3, exSs, exS, evE.eq_1, evE.eq_2, evE.eq_3, evE.eq_4, evE.eq_5, evE.eq_6, evE.eq_7, evE.eq_8, evE.eq_9, evE.eq_10, evE.eq_11, evE.eq_12, evE.eq_13, evE.eq_14, evE.eq_15, evE.eq_16, evE.eq_17, evE.eq_18, evE.eq_19, evE.eq_20, evE.eq_21, evE.eq_22, evE.eq_23, evE.eq_24, evE.eq_25, evE.eq_26, evE.eq_27, evE.eq_28, evE.eq_31, evE.eq_32, evE.eq_33, evE.eq_34, evE.eq_35, evE.eq_36, evE.eq_37, evE.eq_38, evT, evL, evI, evC, evW, startF, setS, idxD, seqOf, ixN, binD, arI, setI, cmpD, intCmp, cmpI, truD, isAny, isD, isNo, pln, vw, eqD, biD, tidy_same, tidyx_same, wipe, evHx, evHl, evHt, evHs, Rs.os, toR, Rs.nox]
  exact td
end Lw
end
section
set_option maxRecDepth 100000
set_option maxHeartbeats 8000000
namespace Lw
open Ev Lg
/-- a pair that is refused -/
def WrG (v : D) : Prop := ∃ a b, v = .tup [a, b] ∧ sm2 3 a = true ∧ sm2 3 b = true ∧ No a (fzv 3 b)
theorem WrG.below {v : D} (h : WrG v) : below 0 v = true := by
  obtain ⟨a, b, rfl, h1, h2, _⟩ := h
  have b1 := sm2_below 3 a h1 0
  have b2 := sm2_below 3 b h2 0
  simp [Ev.below, belowL, b1, b2]
theorem wr_bl {s : Nat} {l : List D} (hl : l.length ≤ 1000) (hm : ∀ x ∈ l, sm2 2 x = true) {d : D} (hd : d ∈ l) (hb : lotB (s : Nat) (fzv 2 d) = false) : WrG (.tup [.int (s : Nat), .tup l]) := by
  refine ⟨_, _, rfl, rfl, sm2_tup hl hm, ?_⟩
  show No _ (.tup (l.map (fzv 2)))
  exact no_lot (by simpa using hl) (fun x hx => by
    obtain ⟨y, hy, rfl⟩ := List.mem_map.mp hx
    exact sm2_fzv 2 y (hm y hy)) (List.mem_map.mpr ⟨d, hd, rfl⟩) hb
def WZ (s : Nat) : List D := [.int (-1), .int 9, .int 10, .int 64, .non, .bl true, .bl false, .str [51], .tup [.int 3], .lst [.int 3], .str [], .int (0 - (s : Int) - 1)]
theorem wz_get (s : Nat) {r : Nat} (hr : r < 12) : ∃ d, (WZ s)[r]? = some d ∧ sm2 3 d = true ∧ btw 0 8 d = false := by
  have a3 : decide ((0 : Int) ≤ 0 - (s : Int) - 1) = false := decide_eq_false (by omega)
  match r, hr with
  | 0, _ => exact ⟨_, rfl, rfl, rfl⟩
  | 1, _ => exact ⟨_, rfl, rfl, rfl⟩
  | 2, _ => exact ⟨_, rfl, rfl, rfl⟩
  | 3, _ => exact ⟨_, rfl, rfl, rfl⟩
  | 4, _ => exact ⟨_, rfl, rfl, rfl⟩
  | 5, _ => exact ⟨_, rfl, rfl, rfl⟩
  | 6, _ => exact ⟨_, rfl, rfl, rfl⟩
  | 7, _ => exact ⟨_, rfl, by decide, rfl⟩
  | 8, _ => exact ⟨_, rfl, by decide, rfl⟩
  | 9, _ => exact ⟨_, rfl, by decide, rfl⟩
  | 10, _ => exact ⟨_, rfl, by decide, rfl⟩
  | 11, _ => exact ⟨_, rfl, rfl, by simp only [btw, a3, Bool.false_and]⟩
  | k + 12, h => exact absurd h (by omega)
def WM : List D := [.non, .int 0, .int 3, .bl true, .str [], .str [48, 49], .str [108, 111, 116, 115], .int (-1)]
theorem wm_get {r : Nat} (hr : r < 8) : ∃ d, WM[r]? = some d ∧ sm2 3 d = true ∧ plv (fzv 3 d) = true ∧ ∀ l, fzv 3 d ≠ .tup l := by
  match r, hr with
  | 0, _ => exact ⟨_, rfl, rfl, rfl, fun l h => by cases h⟩
  | 1, _ => exact ⟨_, rfl, rfl, rfl, fun l h => by cases h⟩
  | 2, _ => exact ⟨_, rfl, rfl, rfl, fun l h => by cases h⟩
  | 3, _ => exact ⟨_, rfl, rfl, rfl, fun l h => by cases h⟩
  | 4, _ => exact ⟨_, rfl, by decide, rfl, fun l h => by cases h⟩
  | 5, _ => exact ⟨_, rfl, by decide, rfl, fun l h => by cases h⟩
  | 6, _ => exact ⟨_, rfl, by decide, rfl, fun l h => by cases h⟩
  | 7, _ => exact ⟨_, rfl, rfl, rfl, fun l h => by cases h⟩
  | k + 8, h => exact absurd h (by omega)
def bV : Sts := tlS (tlS b23)
theorem v_eq : b23 = .cons (.asg 3 (.call 14 (.cons (.var 0) (.cons (.int 8) .nil)))) (.cons (.asg 4 (.call 14 (.cons (.var 0) (.cons (.bin .add false (.bi .len false (.cons (.var 2) .nil)) (.int 1)) .nil)))) bV) := rfl
theorem mtl_get {L : List Nat} {i : Nat} (h : i < L.length) : (mtl L)[i]? = some (tupI (bits (L.getD i 0))) := by simp [mtl, h]
theorem mtl_take (L : List Nat) (a : Nat) : (mtl L).take a = mtl (L.take a) := by simp [mtl, List.map_take]
theorem mtl_drop (L : List Nat) (a : Nat) : (mtl L).drop a = mtl (L.drop a) := by simp [mtl, List.map_drop]
theorem mem3 {A B : List Nat} {d : D} (h : sm2 2 d = true) : ∀ x ∈ mtl A ++ [d] ++ mtl B, sm2 2 x = true := fun x hx => by
  rcases List.mem_append.mp hx with hx | hx
  · rcases List.mem_append.mp hx with hx | hx
    · exact sm_mtl A x hx
    · rw [List.mem_singleton.mp hx]; exact h
  · exact sm_mtl B x hx
theorem len3 {A B : List Nat} {d : D} (h : A.length + B.length ≤ 900) : (mtl A ++ [d] ++ mtl B).length ≤ 1000 := by
  simp only [List.length_append, mtl_len, List.length_singleton]
  omega
theorem last_ix {l : List Int} (h : l ≠ []) (S : Store) : ∃ p, p ∈ l ∧ idxD (tupI l) (.int (-1)) S = some (.int p) := by
  have h0 : 0 < l.length := List.length_pos_iff.mpr h
  refine ⟨l[l.length - 1], List.getElem_mem _, ?_⟩
  have a1 : ¬ ((0 : Int) ≤ -1) := by omega
  have a2 : (0 : Int) ≤ -1 + (l.length : Int) := by omega
  have a3 : (-1 + (l.length : Int)).toNat = l.length - 1 := by omega
  have g : (l.map D.int)[l.length - 1]? = some (.int l[l.length - 1]) := by simp [h0]
  unfold tupI
  simp only [idxD, seqOf, ixN, List.length_map, a1, if_false]
  simp [a2, a3, g, show ¬ ((l.length : Int) < 1) by omega, show (1 : Int) ≤ l.length by omega]
theorem dup_no {s : Nat} {M : List Nat} (hm : M.length ≤ 8) {m : Nat} (hin : m ∈ M) (hne : ∀ x ∈ M, bits x ≠ []) (a : Nat) {d : D} (hd : sm2 2 d = true) (hf : fzv 2 d = tupI (bits m)) : WrG (.tup [.int (s : Nat), .tup (mtl (M.take a) ++ [d] ++ mtl (M.drop a))]) := by
  have hlen : (M.take a).length + (M.drop a).length ≤ 900 := by simp; omega
  refine ⟨_, _, rfl, rfl, sm2_tup (len3 hlen) (mem3 hd), ?_⟩
  have e : fzv 3 (.tup (mtl (M.take a) ++ [d] ++ mtl (M.drop a))) = .tup (((M.take a ++ [m] ++ M.drop a).map bits).map tupI) := by
    show D.tup ((mtl (M.take a) ++ [d] ++ mtl (M.drop a)).map (fzv 2)) = _
    rw [List.map_append, List.map_append, fz_mtl, fz_mtl, List.map_singleton, hf]
    simp [mtl]
  rw [e]
  refine no_dup (by simp; omega) (fun nd => ?_) (fun r hr => ?_)
  · have nd2 := List.Pairwise.of_map bits (fun a b h z => h (congrArg bits z)) nd
    have nd3 : (M.take a ++ [m] ++ M.drop a).Nodup := nd2
    have p : (M.take a ++ [m] ++ M.drop a).Perm (m :: (M.take a ++ M.drop a)) := by
      rw [List.append_assoc]
      exact List.perm_middle
    rw [List.take_append_drop] at p
    have := p.nodup_iff.mp nd3
    rw [List.nodup_cons] at this
    exact this.1 hin
  · obtain ⟨x, hx, rfl⟩ := List.mem_map.mp hr
    refine ⟨hne x ?_, bl8 x⟩
    rcases List.mem_append.mp hx with hx | hx
    · rcases List.mem_append.mp hx with hx | hx
      · exact List.mem_of_mem_take hx
      · rw [List.mem_singleton.mp hx]; exact hin
    · exact List.mem_of_mem_drop hx
theorem wr_main (n : Nat) {ns : List Int} {X : Store} {k : Nat} {S : Store} (q : QE ns X k S) (hk : k + 2000 < 2 ^ 60) {s : Nat} (hs : s ≤ 8) {M : List Nat} (hm : M.length ≤ 8) (hM : Tr s M) (y : Nat) (hy : y < 8) (a : Nat) (ha : a ≤ M.length) : ∃ (d : D) (S' : Store), exSs (csOf T (n + 2)) bV [some (.ref 0), some (.int (s : Nat)), some (.tup (mtl M)), some (.int (y : Nat)), some (.int (a : Nat)), none] S = .rt d S' ∧ WrG d ∧ QE ns X (k + 10) S' := by
  have ml := mtl_len M
  have lim : M.length ≤ LIM := lim_le (by omega)
  have c1 := cut_lo (mtl M) a (by rw [ml]; exact ha)
  have c2 := cut_hi (mtl M) a
  rw [mtl_take] at c1
  rw [mtl_drop] at c2
  have hne : ∀ x ∈ M, bits x ≠ [] := fun x hx => bits_ne hs (hM.2 x hx)
  have lt : (mtl (M.take a)).length = a := by rw [mtl_len, List.length_take]; omega
  have ld : (mtl (M.drop a)).length = M.length - a := by rw [mtl_len, List.length_drop]
  have lm1 : a + 1 ≤ LIM := lim_le (by omega)
  have lm2 : a + 1 + (M.length - a) ≤ LIM := lim_le (by omega)
  have hlen : (M.take a).length + (M.drop a).length ≤ 900 := by simp; omega
  -- an empty lot
  have emp : ∀ y3 : Int, y3 ≠ 0 → y3 ≠ 1 → (y3 = 2 ∨ M.length = 0) → ∃ (d : D) (S' : Store), exSs (csOf T (n + 2)) bV [some (.ref 0), some (.int (s : Nat)), some (.tup (mtl M)), some (.int y3), some (.int (a : Nat)), none] S = .rt d S' ∧ WrG d ∧ QE ns X (k + 10) S' := by
    intro y3 h0 h1 h2
    have h0' : (y3 == 0) = false := beq_eq_false_iff_ne.mpr h0
    have h1' : (y3 == 1) = false := beq_eq_false_iff_ne.mpr h1
    obtain ⟨r, S1, e1, q1, r1⟩ := de q (by omega) (m := 2) (by decide) (by decide) (n + 1)
    have r1 : r < 2 := by omega
    have hg : ∃ d, [D.tup [], D.lst []][r]? = some d ∧ Bl s d := by
      match r, r1 with
      | 0, _ => exact ⟨_, rfl, by decide, rfl⟩
      | 1, _ => exact ⟨_, rfl, by decide, rfl⟩
      | k + 2, h => exact absurd h (by omega)
    obtain ⟨d, g, hd⟩ := hg
    have ix := ix_lst g S1
    refine ⟨.tup [.int (s : Nat), .tup (mtl (M.take a) ++ [d] ++ mtl (M.drop a))], S1, ?_, wr_bl (len3 hlen) (mem3 hd.1) (d := d) (by simp) hd.2, q1.mono (by omega)⟩
    generalize mtl (M.take a) = Q1 at *
    generalize mtl (M.drop a) = Q2 at *
    generalize mtl M = Q at *
    rcases h2 with h2 | h2
    · subst h2
      simp (dsimp := false) (implicitDefEqProofs := false) [bV, tlS, b23, ml, c1, c2, slcD, mkL, ix, e1, ofO, lstOf, lt, ld, lm1, lm2, exSs, exS, evE.eq_1, evE.eq_2, evE.eq_3, evE.eq_4, evE.eq_5, evE.eq_6, evE.eq_7, evE.eq_8, evE.eq_9, evE.eq_10, evE.eq_11, evE.eq_12, evE.eq_13, evE.eq_14, evE.eq_15, evE.eq_16, evE.eq_17, evE.eq_18, evE.eq_19, evE.eq_20, evE.eq_21, evE.eq_22, evE.eq_23, evE.eq_24, evE.eq_25, evE.eq_26, evE.eq_27, evE.eq_28, evE.eq_31, evE.eq_32, evE.eq_33, evE.eq_34, evE.eq_35, evE.eq_36, evE.eq_37, evE.eq_38, evT, evL, evI, evC, evW, startF, setS, seqOf, ixN, binD, arI, setI, cmpD, intCmp, cmpI, truD, isAny, isD, isNo, pln, vw, eqD, biD, tidy_same, tidyx_same, wipe, evHx, evHl, evHt, evHs, Rs.os, toR, Rs.nox]
    · have h3 : (((M.length : Nat) : Int) == 0) = true := by rw [h2]; rfl
      cases h4 : (y3 == 2) with
      | true => simp (dsimp := false) (implicitDefEqProofs := false) [bV, tlS, b23, ml, h0', h1', h4, c1, c2, slcD, mkL, ix, e1, ofO, lstOf, lt, ld, lm1, lm2, exSs, exS, evE.eq_1, evE.eq_2, evE.eq_3, evE.eq_4, evE.eq_5, evE.eq_6, evE.eq_7, evE.eq_8, evE.eq_9, evE.eq_10, evE.eq_11, evE.eq_12, evE.eq_13, evE.eq_14, evE.eq_15, evE.eq_16, evE.eq_17, evE.eq_18, evE.eq_19, evE.eq_20, evE.eq_21, evE.eq_22, evE.eq_23, evE.eq_24, evE.eq_25, evE.eq_26, evE.eq_27, evE.eq_28, evE.eq_31, evE.eq_32, evE.eq_33, evE.eq_34, evE.eq_35, evE.eq_36, evE.eq_37, evE.eq_38, evT, evL, evI, evC, evW, startF, setS, seqOf, ixN, binD, arI, setI, cmpD, intCmp, cmpI, truD, isAny, isD, isNo, pln, vw, eqD, biD, tidy_same, tidyx_same, wipe, evHx, evHl, evHt, evHs, Rs.os, toR, Rs.nox]
      | false => simp (dsimp := false) (implicitDefEqProofs := false) [bV, tlS, b23, ml, h0', h1', h3, h4, c1, c2, slcD, mkL, ix, e1, ofO, lstOf, lt, ld, lm1, lm2, exSs, exS, evE.eq_1, evE.eq_2, evE.eq_3, evE.eq_4, evE.eq_5, evE.eq_6, evE.eq_7, evE.eq_8, evE.eq_9, evE.eq_10, evE.eq_11, evE.eq_12, evE.eq_13, evE.eq_14, evE.eq_15, evE.eq_16, evE.eq_17, evE.eq_18, evE.eq_19, evE.eq_20, evE.eq_21, evE.eq_22, evE.eq_23, evE.eq_24, evE.eq_25, evE.eq_26, evE.eq_27, evE.eq_28, evE.eq_31, evE.eq_32, evE.eq_33, evE.eq_34, evE.eq_35, evE.eq_36, evE.eq_37, evE.eq_38, evT, evL, evI, evC, evW, startF, setS, seqOf, ixN, binD, arI, setI, cmpD, intCmp, cmpI, truD, isAny, isD, isNo, pln, vw, eqD, biD, tidy_same, tidyx_same, wipe, evHx, evHl, evHt, evHs, Rs.os, toR, Rs.nox]
  match y, hy with
  | 0, _ =>
    obtain ⟨r, S1, e1, q1, r1⟩ := de q (by omega) (m := 12) (by decide) (by decide) (n + 1)
    obtain ⟨d, g, hd, hb⟩ := wz_get s (r := r) (by omega)
    have ix := ix_lst g S1
    unfold WZ at ix
    rw [Int.zero_sub] at ix
    refine ⟨.tup [d, .tup (mtl M)], S1, ?_, ⟨_, _, rfl, hd, sm2_tup (by rw [ml]; omega) (sm_mtl M), no_size hd hb⟩, q1.mono (by omega)⟩
    generalize mtl M = Q at *
    simp (dsimp := false) (implicitDefEqProofs := false) [bV, tlS, b23, mkL, ix, e1, ofO, exSs, exS, evE.eq_1, evE.eq_2, evE.eq_3, evE.eq_4, evE.eq_5, evE.eq_6, evE.eq_7, evE.eq_8, evE.eq_9, evE.eq_10, evE.eq_11, evE.eq_12, evE.eq_13, evE.eq_14, evE.eq_15, evE.eq_16, evE.eq_17, evE.eq_18, evE.eq_19, evE.eq_20, evE.eq_21, evE.eq_22, evE.eq_23, evE.eq_24, evE.eq_25, evE.eq_26, evE.eq_27, evE.eq_28, evE.eq_31, evE.eq_32, evE.eq_33, evE.eq_34, evE.eq_35, evE.eq_36, evE.eq_37, evE.eq_38, evT, evL, evI, evC, evW, startF, setS, seqOf, ixN, binD, arI, setI, cmpD, intCmp, cmpI, truD, isAny, isD, isNo, pln, vw, eqD, biD, tidy_same, tidyx_same, wipe, evHx, evHl, evHt, evHs, Rs.os, toR, Rs.nox]
  | 1, _ =>
    obtain ⟨r, S1, e1, q1, r1⟩ := de q (by omega) (m := 8) (by decide) (by decide) (n + 1)
    obtain ⟨d, g, hd, hp, ht⟩ := wm_get (r := r) (by omega)
    have ix := ix_lst g S1
    unfold WM at ix
    refine ⟨.tup [.int (s : Nat), d], S1, ?_, ⟨_, _, rfl, rfl, hd, no_mem (k := 0) rfl hp ht⟩, q1.mono (by omega)⟩
    generalize mtl M = Q at *
    simp (dsimp := false) (implicitDefEqProofs := false) [bV, tlS, b23, mkL, ix, e1, ofO, exSs, exS, evE.eq_1, evE.eq_2, evE.eq_3, evE.eq_4, evE.eq_5, evE.eq_6, evE.eq_7, evE.eq_8, evE.eq_9, evE.eq_10, evE.eq_11, evE.eq_12, evE.eq_13, evE.eq_14, evE.eq_15, evE.eq_16, evE.eq_17, evE.eq_18, evE.eq_19, evE.eq_20, evE.eq_21, evE.eq_22, evE.eq_23, evE.eq_24, evE.eq_25, evE.eq_26, evE.eq_27, evE.eq_28, evE.eq_31, evE.eq_32, evE.eq_33, evE.eq_34, evE.eq_35, evE.eq_36, evE.eq_37, evE.eq_38, evT, evL, evI, evC, evW, startF, setS, seqOf, ixN, binD, arI, setI, cmpD, intCmp, cmpI, truD, isAny, isD, isNo, pln, vw, eqD, biD, tidy_same, tidyx_same, wipe, evHx, evHl, evHt, evHs, Rs.os, toR, Rs.nox]
  | 2, _ => exact emp 2 (by decide) (by decide) (.inl rfl)
  | y + 3, hy =>
    rcases Nat.eq_zero_or_pos M.length with h0 | h0
    · exact emp ((y + 3 : Nat) : Int) (by omega) (by omega) (.inr h0)
    · have m0 : (0 : Int) < M.length := by omega
      have z0 : (((M.length : Nat) : Int) == 0) = false := beq_eq_false_iff_ne.mpr (by omega)
      obtain ⟨i, hi⟩ : ∃ i, i = a % M.length := ⟨_, rfl⟩
      have il : i < M.length := by rw [hi]; exact Nat.mod_lt _ h0
      have ci : (a : Int) % (M.length : Nat) = (i : Nat) := by rw [hi]; push_cast; rfl
      have g := mtl_get il
      have min_ : M.getD i 0 ∈ M := getD_mem il
      have ia := fun S => ix_tup g S
      generalize M.getD i 0 = m at *
      have hx := hM.2 m min_
      match y, hy with
      | 0, _ =>
        obtain ⟨p, hp, ip⟩ := last_ix (hne m min_) S
        have pp := bits_in hx.2 p hp
        obtain ⟨r, S1, e1, q1, r1⟩ := de q (by omega) (m := p + 1) (by omega) (by omega) (n + 1)
        refine ⟨.tup [.int (r : Nat), .tup (mtl M)], S1, ?_, wr_bl (by rw [ml]; omega) (sm_mtl M) (d := tupI (bits m)) (by unfold mtl; rw [List.map_map]; exact List.mem_map.mpr ⟨m, min_, rfl⟩) (bl_ints (bl8 m) (.inr (.inl (out_no hp ?_)))).2, q1.mono (by omega)⟩
        · rw [show ((0 + 3 : Nat) : Int) = 3 from rfl]
          generalize tupI (bits m) = Q1 at *
          generalize mtl M = Q at *
          simp (dsimp := false) (implicitDefEqProofs := false) [bV, tlS, b23, ml, z0, m0, ci, ia, ip, e1, ofO, h0, exSs, exS, evE.eq_1, evE.eq_2, evE.eq_3, evE.eq_4, evE.eq_5, evE.eq_6, evE.eq_7, evE.eq_8, evE.eq_9, evE.eq_10, evE.eq_11, evE.eq_12, evE.eq_13, evE.eq_14, evE.eq_15, evE.eq_16, evE.eq_17, evE.eq_18, evE.eq_19, evE.eq_20, evE.eq_21, evE.eq_22, evE.eq_23, evE.eq_24, evE.eq_25, evE.eq_26, evE.eq_27, evE.eq_28, evE.eq_31, evE.eq_32, evE.eq_33, evE.eq_34, evE.eq_35, evE.eq_36, evE.eq_37, evE.eq_38, evT, evL, evI, evC, evW, startF, setS, seqOf, ixN, binD, arI, setI, cmpD, intCmp, cmpI, truD, isAny, isD, isNo, pln, vw, eqD, biD, tidy_same, tidyx_same, wipe, evHx, evHl, evHt, evHs, Rs.os, toR, Rs.nox]
        · have : decide (p < (r : Int)) = false := decide_eq_false (by omega)
          simp only [inZ, this, Bool.and_false]
      | 1, _ =>
        refine ⟨.tup [.int (s : Nat), .tup (mtl (M.take a) ++ [tupI (bits m)] ++ mtl (M.drop a))], S, ?_, dup_no hm min_ hne a (sm_ints (bl8 m) 1) (fz_tupI 1 _), q.mono (by omega)⟩
        rw [show ((1 + 3 : Nat) : Int) = 4 from rfl]
        generalize tupI (bits m) = Q3 at *
        generalize mtl (M.take a) = Q1 at *
        generalize mtl (M.drop a) = Q2 at *
        generalize mtl M = Q at *
        simp (dsimp := false) (implicitDefEqProofs := false) [bV, tlS, b23, ml, z0, m0, ci, ia, ofO, h0, c1, c2, slcD, mkL, lstOf, lt, ld, lm1, lm2, exSs, exS, evE.eq_1, evE.eq_2, evE.eq_3, evE.eq_4, evE.eq_5, evE.eq_6, evE.eq_7, evE.eq_8, evE.eq_9, evE.eq_10, evE.eq_11, evE.eq_12, evE.eq_13, evE.eq_14, evE.eq_15, evE.eq_16, evE.eq_17, evE.eq_18, evE.eq_19, evE.eq_20, evE.eq_21, evE.eq_22, evE.eq_23, evE.eq_24, evE.eq_25, evE.eq_26, evE.eq_27, evE.eq_28, evE.eq_31, evE.eq_32, evE.eq_33, evE.eq_34, evE.eq_35, evE.eq_36, evE.eq_37, evE.eq_38, evT, evL, evI, evC, evW, startF, setS, seqOf, ixN, binD, arI, setI, cmpD, intCmp, cmpI, truD, isAny, isD, isNo, pln, vw, eqD, biD, tidy_same, tidyx_same, wipe, evHx, evHl, evHt, evHs, Rs.os, toR, Rs.nox]
      | 2, _ =>
        have lb : ((bits m).map D.int).length ≤ LIM := by rw [List.length_map]; exact lim_le (bl8 m)
        refine ⟨.tup [.int (s : Nat), .tup (mtl (M.take a) ++ [.lst ((bits m).map .int)] ++ mtl (M.drop a))], S, ?_, dup_no hm min_ hne a (sm_lints (bl8 m) 1) (fz_lsti 1 _), q.mono (by omega)⟩
        rw [show ((2 + 3 : Nat) : Int) = 5 from rfl]
        unfold tupI at ia
        generalize (bits m).map D.int = Q3 at *
        generalize mtl (M.take a) = Q1 at *
        generalize mtl (M.drop a) = Q2 at *
        generalize mtl M = Q at *
        simp (dsimp := false) (implicitDefEqProofs := false) [bV, tlS, b23, ml, z0, m0, ci, ia, ofO, h0, c1, c2, slcD, mkL, lstOf, lt, ld, lm1, lm2, lb, exSs, exS, evE.eq_1, evE.eq_2, evE.eq_3, evE.eq_4, evE.eq_5, evE.eq_6, evE.eq_7, evE.eq_8, evE.eq_9, evE.eq_10, evE.eq_11, evE.eq_12, evE.eq_13, evE.eq_14, evE.eq_15, evE.eq_16, evE.eq_17, evE.eq_18, evE.eq_19, evE.eq_20, evE.eq_21, evE.eq_22, evE.eq_23, evE.eq_24, evE.eq_25, evE.eq_26, evE.eq_27, evE.eq_28, evE.eq_31, evE.eq_32, evE.eq_33, evE.eq_34, evE.eq_35, evE.eq_36, evE.eq_37, evE.eq_38, evT, evL, evI, evC, evW, startF, setS, seqOf, ixN, binD, arI, setI, cmpD, intCmp, cmpI, truD, isAny, isD, isNo, pln, vw, eqD, biD, tidy_same, tidyx_same, wipe, evHx, evHl, evHt, evHs, Rs.os, toR, Rs.nox]
      | y + 3, hy =>
        obtain ⟨d, S1, e1, hd, q1⟩ := f_badlot n q (by omega) hs hx
        have c3 := cut_lo (mtl M) i (by rw [ml]; omega)
        have c4 := cut_hi (mtl M) (i + 1)
        rw [mtl_take] at c3
        rw [mtl_drop] at c4
        push_cast at c4
        have lt' : (mtl (M.take i)).length = i := by rw [mtl_len, List.length_take]; omega
        have ld' : (mtl (M.drop (i + 1))).length = M.length - (i + 1) := by rw [mtl_len, List.length_drop]
        have lm1' : i + 1 ≤ LIM := lim_le (by omega)
        have lm2' : i + 1 + (M.length - (i + 1)) ≤ LIM := lim_le (by omega)
        have k3 : (((y + 3 + 3 : Nat) : Int) == 0) = false := beq_eq_false_iff_ne.mpr (by omega)
        have k4 : (((y + 3 + 3 : Nat) : Int) == 1) = false := beq_eq_false_iff_ne.mpr (by omega)
        have k5 : (((y + 3 + 3 : Nat) : Int) == 2) = false := beq_eq_false_iff_ne.mpr (by omega)
        have k6 : (((y + 3 + 3 : Nat) : Int) == 3) = false := beq_eq_false_iff_ne.mpr (by omega)
        have k7 : (((y + 3 + 3 : Nat) : Int) == 4) = false := beq_eq_false_iff_ne.mpr (by omega)
        have k8 : (((y + 3 + 3 : Nat) : Int) == 5) = false := beq_eq_false_iff_ne.mpr (by omega)
        refine ⟨.tup [.int (s : Nat), .tup (mtl (M.take i) ++ [d] ++ mtl (M.drop (i + 1)))], S1, ?_, wr_bl (len3 (by simp; omega)) (mem3 hd.1) (d := d) (by simp) hd.2, q1.mono (by omega)⟩
        generalize ((y + 3 + 3 : Nat) : Int) = yy at *
        generalize tupI (bits m) = Q3 at *
        generalize mtl (M.take i) = Q1 at *
        generalize mtl (M.drop (i + 1)) = Q2 at *
        generalize mtl M = Q at *
        simp (dsimp := false) (implicitDefEqProofs := false) [bV, tlS, b23, ml, z0, m0, ci, ia, ofO, h0, k3, k4, k5, k6, k7, k8, e1, c3, c4, slcD, mkL, lstOf, lt', ld', lm1', lm2', exSs, exS, evE.eq_1, evE.eq_2, evE.eq_3, evE.eq_4, evE.eq_5, evE.eq_6, evE.eq_7, evE.eq_8, evE.eq_9, evE.eq_10, evE.eq_11, evE.eq_12, evE.eq_13, evE.eq_14, evE.eq_15, evE.eq_16, evE.eq_17, evE.eq_18, evE.eq_19, evE.eq_20, evE.eq_21, evE.eq_22, evE.eq_23, evE.eq_24, evE.eq_25, evE.eq_26, evE.eq_27, evE.eq_28, evE.eq_31, evE.eq_32, evE.eq_33, evE.eq_34, evE.eq_35, evE.eq_36, evE.eq_37, evE.eq_38, evT, evL, evI, evC, evW, startF, setS, seqOf, ixN, binD, arI, setI, cmpD, intCmp, cmpI, truD, isAny, isD, isNo, pln, vw, eqD, biD, tidy_same, tidyx_same, wipe, evHx, evHl, evHt, evHs, Rs.os, toR, Rs.nox]
theorem f_wrong (n : Nat) {ns : List Int} {X : Store} {k : Nat} {S : Store} (q : QE ns X k S) (hk : k + 3000 < 2 ^ 60) {s : Nat} (hs : s ≤ 8) {M : List Nat} (hm : M.length ≤ 8) (hM : Tr s M) : ∃ (d : D) (S' : Store), run T (n + 3) 23 [.ref 0, .int (s : Nat), .tup (mtl M)] S = .ok d S' ∧ WrG d ∧ QE ns X (k + 20) S' := by
  obtain ⟨y, S1, e1, q1, y1⟩ := de q (by omega) (m := 8) (by decide) (by decide) (n + 1)
  obtain ⟨a, S2, e2, q2, a1⟩ := de q1 (by omega) (m := (M.length : Int) + 1) (by omega) (by omega) (n + 1)
  obtain ⟨d, S3, e3, hd, q3⟩ := wr_main n q2 (by omega) hs hm hM y (by omega) a (by omega)
  refine ⟨d, S3, ?_, hd, q3.mono (by omega)⟩
  have td := q.tidy q3 hd.below
  have ml := mtl_len M
  rw [run_def (F := ⟨3, 6, b23, true⟩) rfl rfl]
  show tidy true S (toR (exSs (csOf T (n + 2)) b23 _ S)) = _
  rw [v_eq]
  generalize mtl M = Q at *
  simp (dsimp := false) (implicitDefEqProofs := false) [e1, e2, ml, e3, exSs, exS, evE.eq_1, evE.eq_2, evE.eq_3, evE.eq_4, evE.eq_5, evE.eq_6, evE.eq_7, evE.eq_8, evE.eq_9, evE.eq_10, evE.eq_11, evE.eq_12, evE.eq_13, evE.eq_14, evE.eq_15, evE.eq_16, evE.eq_17, evE.eq_18, evE.eq_19, evE.eq_20, evE.eq_21, evE.eq_22, evE.eq_23, evE.eq_24, evE.eq_25, evE.eq_26, evE.eq_27, evE.eq_28, evE.eq_31, evE.eq_32, evE.eq_33, evE.eq_34, evE.eq_35, evE.eq_36, evE.eq_37, evE.eq_38, evT, evL, evI, evC, evW, startF, setS, idxD, seqOf, ixN, binD, arI, setI, cmpD, intCmp, cmpI, truD, isAny, isD, isNo, pln, vw, eqD, biD, tidy_same, tidyx_same, wipe, evHx, evHl, evHt, evHs, Rs.os, toR, Rs.nox]
  exact td
end Lw
end
section
set_option maxRecDepth 100000
set_option maxHeartbeats 8000000
namespace Lw
open Ev Lg
theorem plK_of {d : D} (h : plv d = true) (S : Store) : plK d S = true := by
  cases d with
  | ref i => simp [plv] at h
  | obj c l => simp [plv] at h
  | _ => first | rfl | (simp [plv] at h)
theorem cm_loop (n : Nat) {s : Nat} {M : List Nat} (S : Store) (y0 y2 y3 y4 : Option D) : ∀ (l : List D) (y5 : Option D), (∀ d ∈ l, plv d = true) → ∃ z5, forL (.nm 5) (fun ρ S => exSs (csOf T (n + 2)) b26l0 ρ S) [] l [y0, some (lotD s M), y2, y3, y4, y5] S = .nx [y0, some (lotD s M), y2, y3, y4, z5] S
  | [], y5, _ => ⟨y5, forL_nil⟩
  | d :: l, y5, h => by
    have hd := h d List.mem_cons_self
    obtain ⟨z5, e⟩ := cm_loop n (s := s) (M := M) S y0 y2 y3 y4 l (some d) fun x hx => h x (List.mem_cons_of_mem _ hx)
    refine ⟨z5, ?_⟩
    rw [← e]
    refine forL_nx rfl ?_
    have e1 := f_eqn (n + 1) (s := s) (L := M) hd S
    have e2 := f_eqn n (s := s) (L := M) hd S
    have f1 : (csOf T (n + 2)).fn1 = run T (n + 1) := rfl
    have g1 := m5 s M
    have g3 := cl0 s M
    have pk := fun S => plK_of hd S
    have s1 := fun b => same 0 (.bl b) rfl (n + 1) S (by omega)
    generalize lotD s M = Q at *
    simp (dsimp := false) (implicitDefEqProofs := false) [b26l0, g1, g3, pk, e1, e2, f1, notR, ofO, s1, exSs, exS, evE.eq_1, evE.eq_2, evE.eq_3, evE.eq_4, evE.eq_5, evE.eq_6, evE.eq_7, evE.eq_8, evE.eq_9, evE.eq_10, evE.eq_11, evE.eq_12, evE.eq_13, evE.eq_14, evE.eq_15, evE.eq_16, evE.eq_17, evE.eq_18, evE.eq_19, evE.eq_20, evE.eq_21, evE.eq_22, evE.eq_23, evE.eq_24, evE.eq_25, evE.eq_26, evE.eq_27, evE.eq_28, evE.eq_31, evE.eq_32, evE.eq_33, evE.eq_34, evE.eq_35, evE.eq_36, evE.eq_37, evE.eq_38, evT, evL, evI, evC, evW, startF, setS, idxD, seqOf, ixN, binD, arI, setI, cmpD, intCmp, cmpI, truD, isAny, isD, isNo, pln, vw, eqD, biD, tidy_same, tidyx_same, wipe, evHx, evHl, evHt, evHs, Rs.os, toR, Rs.nox]
theorem cut_mid {α : Type} (l : List α) (a : Nat) (h1 : 1 ≤ a) (h2 : a ≤ l.length) : cut l (some 1) (some (a : Int)) = (l.drop 1).take (a - 1) := by
  unfold cut sIx
  have : ¬ ((a : Int) < 0) := by omega
  simp only [this, if_false]
  simp only [show ¬ ((1 : Int) < 0) by omega, if_false, Int.toNat_natCast]
  rw [show min (Int.toNat 1) l.length = 1 by simp; omega, Nat.min_eq_left h2]
def mid (M : List Nat) (a : Nat) : List Nat := (M.drop 1).take (a - 1) ++ M.take 1 ++ M.drop a
theorem mid_ok {s : Nat} {M : List Nat} (hM : Tr s M) {a : Nat} (h1 : 1 < a) (h2 : a ≤ M.length) : Tr s (mid M a) ∧ M ≠ mid M a := by
  match M, a, hM, h1, h2 with
  | m0 :: m1 :: r, a + 2, hM, _, h2 =>
    have e : mid (m0 :: m1 :: r) (a + 2) = m1 :: r.take a ++ [m0] ++ r.drop a := by simp [mid]
    rw [e]
    have p : (m1 :: r.take a ++ [m0] ++ r.drop a).Perm (m0 :: m1 :: r) := by
      rw [List.append_assoc]
      refine (List.perm_middle (a := m0) (l₁ := m1 :: r.take a) (l₂ := r.drop a)).trans ?_
      rw [List.cons_append, List.take_append_drop]
    refine ⟨⟨p.nodup_iff.mpr hM.1, fun x hx => hM.2 x (p.mem_iff.mp hx)⟩, fun z => ?_⟩
    have := hM.1
    rw [List.nodup_cons] at this
    have z1 : m0 = m1 := by
      have := congrArg List.head? z
      simpa using this
    exact this.1 (by rw [z1]; exact List.mem_cons_self)
  | [_], a + 2, _, _, h2 => simp at h2
  | [], a + 2, _, _, h2 => simp at h2
  | _, 0, _, h1, _ => omega
  | _, 1, _, h1, _ => omega
theorem rest_ok {s : Nat} {M : List Nat} (hM : Tr s M) {a : Nat} (h : a < M.length) : Tr s (M.take a ++ M.drop (a + 1)) ∧ M ≠ M.take a ++ M.drop (a + 1) := by
  refine ⟨⟨?_, fun x hx => hM.2 x ?_⟩, fun z => ?_⟩
  · refine hM.1.sublist ?_
    have := (List.Sublist.refl (M.take a)).append ((List.drop_sublist_drop_left M (Nat.le_succ a)))
    rwa [List.take_append_drop] at this
  · rcases List.mem_append.mp hx with hx | hx
    · exact List.mem_of_mem_take hx
    · exact List.mem_of_mem_drop hx
  · have := congrArg List.length z
    simp at this
    omega
theorem tr_up {s : Nat} {M : List Nat} (h : Tr s M) : Tr (s + 1) M := ⟨h.1, fun x hx => ⟨(h.2 x hx).1, Nat.lt_trans (h.2 x hx).2 (Nat.pow_lt_pow_right (by decide) (by omega))⟩⟩
theorem f_comp (n : Nat) {ns : List Int} {X : Store} {k : Nat} {S : Store} (q : QE ns X k S) (hX : ∀ c ∈ X, belowC (X.length + 1) c = true) (hk : k + 3000 < 2 ^ 60) {s : Nat} (hs : s ≤ 8) {M : List Nat} (hm : M.length ≤ 8) (hM : Tr s M) : ∃ S', run T (n + 10) 26 [.ref 0, lotD s M, .int (s : Nat), .tup (mtl M)] S = .ok (.bl true) S' ∧ QE ns X (k + 20) S' := by
  obtain ⟨a, S1, e1, q1, a1⟩ := de q (by omega) (m := (M.length : Int) + 1) (by omega) (by omega) (n + 8)
  obtain ⟨v, S2, e2, q2, sm, fz⟩ := f_passed (n + 7) q1 hX (by omega) hm
  have mk := tr_mk hs hM
  have e3 := mkg n hs (L := M) (by omega) hM sm fz S2
  have e4 := f_equal (n + 6) (s := s) (s2 := s) mk mk (b := true) (by simp [eqB]) S2
  have f1 : (csOf T (n + 9)).fn1 = run T (n + 8) := rfl
  have ml := mtl_len M
  have hal : a ≤ M.length := by omega
  -- one size more
  have p1 : s < 8 → makD T (run T (n + 8)) false 0 [.int ((s : Int) + 1), .tup (mtl M)] S2 = .ok (lotD (s + 1) M) S2 ∧ run T (n + 9) 25 [lotD s M, lotD (s + 1) M, .bl false] S2 = .ok (.bl true) S2 := fun h => by
    have := mkg_tup n (s := s + 1) (by omega) (L := M) (by omega) (tr_up hM) S2
    push_cast at this
    exact ⟨this, f_equal (n + 6) mk mk (by simp [eqB]) S2⟩
  have p2 : a < M.length → makD T (run T (n + 8)) false 0 [.int (s : Nat), .tup (mtl (M.take a ++ M.drop (a + 1)))] S2 = .ok (lotD s (M.take a ++ M.drop (a + 1))) S2 ∧ run T (n + 9) 25 [lotD s M, lotD s (M.take a ++ M.drop (a + 1)), .bl false] S2 = .ok (.bl true) S2 := fun h => by
    obtain ⟨t, ne⟩ := rest_ok hM h
    exact ⟨mkg_tup n hs (by simp; omega) t S2, f_equal (n + 6) mk (tr_mk hs t) (by simp [eqB, ne]) S2⟩
  have p3 : 1 < a → makD T (run T (n + 8)) false 0 [.int (s : Nat), .tup (mtl (mid M a))] S2 = .ok (lotD s (mid M a)) S2 ∧ run T (n + 9) 25 [lotD s M, lotD s (mid M a), .bl false] S2 = .ok (.bl true) S2 := fun h => by
    obtain ⟨t, ne⟩ := mid_ok hM h hal
    exact ⟨mkg_tup n hs (by unfold mid; simp; omega) t S2, f_equal (n + 6) mk (tr_mk hs t) (by simp [eqB, ne]) S2⟩
  obtain ⟨z5, e5⟩ := cm_loop (n + 7) (s := s) (M := M) S2 (some (.ref 0)) (some (.int (s : Nat))) (some (.tup (mtl M))) (some (.int (a : Nat))) [.tup [.int (s : Nat), .tup (mtl M)], .tup (mtl M), .non, .int (s : Nat), .bl true, .str []] none (fun d hd => by
    simp only [List.mem_cons, List.not_mem_nil, or_false] at hd
    rcases hd with rfl | rfl | rfl | rfl | rfl | rfl <;> rfl)
  have td := q.tidy q2 (d := .bl true) rfl
  refine ⟨S2, ?_, q2.mono (by omega)⟩
  have c1 := cut_lo (mtl M) a (by rw [ml]; exact hal)
  have c2 := cut_hi (mtl M) a
  have c3 := cut_hi (mtl M) (a + 1)
  rw [mtl_take] at c1
  rw [mtl_drop] at c2 c3
  push_cast at c3
  have lt : (mtl (M.take a)).length = a := by rw [mtl_len, List.length_take]; omega
  have ld : (mtl (M.drop a)).length = M.length - a := by rw [mtl_len, List.length_drop]
  have ld' : (mtl (M.drop (a + 1))).length = M.length - (a + 1) := by rw [mtl_len, List.length_drop]
  have lm1 : a + (M.length - (a + 1)) ≤ LIM := lim_le (by omega)
  have r1 : mtl (M.take a) ++ mtl (M.drop (a + 1)) = mtl (M.take a ++ M.drop (a + 1)) := by simp [mtl]
  rw [run_def (F := ⟨4, 6, b26, true⟩) rfl rfl]
  have hs8 : ((s : Int) < 8) = (s < 8) := by simp; omega
  have hal' : ((a : Int) < (M.length : Nat)) = (a < M.length) := by simp
  have ha1 : ((1 : Int) < (a : Nat)) = (1 < a) := by simp; omega
  by_cases h3 : 1 < a
  · have c4 := cut_mid (mtl M) a (by omega) (by rw [ml]; exact hal)
    have c5 := cut_lo (mtl M) 1 (by rw [ml]; omega)
    have c5 : cut (mtl M) none (some 1) = (mtl M).take 1 := c5
    rw [mtl_drop, mtl_take] at c4
    rw [mtl_take] at c5
    have l4 : (mtl ((M.drop 1).take (a - 1))).length = a - 1 := by rw [mtl_len, List.length_take, List.length_drop]; omega
    have l5 : (mtl (M.take 1)).length = 1 := by rw [mtl_len, List.length_take]; omega
    have lm4 : a - 1 + 1 ≤ LIM := lim_le (by omega)
    have lm5 : a - 1 + 1 + (M.length - a) ≤ LIM := lim_le (by omega)
    have r2 : mtl ((M.drop 1).take (a - 1)) ++ mtl (M.take 1) ++ mtl (M.drop a) = mtl (mid M a) := by simp [mtl, mid]
    obtain ⟨u1, u2⟩ := p3 h3
    generalize lotD s (mid M a) = O3 at *
    generalize mtl (mid M a) = Z3 at *
    generalize mtl ((M.drop 1).take (a - 1)) = Z4 at *
    generalize mtl (M.take 1) = Z5 at *
    by_cases h1 : s < 8
    · obtain ⟨u3, u4⟩ := p1 h1
      by_cases h2 : a < M.length
      · obtain ⟨u5, u6⟩ := p2 h2
        generalize lotD s (M.take a ++ M.drop (a + 1)) = O2 at *
        generalize lotD (s + 1) M = O1 at *
        generalize lotD s M = O0 at *
        generalize mtl (M.take a ++ M.drop (a + 1)) = Z2 at *
        generalize mtl (M.take a) = Z6 at *
        generalize mtl (M.drop a) = Z7 at *
        generalize mtl (M.drop (a + 1)) = Z8 at *
        generalize mtl M = Z0 at *
        simp (dsimp := false) (implicitDefEqProofs := false) [b26, ml, e1, e2, f1, e3, e4, Ev.pick, ofO, hs8, hal', ha1, h1, h2, h3, u1, u2, u3, u4, u5, u6, slcD, c1, c2, c3, c4, c5, mkL, lstOf, lt, ld, ld', lm1, l4, l5, lm4, lm5, r1, r2, seqIt, Ev.guard, e5, -List.append_assoc, exSs, exS, evE.eq_1, evE.eq_2, evE.eq_3, evE.eq_4, evE.eq_5, evE.eq_6, evE.eq_7, evE.eq_8, evE.eq_9, evE.eq_10, evE.eq_11, evE.eq_12, evE.eq_13, evE.eq_14, evE.eq_15, evE.eq_16, evE.eq_17, evE.eq_18, evE.eq_19, evE.eq_20, evE.eq_21, evE.eq_22, evE.eq_23, evE.eq_24, evE.eq_25, evE.eq_26, evE.eq_27, evE.eq_28, evE.eq_31, evE.eq_32, evE.eq_33, evE.eq_34, evE.eq_35, evE.eq_36, evE.eq_37, evE.eq_38, evT, evL, evI, evC, evW, startF, setS, idxD, seqOf, ixN, binD, arI, setI, cmpD, intCmp, cmpI, truD, isAny, isD, isNo, pln, vw, eqD, biD, tidy_same, tidyx_same, wipe, evHx, evHl, evHt, evHs, Rs.os, toR, Rs.nox]
        exact td
      · generalize lotD (s + 1) M = O1 at *
        generalize lotD s M = O0 at *
        generalize mtl (M.take a) = Z6 at *
        generalize mtl (M.drop a) = Z7 at *
        generalize mtl M = Z0 at *
        simp (dsimp := false) (implicitDefEqProofs := false) [b26, ml, e1, e2, f1, e3, e4, Ev.pick, ofO, hs8, hal', ha1, h1, h2, h3, u1, u2, u3, u4, slcD, c1, c2, c4, c5, mkL, lstOf, lt, ld, l4, l5, lm4, lm5, r2, seqIt, Ev.guard, e5, -List.append_assoc, exSs, exS, evE.eq_1, evE.eq_2, evE.eq_3, evE.eq_4, evE.eq_5, evE.eq_6, evE.eq_7, evE.eq_8, evE.eq_9, evE.eq_10, evE.eq_11, evE.eq_12, evE.eq_13, evE.eq_14, evE.eq_15, evE.eq_16, evE.eq_17, evE.eq_18, evE.eq_19, evE.eq_20, evE.eq_21, evE.eq_22, evE.eq_23, evE.eq_24, evE.eq_25, evE.eq_26, evE.eq_27, evE.eq_28, evE.eq_31, evE.eq_32, evE.eq_33, evE.eq_34, evE.eq_35, evE.eq_36, evE.eq_37, evE.eq_38, evT, evL, evI, evC, evW, startF, setS, idxD, seqOf, ixN, binD, arI, setI, cmpD, intCmp, cmpI, truD, isAny, isD, isNo, pln, vw, eqD, biD, tidy_same, tidyx_same, wipe, evHx, evHl, evHt, evHs, Rs.os, toR, Rs.nox]
        exact td
    · by_cases h2 : a < M.length
      · obtain ⟨u5, u6⟩ := p2 h2
        generalize lotD s (M.take a ++ M.drop (a + 1)) = O2 at *
        generalize lotD s M = O0 at *
        generalize mtl (M.take a ++ M.drop (a + 1)) = Z2 at *
        generalize mtl (M.take a) = Z6 at *
        generalize mtl (M.drop a) = Z7 at *
        generalize mtl (M.drop (a + 1)) = Z8 at *
        generalize mtl M = Z0 at *
        simp (dsimp := false) (implicitDefEqProofs := false) [b26, ml, e1, e2, f1, e3, e4, Ev.pick, ofO, hs8, hal', ha1, h1, h2, h3, u1, u2, u5, u6, slcD, c1, c2, c3, c4, c5, mkL, lstOf, lt, ld, ld', lm1, l4, l5, lm4, lm5, r1, r2, seqIt, Ev.guard, e5, -List.append_assoc, exSs, exS, evE.eq_1, evE.eq_2, evE.eq_3, evE.eq_4, evE.eq_5, evE.eq_6, evE.eq_7, evE.eq_8, evE.eq_9, evE.eq_10, evE.eq_11, evE.eq_12, evE.eq_13, evE.eq_14, evE.eq_15, evE.eq_16, evE.eq_17, evE.eq_18, evE.eq_19, evE.eq_20, evE.eq_21, evE.eq_22, evE.eq_23, evE.eq_24, evE.eq_25, evE.eq_26, evE.eq_27, evE.eq_28, evE.eq_31, evE.eq_32, evE.eq_33, evE.eq_34, evE.eq_35, evE.eq_36, evE.eq_37, evE.eq_38, evT, evL, evI, evC, evW, startF, setS, idxD, seqOf, ixN, binD, arI, setI, cmpD, intCmp, cmpI, truD, isAny, isD, isNo, pln, vw, eqD, biD, tidy_same, tidyx_same, wipe, evHx, evHl, evHt, evHs, Rs.os, toR, Rs.nox]
        exact td
      · generalize lotD s M = O0 at *
        generalize mtl (M.take a) = Z6 at *
        generalize mtl (M.drop a) = Z7 at *
        generalize mtl M = Z0 at *
        simp (dsimp := false) (implicitDefEqProofs := false) [b26, ml, e1, e2, f1, e3, e4, Ev.pick, ofO, hs8, hal', ha1, h1, h2, h3, u1, u2, slcD, c1, c2, c4, c5, mkL, lstOf, lt, ld, l4, l5, lm4, lm5, r2, seqIt, Ev.guard, e5, -List.append_assoc, exSs, exS, evE.eq_1, evE.eq_2, evE.eq_3, evE.eq_4, evE.eq_5, evE.eq_6, evE.eq_7, evE.eq_8, evE.eq_9, evE.eq_10, evE.eq_11, evE.eq_12, evE.eq_13, evE.eq_14, evE.eq_15, evE.eq_16, evE.eq_17, evE.eq_18, evE.eq_19, evE.eq_20, evE.eq_21, evE.eq_22, evE.eq_23, evE.eq_24, evE.eq_25, evE.eq_26, evE.eq_27, evE.eq_28, evE.eq_31, evE.eq_32, evE.eq_33, evE.eq_34, evE.eq_35, evE.eq_36, evE.eq_37, evE.eq_38, evT, evL, evI, evC, evW, startF, setS, idxD, seqOf, ixN, binD, arI, setI, cmpD, intCmp, cmpI, truD, isAny, isD, isNo, pln, vw, eqD, biD, tidy_same, tidyx_same, wipe, evHx, evHl, evHt, evHs, Rs.os, toR, Rs.nox]
        exact td
  · by_cases h1 : s < 8
    · obtain ⟨u3, u4⟩ := p1 h1
      by_cases h2 : a < M.length
      · obtain ⟨u5, u6⟩ := p2 h2
        generalize lotD s (M.take a ++ M.drop (a + 1)) = O2 at *
        generalize lotD (s + 1) M = O1 at *
        generalize lotD s M = O0 at *
        generalize mtl (M.take a ++ M.drop (a + 1)) = Z2 at *
        generalize mtl (M.take a) = Z6 at *
        generalize mtl (M.drop (a + 1)) = Z8 at *
        generalize mtl M = Z0 at *
        simp (dsimp := false) (implicitDefEqProofs := false) [b26, ml, e1, e2, f1, e3, e4, Ev.pick, ofO, hs8, hal', ha1, h1, h2, h3, u3, u4, u5, u6, slcD, c1, c3, mkL, lstOf, lt, ld', lm1, r1, seqIt, Ev.guard, e5, -List.append_assoc, exSs, exS, evE.eq_1, evE.eq_2, evE.eq_3, evE.eq_4, evE.eq_5, evE.eq_6, evE.eq_7, evE.eq_8, evE.eq_9, evE.eq_10, evE.eq_11, evE.eq_12, evE.eq_13, evE.eq_14, evE.eq_15, evE.eq_16, evE.eq_17, evE.eq_18, evE.eq_19, evE.eq_20, evE.eq_21, evE.eq_22, evE.eq_23, evE.eq_24, evE.eq_25, evE.eq_26, evE.eq_27, evE.eq_28, evE.eq_31, evE.eq_32, evE.eq_33, evE.eq_34, evE.eq_35, evE.eq_36, evE.eq_37, evE.eq_38, evT, evL, evI, evC, evW, startF, setS, idxD, seqOf, ixN, binD, arI, setI, cmpD, intCmp, cmpI, truD, isAny, isD, isNo, pln, vw, eqD, biD, tidy_same, tidyx_same, wipe, evHx, evHl, evHt, evHs, Rs.os, toR, Rs.nox]
        exact td
      · generalize lotD (s + 1) M = O1 at *
        generalize lotD s M = O0 at *
        generalize mtl M = Z0 at *
        simp (dsimp := false) (implicitDefEqProofs := false) [b26, ml, e1, e2, f1, e3, e4, Ev.pick, ofO, hs8, hal', ha1, h1, h2, h3, u3, u4, slcD, mkL, lstOf, seqIt, Ev.guard, e5, -List.append_assoc, exSs, exS, evE.eq_1, evE.eq_2, evE.eq_3, evE.eq_4, evE.eq_5, evE.eq_6, evE.eq_7, evE.eq_8, evE.eq_9, evE.eq_10, evE.eq_11, evE.eq_12, evE.eq_13, evE.eq_14, evE.eq_15, evE.eq_16, evE.eq_17, evE.eq_18, evE.eq_19, evE.eq_20, evE.eq_21, evE.eq_22, evE.eq_23, evE.eq_24, evE.eq_25, evE.eq_26, evE.eq_27, evE.eq_28, evE.eq_31, evE.eq_32, evE.eq_33, evE.eq_34, evE.eq_35, evE.eq_36, evE.eq_37, evE.eq_38, evT, evL, evI, evC, evW, startF, setS, idxD, seqOf, ixN, binD, arI, setI, cmpD, intCmp, cmpI, truD, isAny, isD, isNo, pln, vw, eqD, biD, tidy_same, tidyx_same, wipe, evHx, evHl, evHt, evHs, Rs.os, toR, Rs.nox]
        exact td
    · by_cases h2 : a < M.length
      · obtain ⟨u5, u6⟩ := p2 h2
        generalize lotD s (M.take a ++ M.drop (a + 1)) = O2 at *
        generalize lotD s M = O0 at *
        generalize mtl (M.take a ++ M.drop (a + 1)) = Z2 at *
        generalize mtl (M.take a) = Z6 at *
        generalize mtl (M.drop (a + 1)) = Z8 at *
        generalize mtl M = Z0 at *
        simp (dsimp := false) (implicitDefEqProofs := false) [b26, ml, e1, e2, f1, e3, e4, Ev.pick, ofO, hs8, hal', ha1, h1, h2, h3, u5, u6, slcD, c1, c3, mkL, lstOf, lt, ld', lm1, r1, seqIt, Ev.guard, e5, -List.append_assoc, exSs, exS, evE.eq_1, evE.eq_2, evE.eq_3, evE.eq_4, evE.eq_5, evE.eq_6, evE.eq_7, evE.eq_8, evE.eq_9, evE.eq_10, evE.eq_11, evE.eq_12, evE.eq_13, evE.eq_14, evE.eq_15, evE.eq_16, evE.eq_17, evE.eq_18, evE.eq_19, evE.eq_20, evE.eq_21, evE.eq_22, evE.eq_23, evE.eq_24, evE.eq_25, evE.eq_26, evE.eq_27, evE.eq_28, evE.eq_31, evE.eq_32, evE.eq_33, evE.eq_34, evE.eq_35, evE.eq_36, evE.eq_37, evE.eq_38, evT, evL, evI, evC, evW, startF, setS, idxD, seqOf, ixN, binD, arI, setI, cmpD, intCmp, cmpI, truD, isAny, isD, isNo, pln, vw, eqD, biD, tidy_same, tidyx_same, wipe, evHx, evHl, evHt, evHs, Rs.os, toR, Rs.nox]
        exact td
      · generalize lotD s M = O0 at *
        generalize mtl M = Z0 at *
        simp (dsimp := false) (implicitDefEqProofs := false) [b26, ml, e1, e2, f1, e3, e4, Ev.pick, ofO, hs8, hal', ha1, h1, h2, h3, slcD, mkL, lstOf, seqIt, Ev.guard, e5, -List.append_assoc, exSs, exS, evE.eq_1, evE.eq_2, evE.eq_3, evE.eq_4, evE.eq_5, evE.eq_6, evE.eq_7, evE.eq_8, evE.eq_9, evE.eq_10, evE.eq_11, evE.eq_12, evE.eq_13, evE.eq_14, evE.eq_15, evE.eq_16, evE.eq_17, evE.eq_18, evE.eq_19, evE.eq_20, evE.eq_21, evE.eq_22, evE.eq_23, evE.eq_24, evE.eq_25, evE.eq_26, evE.eq_27, evE.eq_28, evE.eq_31, evE.eq_32, evE.eq_33, evE.eq_34, evE.eq_35, evE.eq_36, evE.eq_37, evE.eq_38, evT, evL, evI, evC, evW, startF, setS, idxD, seqOf, ixN, binD, arI, setI, cmpD, intCmp, cmpI, truD, isAny, isD, isNo, pln, vw, eqD, biD, tidy_same, tidyx_same, wipe, evHx, evHl, evHt, evHs, Rs.os, toR, Rs.nox]
        exact td
end Lw
end
section
set_option maxRecDepth 100000
set_option maxHeartbeats 8000000
namespace Lw
open Ev Lg
/-! lists of lists that are changed later -/
def rfs (b : Nat) (m : Nat) : List D := (List.range m).map fun i => .ref (b + 1 + i)
theorem rfs_succ (b m : Nat) : rfs b (m + 1) = rfs b m ++ [.ref (b + 1 + m)] := by simp [rfs, List.range_succ]
theorem rfs_len (b m : Nat) : (rfs b m).length = m := by simp [rfs]
def cel (M : List Nat) : Store := M.map fun m => .lst ((bits m).map .int)
theorem ag0 (S : Store) (c : Cell) (Y : Store) : (S ++ c :: Y)[S.length]? = some c := by simp
theorem as0 (S : Store) (c d : Cell) (Y : Store) : (S ++ c :: Y).set S.length d = S ++ d :: Y := by simp
theorem pas_lc (C : Cs) (S : Store) (y0 y1 y2 y4 y5 y7 y8 y9 y10 y11 : Option D) (W : List Nat) : ∀ (L A : List Nat), A.length + L.length ≤ 500 →
    lcL (.nm 6) (fun ρ S => evC C .no ρ S) (fun ρ S => evE C b27e0 ρ S) [y0, y1, y2, some (.tup (mtl W)), y4, y5, none, y7, y8, y9, y10, y11] [] S.length (mtl L) (S ++ .lst (rfs S.length A.length) :: cel A) = .ok () (S ++ .lst (rfs S.length (A ++ L).length) :: cel (A ++ L))
  | [], A, _ => by rw [List.append_nil]; simp [mtl, lcL, gOk_nil]
  | m :: L, A, h => by
    simp only [List.length_cons] at h
    have ih := pas_lc C S y0 y1 y2 y4 y5 y7 y8 y9 y10 y11 W L (A ++ [m]) (by simp; omega)
    rw [List.append_assoc, List.singleton_append] at ih
    rw [← ih, show mtl (m :: L) = tupI (bits m) :: mtl L from rfl]
    have lb : ((bits m).map D.int).length ≤ LIM := by rw [List.length_map]; exact lim_le (bl8 m)
    have sl : (S ++ .lst (rfs S.length A.length) :: cel A).length = S.length + 1 + A.length := by simp [cel]; omega
    have e1 : evE C b27e0 (setS [y0, y1, y2, some (.tup (mtl W)), y4, y5, none, y7, y8, y9, y10, y11] 6 (tupI (bits m))) (S ++ .lst (rfs S.length A.length) :: cel A) = .ok (.ref (S.length + 1 + A.length)) (S ++ .lst (rfs S.length A.length) :: (cel A ++ [.lst ((bits m).map .int)])) := by
      unfold tupI
      generalize mtl W = Q0
      generalize (bits m).map D.int = Q at *
      generalize hZ : (S ++ Cell.lst (rfs S.length A.length) :: cel A) = Z at *
      have : Z ++ [Cell.lst Q] = S ++ Cell.lst (rfs S.length A.length) :: (cel A ++ [.lst Q]) := by rw [← hZ]; simp
      simp (dsimp := false) (implicitDefEqProofs := false) [b27e0, lstOf, mkL, lb, sl, this, exSs, exS, evE.eq_1, evE.eq_2, evE.eq_3, evE.eq_4, evE.eq_5, evE.eq_6, evE.eq_7, evE.eq_8, evE.eq_9, evE.eq_10, evE.eq_11, evE.eq_12, evE.eq_13, evE.eq_14, evE.eq_15, evE.eq_16, evE.eq_17, evE.eq_18, evE.eq_19, evE.eq_20, evE.eq_21, evE.eq_22, evE.eq_23, evE.eq_24, evE.eq_25, evE.eq_26, evE.eq_27, evE.eq_28, evE.eq_31, evE.eq_32, evE.eq_33, evE.eq_34, evE.eq_35, evE.eq_36, evE.eq_37, evE.eq_38, evT, evL, evI, evC, evW, startF, setS, idxD, seqOf, ixN, binD, arI, setI, cmpD, intCmp, cmpI, truD, isAny, isD, isNo, pln, vw, eqD, biD, tidy_same, tidyx_same, wipe, evHx, evHl, evHt, evHs, Rs.os, toR, Rs.nox]
    have lt : A.length < LIM := by unfold LIM; omega
    have rl := rfs_len S.length A.length
    have ec : cel (A ++ [m]) = cel A ++ [.lst ((bits m).map .int)] := by simp [cel]
    have el : (A ++ [m]).length = A.length + 1 := by simp
    simp only [lcL, gOk_nil, if_true, setT, evC, th_ok, e1, ag0, rl, lt, as0]
    rw [el, rfs_succ, ec]
theorem pas_ev (C : Cs) (S : Store) (y0 y1 y2 : Option D) {M : List Nat} (hm : M.length ≤ 8) : evE C (.lc true [6] (.nm 6) (.seq (.var 3)) .no b27e0) [y0, y1, y2, some (.tup (mtl M)), none, none, none, none, none, none, none, none] S = .ok (.ref S.length) (S ++ .lst (rfs S.length M.length) :: cel M) := by
  have e := pas_lc C S y0 y1 y2 none none none none none none none M M [] (by simp; omega)
  rw [List.nil_append] at e
  rw [evE.eq_29]
  have hw : evW C (.seq (.var 3)) [y0, y1, y2, some (.tup (mtl M)), none, none, none, none, none, none, none, none] S = .ok (mtl M, []) S := by
    generalize mtl M = Q
    simp (dsimp := false) (implicitDefEqProofs := false) [seqIt, Ev.guard, exSs, exS, evE.eq_1, evE.eq_2, evE.eq_3, evE.eq_4, evE.eq_5, evE.eq_6, evE.eq_7, evE.eq_8, evE.eq_9, evE.eq_10, evE.eq_11, evE.eq_12, evE.eq_13, evE.eq_14, evE.eq_15, evE.eq_16, evE.eq_17, evE.eq_18, evE.eq_19, evE.eq_20, evE.eq_21, evE.eq_22, evE.eq_23, evE.eq_24, evE.eq_25, evE.eq_26, evE.eq_27, evE.eq_28, evE.eq_31, evE.eq_32, evE.eq_33, evE.eq_34, evE.eq_35, evE.eq_36, evE.eq_37, evE.eq_38, evT, evL, evI, evC, evW, startF, setS, idxD, seqOf, ixN, binD, arI, setI, cmpD, intCmp, cmpI, truD, isAny, isD, isNo, pln, vw, eqD, biD, tidy_same, tidyx_same, wipe, evHx, evHl, evHt, evHs, Rs.os, toR, Rs.nox]
  rw [hw, th_ok]
  have e' : lcL (.nm 6) (fun ρ S => evC C .no ρ S) (fun ρ S => evE C b27e0 ρ S) (wipe [y0, y1, y2, some (.tup (mtl M)), none, none, none, none, none, none, none, none] [6]) [] S.length (mtl M) (S ++ [.lst []]) = .ok () (S ++ .lst (rfs S.length M.length) :: cel M) := e
  rw [e']
  simp only [Rs.nox, th_ok]
  simp [lcE, ag0]
/-! frozen of them -/
theorem seq_ref (n : Nat) {i : Nat} {l : List D} {S : Store} (h : S[i]? = some (.lst l)) : run T (n + 1) 4 [.ref i] S = .ok (.bl true) S := by
  rw [run_def (F := ⟨1, 1, b4, true⟩) rfl rfl]
  simp (dsimp := false) (implicitDefEqProofs := false) [b4, h, exSs, exS, evE.eq_1, evE.eq_2, evE.eq_3, evE.eq_4, evE.eq_5, evE.eq_6, evE.eq_7, evE.eq_8, evE.eq_9, evE.eq_10, evE.eq_11, evE.eq_12, evE.eq_13, evE.eq_14, evE.eq_15, evE.eq_16, evE.eq_17, evE.eq_18, evE.eq_19, evE.eq_20, evE.eq_21, evE.eq_22, evE.eq_23, evE.eq_24, evE.eq_25, evE.eq_26, evE.eq_27, evE.eq_28, evE.eq_31, evE.eq_32, evE.eq_33, evE.eq_34, evE.eq_35, evE.eq_36, evE.eq_37, evE.eq_38, evT, evL, evI, evC, evW, startF, setS, idxD, seqOf, ixN, binD, arI, setI, cmpD, intCmp, cmpI, truD, isAny, isD, isNo, pln, vw, eqD, biD, tidy_same, tidyx_same, wipe, evHx, evHl, evHt, evHs, Rs.os, toR, Rs.nox]
theorem gk0 {i : Nat} {c : Cell} {S : Store} (h : S[i]? = some c) : gOk [(i, c)] S = true := by
  simp [gOk, h]
theorem gk1 {i : Nat} {c : Cell} {S : Store} (h : S[i]? = some c) (x : Cell) : gOk [(i, c)] (S ++ [x]) = true := by
  have hi : i < S.length := (List.getElem?_eq_some_iff.mp h).1
  refine gk0 ?_
  rw [List.getElem?_append_left hi]
  exact h
theorem fz_ri (n : Nat) {i : Nat} {l : List Int} (hl : l.length ≤ 1000) {S : Store} (h : S[i]? = some (.lst (l.map .int))) : run T (n + 3) 9 [.ref i] S = .ok (tupI l) S := by
  rw [run_def (F := ⟨1, 2, b9, true⟩) rfl rfl]
  have lim := lim_le hl
  have e0 := seq_ref (n + 1) h
  have e := lc_map (C := csOf T (n + 2)) (own := [1]) (tg := .nm 1) (it := .seq (.var 0)) (e := b9e0) (ρ := [some (.ref i), none]) (S := S) (l := l.map .int) (g := [(i, .lst (l.map .int))]) (fun d => d)
    (by simp (dsimp := false) (implicitDefEqProofs := false) [seqIt, Ev.guard, h, exSs, exS, evE.eq_1, evE.eq_2, evE.eq_3, evE.eq_4, evE.eq_5, evE.eq_6, evE.eq_7, evE.eq_8, evE.eq_9, evE.eq_10, evE.eq_11, evE.eq_12, evE.eq_13, evE.eq_14, evE.eq_15, evE.eq_16, evE.eq_17, evE.eq_18, evE.eq_19, evE.eq_20, evE.eq_21, evE.eq_22, evE.eq_23, evE.eq_24, evE.eq_25, evE.eq_26, evE.eq_27, evE.eq_28, evE.eq_31, evE.eq_32, evE.eq_33, evE.eq_34, evE.eq_35, evE.eq_36, evE.eq_37, evE.eq_38, evT, evL, evI, evC, evW, startF, setS, idxD, seqOf, ixN, binD, arI, setI, cmpD, intCmp, cmpI, truD, isAny, isD, isNo, pln, vw, eqD, biD, tidy_same, tidyx_same, wipe, evHx, evHl, evHt, evHs, Rs.os, toR, Rs.nox]) (fun c => gk1 h c) (fun d hd x => ⟨_, rfl, by
      obtain ⟨i, _, rfl⟩ := List.mem_map.mp hd
      simp (dsimp := false) (implicitDefEqProofs := false) [b9e0, fz_int, exSs, exS, evE.eq_1, evE.eq_2, evE.eq_3, evE.eq_4, evE.eq_5, evE.eq_6, evE.eq_7, evE.eq_8, evE.eq_9, evE.eq_10, evE.eq_11, evE.eq_12, evE.eq_13, evE.eq_14, evE.eq_15, evE.eq_16, evE.eq_17, evE.eq_18, evE.eq_19, evE.eq_20, evE.eq_21, evE.eq_22, evE.eq_23, evE.eq_24, evE.eq_25, evE.eq_26, evE.eq_27, evE.eq_28, evE.eq_31, evE.eq_32, evE.eq_33, evE.eq_34, evE.eq_35, evE.eq_36, evE.eq_37, evE.eq_38, evT, evL, evI, evC, evW, startF, setS, idxD, seqOf, ixN, binD, arI, setI, cmpD, intCmp, cmpI, truD, isAny, isD, isNo, pln, vw, eqD, biD, tidy_same, tidyx_same, wipe, evHx, evHl, evHt, evHs, Rs.os, toR, Rs.nox]⟩) (by simpa using lim) (by rw [List.map_id']; exact belowL_ints _ _)
  rw [List.map_id'] at e
  have lb : (l.map D.int).length ≤ LIM := by simpa using lim
  unfold tupI at *
  generalize l.map D.int = Q at *
  simp (dsimp := false) (implicitDefEqProofs := false) [b9, e0, e, lstOf, lb, exSs, exS, evE.eq_1, evE.eq_2, evE.eq_3, evE.eq_4, evE.eq_5, evE.eq_6, evE.eq_7, evE.eq_8, evE.eq_9, evE.eq_10, evE.eq_11, evE.eq_12, evE.eq_13, evE.eq_14, evE.eq_15, evE.eq_16, evE.eq_17, evE.eq_18, evE.eq_19, evE.eq_20, evE.eq_21, evE.eq_22, evE.eq_23, evE.eq_24, evE.eq_25, evE.eq_26, evE.eq_27, evE.eq_28, evE.eq_31, evE.eq_32, evE.eq_33, evE.eq_34, evE.eq_35, evE.eq_36, evE.eq_37, evE.eq_38, evT, evL, evI, evC, evW, startF, setS, idxD, seqOf, ixN, binD, arI, setI, cmpD, intCmp, cmpI, truD, isAny, isD, isNo, pln, vw, eqD, biD, tidy_same, tidyx_same, wipe, evHx, evHl, evHt, evHs, Rs.os, toR, Rs.nox]
def rdT (S : Store) : D → D
  | .ref i => match S[i]? with
    | some (.lst l) => .tup l
    | _ => .non
  | _ => .non
theorem fz_rr (n : Nat) {b : Nat} {M : List Nat} (hm : M.length ≤ 500) {S : Store} (h0 : S[b]? = some (.lst (rfs b M.length))) (h1 : ∀ i (hi : i < M.length), S[b + 1 + i]? = some (.lst ((bits (M.getD i 0)).map .int))) : run T (n + 4) 9 [.ref b] S = .ok (.tup (mtl M)) S := by
  rw [run_def (F := ⟨1, 2, b9, true⟩) rfl rfl]
  have e0 := seq_ref (n + 2) h0
  have em : (rfs b M.length).map (rdT S) = mtl M := by
    unfold rfs
    rw [List.map_map]
    apply List.ext_getElem
    · simp [mtl]
    · intro i g1 g2
      have hi : i < M.length := by simpa using g1
      have := h1 i hi
      simp only [List.getElem_map, List.getElem_range, Function.comp, rdT, this]
      have e := mtl_get hi
      rw [List.getElem?_eq_getElem g2] at e
      rw [Option.some.inj e]
      rfl
  have e := lc_map (C := csOf T (n + 3)) (own := [1]) (tg := .nm 1) (it := .seq (.var 0)) (e := b9e0) (ρ := [some (.ref b), none]) (S := S) (l := rfs b M.length) (g := [(b, .lst (rfs b M.length))]) (rdT S)
    (by simp (dsimp := false) (implicitDefEqProofs := false) [seqIt, Ev.guard, h0, exSs, exS, evE.eq_1, evE.eq_2, evE.eq_3, evE.eq_4, evE.eq_5, evE.eq_6, evE.eq_7, evE.eq_8, evE.eq_9, evE.eq_10, evE.eq_11, evE.eq_12, evE.eq_13, evE.eq_14, evE.eq_15, evE.eq_16, evE.eq_17, evE.eq_18, evE.eq_19, evE.eq_20, evE.eq_21, evE.eq_22, evE.eq_23, evE.eq_24, evE.eq_25, evE.eq_26, evE.eq_27, evE.eq_28, evE.eq_31, evE.eq_32, evE.eq_33, evE.eq_34, evE.eq_35, evE.eq_36, evE.eq_37, evE.eq_38, evT, evL, evI, evC, evW, startF, setS, idxD, seqOf, ixN, binD, arI, setI, cmpD, intCmp, cmpI, truD, isAny, isD, isNo, pln, vw, eqD, biD, tidy_same, tidyx_same, wipe, evHx, evHl, evHt, evHs, Rs.os, toR, Rs.nox]) (fun c => gk1 h0 c) (fun d hd x => ⟨_, rfl, by
      obtain ⟨i, hi, rfl⟩ := List.mem_map.mp hd
      have hi := List.mem_range.mp hi
      have g := h1 i hi
      have gl : b + 1 + i < S.length := (List.getElem?_eq_some_iff.mp g).1
      have g' : (S ++ [x])[b + 1 + i]? = some (.lst ((bits (M.getD i 0)).map .int)) := by rw [List.getElem?_append_left gl]; exact g
      have := fz_ri n (bl8 (M.getD i 0)) g'
      have r : rdT S (.ref (b + 1 + i)) = tupI (bits (M.getD i 0)) := by simp only [rdT, g]; rfl
      rw [r]
      generalize tupI (bits (M.getD i 0)) = Q at *
      simp (dsimp := false) (implicitDefEqProofs := false) [b9e0, this, exSs, exS, evE.eq_1, evE.eq_2, evE.eq_3, evE.eq_4, evE.eq_5, evE.eq_6, evE.eq_7, evE.eq_8, evE.eq_9, evE.eq_10, evE.eq_11, evE.eq_12, evE.eq_13, evE.eq_14, evE.eq_15, evE.eq_16, evE.eq_17, evE.eq_18, evE.eq_19, evE.eq_20, evE.eq_21, evE.eq_22, evE.eq_23, evE.eq_24, evE.eq_25, evE.eq_26, evE.eq_27, evE.eq_28, evE.eq_31, evE.eq_32, evE.eq_33, evE.eq_34, evE.eq_35, evE.eq_36, evE.eq_37, evE.eq_38, evT, evL, evI, evC, evW, startF, setS, idxD, seqOf, ixN, binD, arI, setI, cmpD, intCmp, cmpI, truD, isAny, isD, isNo, pln, vw, eqD, biD, tidy_same, tidyx_same, wipe, evHx, evHl, evHt, evHs, Rs.os, toR, Rs.nox]⟩) (by rw [rfs_len]; exact lim_le (by omega)) (by rw [em]; exact mtl_below _ _)
  rw [em] at e
  have lb : (mtl M).length ≤ LIM := by rw [mtl_len]; exact lim_le (by omega)
  generalize mtl M = Q at *
  simp (dsimp := false) (implicitDefEqProofs := false) [b9, e0, e, lstOf, lb, exSs, exS, evE.eq_1, evE.eq_2, evE.eq_3, evE.eq_4, evE.eq_5, evE.eq_6, evE.eq_7, evE.eq_8, evE.eq_9, evE.eq_10, evE.eq_11, evE.eq_12, evE.eq_13, evE.eq_14, evE.eq_15, evE.eq_16, evE.eq_17, evE.eq_18, evE.eq_19, evE.eq_20, evE.eq_21, evE.eq_22, evE.eq_23, evE.eq_24, evE.eq_25, evE.eq_26, evE.eq_27, evE.eq_28, evE.eq_31, evE.eq_32, evE.eq_33, evE.eq_34, evE.eq_35, evE.eq_36, evE.eq_37, evE.eq_38, evT, evL, evI, evC, evW, startF, setS, idxD, seqOf, ixN, binD, arI, setI, cmpD, intCmp, cmpI, truD, isAny, isD, isNo, pln, vw, eqD, biD, tidy_same, tidyx_same, wipe, evHx, evHl, evHt, evHs, Rs.os, toR, Rs.nox]
theorem cel_get (S : Store) (M : List Nat) (L : List D) {i : Nat} (hi : i < M.length) : (S ++ .lst L :: cel M)[S.length + 1 + i]? = some (.lst ((bits (M.getD i 0)).map .int)) := by
  rw [List.getElem?_append_right (by omega)]
  have : S.length + 1 + i - S.length = i + 1 := by omega
  rw [this]
  simp [cel, hi]
theorem mkg_ref (n : Nat) {s : Nat} (hs : s ≤ 8) {M : List Nat} (hm : M.length ≤ 8) (hM : Tr s M) (S : Store) : makD T (run T (n + 8)) false 0 [.int (s : Nat), .ref S.length] (S ++ .lst (rfs S.length M.length) :: cel M) = .ok (lotD s M) (S ++ .lst (rfs S.length M.length) :: cel M) := by
  obtain ⟨Z, hZ⟩ : ∃ Z, Z = S ++ .lst (rfs S.length M.length) :: cel M := ⟨_, rfl⟩
  rw [← hZ]
  have gz : (Z ++ [Cell.ins 0 []])[S.length]? = some (.lst (rfs S.length M.length)) := by rw [hZ]; simp
  have gi : ∀ i (hi : i < M.length), (Z ++ [Cell.ins 0 []])[S.length + 1 + i]? = some (.lst ((bits (M.getD i 0)).map .int)) := fun i hi => by
    have g := cel_get S M (rfs S.length M.length) hi
    rw [← hZ] at g
    rw [List.getElem?_append_left (List.getElem?_eq_some_iff.mp g).1]
    exact g
  have e1 := fz_rr (n + 3) (by omega) gz gi
  obtain ⟨h1, h2, h3, h4⟩ := tr_ok hs (L := M) (by omega) hM
  have e2 := f_lots (n + 1) s h1 (M.map bits) h2 h3 h4 (Z ++ [.ins 0 []])
  have fl : fldsOf T 0 = [3, 4] := rfl
  rw [show (M.map bits).map tupI = mtl M from rfl] at e2
  have bz := mtl_below Z.length M
  have e : run T (n + 8) 29 [.ref Z.length, .int (s : Nat), .ref S.length] (Z ++ [.ins 0 []]) = .ok .non (Z ++ [.ins 0 [(3, .int (s : Nat)), (4, .tup (mtl M))]]) := by
    rw [run_def (F := ⟨3, 4, b29, true⟩) rfl rfl]
    generalize mtl M = Q at *
    simp (dsimp := false) (implicitDefEqProofs := false) [b29, e1, e2, fl, putN, exSs, exS, evE.eq_1, evE.eq_2, evE.eq_3, evE.eq_4, evE.eq_5, evE.eq_6, evE.eq_7, evE.eq_8, evE.eq_9, evE.eq_10, evE.eq_11, evE.eq_12, evE.eq_13, evE.eq_14, evE.eq_15, evE.eq_16, evE.eq_17, evE.eq_18, evE.eq_19, evE.eq_20, evE.eq_21, evE.eq_22, evE.eq_23, evE.eq_24, evE.eq_25, evE.eq_26, evE.eq_27, evE.eq_28, evE.eq_31, evE.eq_32, evE.eq_33, evE.eq_34, evE.eq_35, evE.eq_36, evE.eq_37, evE.eq_38, evT, evL, evI, evC, evW, startF, setS, idxD, seqOf, ixN, binD, arI, setI, cmpD, intCmp, cmpI, truD, isAny, isD, isNo, pln, vw, eqD, biD, tidy_same, tidyx_same, wipe, evHx, evHl, evHt, evHs, Rs.os, toR, Rs.nox]
    exact tidy_len (by simp)
  have c : T.cls[0]? = some ⟨[3, 4], some 29, [(5, 30), (6, 31), (7, 32), (8, 33), (9, 34)]⟩ := rfl
  unfold makD
  rw [c]
  simp (dsimp := false) (implicitDefEqProofs := false) [e, belowL, below, cut_self, lotD, bz, exSs, exS, evE.eq_1, evE.eq_2, evE.eq_3, evE.eq_4, evE.eq_5, evE.eq_6, evE.eq_7, evE.eq_8, evE.eq_9, evE.eq_10, evE.eq_11, evE.eq_12, evE.eq_13, evE.eq_14, evE.eq_15, evE.eq_16, evE.eq_17, evE.eq_18, evE.eq_19, evE.eq_20, evE.eq_21, evE.eq_22, evE.eq_23, evE.eq_24, evE.eq_25, evE.eq_26, evE.eq_27, evE.eq_28, evE.eq_31, evE.eq_32, evE.eq_33, evE.eq_34, evE.eq_35, evE.eq_36, evE.eq_37, evE.eq_38, evT, evL, evI, evC, evW, startF, setS, idxD, seqOf, ixN, binD, arI, setI, cmpD, intCmp, cmpI, truD, isAny, isD, isNo, pln, vw, eqD, biD, tidy_same, tidyx_same, wipe, evHx, evHl, evHt, evHs, Rs.os, toR, Rs.nox]
/-! the lists are changed -/
def Ps (S : Store) (R : List D) (j : Nat) (m : Nat) (Z : Store) : Prop := ∃ cs : List Cell, Z = S ++ .lst R :: cs ∧ cs.length = m ∧ ∀ c ∈ cs, ∃ l : List Int, c = .lst (l.map .int) ∧ l.length ≤ j
theorem ch_loop (C : Cs) (S : Store) (m : Nat) (y0 y1 y2 y3 y4 y5 y7 y8 y9 y10 y11 : Option D) : ∀ (l : List Nat) (j : Nat) (Z : Store) (y6 : Option D), (∀ i ∈ l, i < m) → j + l.length ≤ 500 → Ps S (rfs S.length m) j m Z → ∃ (Z' : Store) (z6 : Option D),
    forL (.nm 6) (fun ρ S => exSs C b27l1 ρ S) [(S.length, .lst (rfs S.length m))] (l.map fun i => .ref (S.length + 1 + i)) [y0, y1, y2, y3, y4, y5, y6, y7, y8, y9, y10, y11] Z = .nx [y0, y1, y2, y3, y4, y5, z6, y7, y8, y9, y10, y11] Z' ∧ Ps S (rfs S.length m) (j + l.length) m Z'
  | [], j, Z, y6, _, _, h => by
    refine ⟨Z, y6, ?_, h⟩
    obtain ⟨cs, rfl, _⟩ := h
    have : gOk [(S.length, Cell.lst (rfs S.length m))] (S ++ .lst (rfs S.length m) :: cs) = true := gk0 (ag0 _ _ _)
    simp [forL, this]
  | i :: l, j, Z, y6, hi, hj, h => by
    simp only [List.length_cons] at hj
    obtain ⟨cs, rfl, hc, hl⟩ := h
    have im := hi i List.mem_cons_self
    have gk : gOk [(S.length, Cell.lst (rfs S.length m))] (S ++ .lst (rfs S.length m) :: cs) = true := gk0 (ag0 _ _ _)
    have ic : i < cs.length := by omega
    obtain ⟨u, hu, ul⟩ := hl cs[i] (List.getElem_mem ic)
    have g1 : (S ++ Cell.lst (rfs S.length m) :: cs)[S.length + 1 + i]? = some (.lst (u.map .int)) := by
      rw [List.getElem?_append_right (by omega), show S.length + 1 + i - S.length = i + 1 by omega, List.getElem?_cons_succ, List.getElem?_eq_getElem ic, hu]
    have g2 : (S ++ Cell.lst (rfs S.length m) :: cs).set (S.length + 1 + i) (.lst (u.map .int ++ [.int 0])) = S ++ Cell.lst (rfs S.length m) :: cs.set i (.lst (u.map .int ++ [.int 0])) := by
      rw [List.set_append_right _ _ (by omega), show S.length + 1 + i - S.length = i + 1 by omega]
      rfl
    have lt : u.length < LIM := by unfold LIM; omega
    have hP : Ps S (rfs S.length m) (j + 1) m (S ++ Cell.lst (rfs S.length m) :: cs.set i (.lst (u.map .int ++ [.int 0]))) := by
      refine ⟨_, rfl, by rw [List.length_set]; exact hc, fun c hcm => ?_⟩
      rcases List.mem_or_eq_of_mem_set hcm with h | rfl
      · obtain ⟨v, e, vl⟩ := hl c h
        exact ⟨v, e, by omega⟩
      · exact ⟨u ++ [0], by simp, by simp; omega⟩
    obtain ⟨Z', z6, e, p⟩ := ch_loop C S m y0 y1 y2 y3 y4 y5 y7 y8 y9 y10 y11 l (j + 1) _ (some (.ref (S.length + 1 + i))) (fun x hx => hi x (List.mem_cons_of_mem _ hx)) (by omega) hP
    refine ⟨Z', z6, ?_, by rw [List.length_cons, show j + (l.length + 1) = j + 1 + l.length by omega]; exact p⟩
    rw [← e, List.map_cons]
    have e2 : exSs C b27l1 [y0, y1, y2, y3, y4, y5, some (.ref (S.length + 1 + i)), y7, y8, y9, y10, y11] (S ++ Cell.lst (rfs S.length m) :: cs) = .nx [y0, y1, y2, y3, y4, y5, some (.ref (S.length + 1 + i)), y7, y8, y9, y10, y11] (S ++ Cell.lst (rfs S.length m) :: cs.set i (.lst (u.map .int ++ [.int 0]))) := by
      rw [← g2]
      generalize (S ++ Cell.lst (rfs S.length m) :: cs) = Y at *
      simp (dsimp := false) (implicitDefEqProofs := false) [b27l1, bmOk, bmD, g1, lt, exSs, exS, evE.eq_1, evE.eq_2, evE.eq_3, evE.eq_4, evE.eq_5, evE.eq_6, evE.eq_7, evE.eq_8, evE.eq_9, evE.eq_10, evE.eq_11, evE.eq_12, evE.eq_13, evE.eq_14, evE.eq_15, evE.eq_16, evE.eq_17, evE.eq_18, evE.eq_19, evE.eq_20, evE.eq_21, evE.eq_22, evE.eq_23, evE.eq_24, evE.eq_25, evE.eq_26, evE.eq_27, evE.eq_28, evE.eq_31, evE.eq_32, evE.eq_33, evE.eq_34, evE.eq_35, evE.eq_36, evE.eq_37, evE.eq_38, evT, evL, evI, evC, evW, startF, setS, idxD, seqOf, ixN, binD, arI, setI, cmpD, intCmp, cmpI, truD, isAny, isD, isNo, pln, vw, eqD, biD, tidy_same, tidyx_same, wipe, evHx, evHl, evHt, evHs, Rs.os, toR, Rs.nox]
    have st : setT (.nm 6) (.ref (S.length + 1 + i)) [y0, y1, y2, y3, y4, y5, y6, y7, y8, y9, y10, y11] (S ++ Cell.lst (rfs S.length m) :: cs) = some [y0, y1, y2, y3, y4, y5, some (.ref (S.length + 1 + i)), y7, y8, y9, y10, y11] := rfl
    simp only [forL, gk, if_true, st, e2]
end Lw
end
section
set_option maxRecDepth 100000
set_option maxHeartbeats 8000000
namespace Lw
open Ev Lg
def bL1 : Sts := tlS b27l0
def bL2 : Sts := tlS bL1
theorem l0_eq : b27l0 = .cons (.asgT [9, 10] (.call 23 (.cons (.var 1) (.cons (.var 2) (.cons (.var 3) .nil))))) bL1 := rfl
theorem lp_fix (n : Nat) {ns : List Int} {X : Store} {k : Nat} {S : Store} (q : QE ns X k S) (hk : k + 100 < 2 ^ 60) {a b : D} (h2 : sm2 3 b = true) (h3 : No a (fzv 3 b)) (y0 y2 y3 y4 y5 y6 y7 y8 y9 y11 : Option D) :
    ∃ (b' : D) (S' : Store), exSs (csOf T (n + 1)) bL1 [y0, some (.ref 0), y2, y3, y4, y5, y6, y7, y8, y9, some b, y11] S = exSs (csOf T (n + 1)) bL2 [y0, some (.ref 0), y2, y3, y4, y5, y6, y7, y8, y9, some b', y11] S' ∧ QE ns X (k + 1) S' ∧ sm2 3 b' = true ∧ No a (fzv 3 b') := by
  have e : bL1 = .cons (.ife (.and (.isI (.var 10) [.b .tuple] false) (.cmp .eq (.call 14 (.cons (.var 1) (.cons (.int 2) .nil))) (.int 0))) (.cons (.asg 10 (.bi .list false (.cons (.var 10) .nil))) .nil) .nil) bL2 := rfl
  generalize bL2 = R at *
  rw [e]
  have pl := sm_plv h2
  cases b with
  | ref i => simp [plv] at pl
  | obj c l => simp [plv] at pl
  | tup l =>
    obtain ⟨r, S1, e1, q1, r1⟩ := de q (by omega) (m := 2) (by decide) (by decide) n
    obtain ⟨hl, j, ej, hj⟩ := sm2_tup_inv h2
    cases ej
    by_cases hr : r = 0
    · subst hr
      rw [show ((0 : Nat) : Int) = 0 from rfl] at e1
      refine ⟨.lst l, S1, ?_, q1, sm2_lst hl hj, h3⟩
      have lim := lim_le hl
      simp (dsimp := false) (implicitDefEqProofs := false) [e1, ofO, lstOf, mkL, lim, exSs, exS, evE.eq_1, evE.eq_2, evE.eq_3, evE.eq_4, evE.eq_5, evE.eq_6, evE.eq_7, evE.eq_8, evE.eq_9, evE.eq_10, evE.eq_11, evE.eq_12, evE.eq_13, evE.eq_14, evE.eq_15, evE.eq_16, evE.eq_17, evE.eq_18, evE.eq_19, evE.eq_20, evE.eq_21, evE.eq_22, evE.eq_23, evE.eq_24, evE.eq_25, evE.eq_26, evE.eq_27, evE.eq_28, evE.eq_31, evE.eq_32, evE.eq_33, evE.eq_34, evE.eq_35, evE.eq_36, evE.eq_37, evE.eq_38, evT, evL, evI, evC, evW, startF, setS, idxD, seqOf, ixN, binD, arI, setI, cmpD, intCmp, cmpI, truD, isAny, isD, isNo, pln, vw, eqD, biD, tidy_same, tidyx_same, wipe, evHx, evHl, evHt, evHs, Rs.os, toR, Rs.nox]
    · have hr' : ((r : Int) == 0) = false := beq_eq_false_iff_ne.mpr (by omega)
      refine ⟨.tup l, S1, ?_, q1, h2, h3⟩
      simp (dsimp := false) (implicitDefEqProofs := false) [e1, hr', ofO, exSs, exS, evE.eq_1, evE.eq_2, evE.eq_3, evE.eq_4, evE.eq_5, evE.eq_6, evE.eq_7, evE.eq_8, evE.eq_9, evE.eq_10, evE.eq_11, evE.eq_12, evE.eq_13, evE.eq_14, evE.eq_15, evE.eq_16, evE.eq_17, evE.eq_18, evE.eq_19, evE.eq_20, evE.eq_21, evE.eq_22, evE.eq_23, evE.eq_24, evE.eq_25, evE.eq_26, evE.eq_27, evE.eq_28, evE.eq_31, evE.eq_32, evE.eq_33, evE.eq_34, evE.eq_35, evE.eq_36, evE.eq_37, evE.eq_38, evT, evL, evI, evC, evW, startF, setS, idxD, seqOf, ixN, binD, arI, setI, cmpD, intCmp, cmpI, truD, isAny, isD, isNo, pln, vw, eqD, biD, tidy_same, tidyx_same, wipe, evHx, evHl, evHt, evHs, Rs.os, toR, Rs.nox]
  | _ =>
    refine ⟨_, S, ?_, q.mono (by omega), h2, h3⟩
    simp (dsimp := false) (implicitDefEqProofs := false) [ofO, exSs, exS, evE.eq_1, evE.eq_2, evE.eq_3, evE.eq_4, evE.eq_5, evE.eq_6, evE.eq_7, evE.eq_8, evE.eq_9, evE.eq_10, evE.eq_11, evE.eq_12, evE.eq_13, evE.eq_14, evE.eq_15, evE.eq_16, evE.eq_17, evE.eq_18, evE.eq_19, evE.eq_20, evE.eq_21, evE.eq_22, evE.eq_23, evE.eq_24, evE.eq_25, evE.eq_26, evE.eq_27, evE.eq_28, evE.eq_31, evE.eq_32, evE.eq_33, evE.eq_34, evE.eq_35, evE.eq_36, evE.eq_37, evE.eq_38, evT, evL, evI, evC, evW, startF, setS, idxD, seqOf, ixN, binD, arI, setI, cmpD, intCmp, cmpI, truD, isAny, isD, isNo, pln, vw, eqD, biD, tidy_same, tidyx_same, wipe, evHx, evHl, evHt, evHs, Rs.os, toR, Rs.nox]
theorem lp_loop (n : Nat) {ns : List Int} {X : Store} (hX : ∀ c ∈ X, belowC (X.length + 1) c = true) {s : Nat} (hs : s ≤ 8) {M : List Nat} (hm : M.length ≤ 8) (hM : Tr s M) (y0 y4 y6 y11 : Option D) : ∀ (l : List Int) (k : Nat) (S : Store) (y7 y8 y9 y10 : Option D), QE ns X k S → k + 100 * l.length + 5000 < 2 ^ 60 → ∃ (S' : Store) (z7 z8 z9 z10 : Option D),
    forL (.nm 7) (fun ρ S => exSs (csOf T (n + 10)) b27l0 ρ S) [] (l.map .int) [y0, some (.ref 0), some (.int (s : Nat)), some (.tup (mtl M)), y4, some (lotD s M), y6, y7, y8, y9, y10, y11] S = .nx [y0, some (.ref 0), some (.int (s : Nat)), some (.tup (mtl M)), y4, some (lotD s M), y6, z7, z8, z9, z10, y11] S' ∧ QE ns X (k + 100 * l.length) S'
  | [], k, S, y7, y8, y9, y10, q, _ => ⟨S, y7, y8, y9, y10, forL_nil, q⟩
  | x :: l, k, S, y7, y8, y9, y10, q, hk => by
    simp only [List.length_cons] at hk
    obtain ⟨d, S1, e1, ⟨a, b, rfl, ha, hb, hno⟩, q1⟩ := f_wrong (n + 7) q (by omega) hs hm hM
    obtain ⟨b', S2, e2, q2, hb', hno'⟩ := lp_fix (n + 9) q1 (by omega) hb hno y0 (some (.int (s : Nat))) (some (.tup (mtl M))) y4 (some (lotD s M)) y6 (some (.int x)) y8 (some a) y11
    have e3 := f_refd n ha hb' hno' (x % 4 == 3) S2
    obtain ⟨v, S3, e4, q3, sm, fz⟩ := f_passed (n + 8) q2 hX (by omega) hm
    have e5 := mkg (n + 1) hs (L := M) (by omega) hM sm fz S3
    have s5 := same 3 (.tup (mtl M)) (sm2_tup (by rw [mtl_len]; omega) (sm_mtl M)) (n + 9) S3 (by omega)
    have e6 := f_len (n + 8) (s := s) (L := M) S3
    have s6 := same 3 (.int (M.length : Nat)) rfl (n + 9) S3 (by omega)
    obtain ⟨S', z7, z8, z9, z10, eL, qL⟩ := lp_loop n hX hs hm hM y0 y4 y6 y11 l (k + 100) S3 (some (.int x)) (some (lotD s M)) (some a) (some b') (q3.mono (by omega)) (by omega)
    refine ⟨S', z7, z8, z9, z10, ?_, qL.mono (by simp only [List.length_cons]; omega)⟩
    rw [List.map_cons, ← eL]
    refine forL_nx (ρ1 := [y0, some (.ref 0), some (.int (s : Nat)), some (.tup (mtl M)), y4, some (lotD s M), y6, some (.int x), y8, y9, y10, y11]) rfl ?_
    have f1 : (csOf T (n + 10)).fn1 = run T (n + 9) := rfl
    have m6 : ∀ S, mthOf T (lotD s M) 6 S = some 31 := fun _ => rfl
    have t4 : ∀ S, attD T (lotD s M) 4 S = some (.tup (mtl M)) := fun _ => rfl
    have ml := mtl_len M
    have ln2 : (M.length : Int) < 4611686018427387904 := by omega
    have e2' := e2
    rw [l0_eq]
    have bL2' : bL2 = (match b27l0 with
      | .cons _ (.cons _ b) => b
      | b => b) := rfl
    have first : exSs (csOf T (n + 10)) (.cons (.asgT [9, 10] (.call 23 (.cons (.var 1) (.cons (.var 2) (.cons (.var 3) .nil))))) bL1) [y0, some (.ref 0), some (.int (s : Nat)), some (.tup (mtl M)), y4, some (lotD s M), y6, some (.int x), y8, y9, y10, y11] S = exSs (csOf T (n + 10)) bL1 [y0, some (.ref 0), some (.int (s : Nat)), some (.tup (mtl M)), y4, some (lotD s M), y6, some (.int x), y8, some a, some b, y11] S1 := by
      generalize bL1 = R at *
      generalize lotD s M = Q0 at *
      generalize mtl M = Q at *
      simp (dsimp := false) (implicitDefEqProofs := false) [e1, setT, setAll, exSs, exS, evE.eq_1, evE.eq_2, evE.eq_3, evE.eq_4, evE.eq_5, evE.eq_6, evE.eq_7, evE.eq_8, evE.eq_9, evE.eq_10, evE.eq_11, evE.eq_12, evE.eq_13, evE.eq_14, evE.eq_15, evE.eq_16, evE.eq_17, evE.eq_18, evE.eq_19, evE.eq_20, evE.eq_21, evE.eq_22, evE.eq_23, evE.eq_24, evE.eq_25, evE.eq_26, evE.eq_27, evE.eq_28, evE.eq_31, evE.eq_32, evE.eq_33, evE.eq_34, evE.eq_35, evE.eq_36, evE.eq_37, evE.eq_38, evT, evL, evI, evC, evW, startF, setS, idxD, seqOf, ixN, binD, arI, setI, cmpD, intCmp, cmpI, truD, isAny, isD, isNo, pln, vw, eqD, biD, tidy_same, tidyx_same, wipe, evHx, evHl, evHt, evHs, Rs.os, toR, Rs.nox]
    rw [first, e2]
    generalize lotD s M = Q0 at *
    generalize mtl M = Q at *
    simp (dsimp := false) (implicitDefEqProofs := false) [bL2', b27l0, e3, e4, f1, e5, t4, s5, m6, e6, lenR, ln2, ml, s6, ofO, exSs, exS, evE.eq_1, evE.eq_2, evE.eq_3, evE.eq_4, evE.eq_5, evE.eq_6, evE.eq_7, evE.eq_8, evE.eq_9, evE.eq_10, evE.eq_11, evE.eq_12, evE.eq_13, evE.eq_14, evE.eq_15, evE.eq_16, evE.eq_17, evE.eq_18, evE.eq_19, evE.eq_20, evE.eq_21, evE.eq_22, evE.eq_23, evE.eq_24, evE.eq_25, evE.eq_26, evE.eq_27, evE.eq_28, evE.eq_31, evE.eq_32, evE.eq_33, evE.eq_34, evE.eq_35, evE.eq_36, evE.eq_37, evE.eq_38, evT, evL, evI, evC, evW, startF, setS, idxD, seqOf, ixN, binD, arI, setI, cmpD, intCmp, cmpI, truD, isAny, isD, isNo, pln, vw, eqD, biD, tidy_same, tidyx_same, wipe, evHx, evHl, evHt, evHs, Rs.os, toR, Rs.nox]
def SZ : List D := [.int 0, .int 1, .int 2, .int 3, .int 3, .int 4, .int 5, .int 6, .int 7, .int 8]
theorem sz_get {r : Nat} (hr : r < 10) : ∃ s : Nat, s ≤ 8 ∧ SZ[r]? = some (.int (s : Nat)) := by
  match r, hr with
  | 0, _ => exact ⟨0, by decide, rfl⟩
  | 1, _ => exact ⟨1, by decide, rfl⟩
  | 2, _ => exact ⟨2, by decide, rfl⟩
  | 3, _ => exact ⟨3, by decide, rfl⟩
  | 4, _ => exact ⟨3, by decide, rfl⟩
  | 5, _ => exact ⟨4, by decide, rfl⟩
  | 6, _ => exact ⟨5, by decide, rfl⟩
  | 7, _ => exact ⟨6, by decide, rfl⟩
  | 8, _ => exact ⟨7, by decide, rfl⟩
  | 9, _ => exact ⟨8, by decide, rfl⟩
  | k + 10, h => exact absurd h (by omega)
theorem tidy_bl (fz : Bool) (S : Store) (b : Bool) (S3 : Store) : ∃ S', tidy fz S (.ok (.bl b) S3) = .ok (.bl b) S' := by
  unfold tidy
  simp only [below, if_true]
  split <;> exact ⟨_, rfl⟩
def dT (f : Nat → D) : D → D
  | .int i => f i.toNat
  | _ => .non
theorem mapDT (L : List Nat) : (ndl L).map (dT fun m => tupI (bits m)) = mtl L := by
  unfold ndl mtl
  rw [List.map_map, List.map_map]
  rfl
end Lw
end
section
set_option maxRecDepth 100000
set_option maxHeartbeats 8000000
namespace Lw
open Ev Lg
def litE : List Nat → Exs
  | [] => .nil
  | i :: l => .cons (.int (i : Nat)) (litE l)
theorem lit_ev (C : Cs) (ρ : Fr) (S : Store) : ∀ L : List Nat, evL C (litE L) ρ S = .ok (ndl L) S
  | [] => by simp [litE, evL, ndl]
  | i :: l => by
    have := lit_ev C ρ S l
    have e : ndl (i :: l) = .int (i : Nat) :: ndl l := rfl
    rw [e]
    simp (dsimp := false) (implicitDefEqProofs := false) [litE, this, exSs, exS, evE.eq_1, evE.eq_2, evE.eq_3, evE.eq_4, evE.eq_5, evE.eq_6, evE.eq_7, evE.eq_8, evE.eq_9, evE.eq_10, evE.eq_11, evE.eq_12, evE.eq_13, evE.eq_14, evE.eq_15, evE.eq_16, evE.eq_17, evE.eq_18, evE.eq_19, evE.eq_20, evE.eq_21, evE.eq_22, evE.eq_23, evE.eq_24, evE.eq_25, evE.eq_26, evE.eq_27, evE.eq_28, evE.eq_31, evE.eq_32, evE.eq_33, evE.eq_34, evE.eq_35, evE.eq_36, evE.eq_37, evE.eq_38, evT, evL, evI, evC, evW, startF, setS, idxD, seqOf, ixN, binD, arI, setI, cmpD, intCmp, cmpI, truD, isAny, isD, isNo, pln, vw, eqD, biD, tidy_same, tidyx_same, wipe, evHx, evHl, evHt, evHs, Rs.os, toR, Rs.nox]
theorem ev_mt2 {C : Cs} {own : List Nat} {i : Nat} {it : Iter} {e : Ex} {ρ : Fr} {S S0 : Store} {L : List Nat} (hl : L.length ≤ 50) (hw : evW C it ρ S0 = .ok (ndl L, []) S) (h : ∀ (m : Nat) (S : Store), evE C e (setS (wipe ρ own) i (.int (m : Nat))) S = .ok (tupI (bits m)) S) : evE C (.lc false own (.nm i) it .no e) ρ S0 = .ok (.lst (mtl L)) S := by
  have hw2 : evW C (.seq (.lst false (litE L))) ρ S = .ok (ndl L, []) S := by
    have := lit_ev C ρ S L
    have lb : (ndl L).length ≤ LIM := by rw [ndl_len]; exact lim_le (by omega)
    generalize ndl L = Q at *
    simp (dsimp := false) (implicitDefEqProofs := false) [this, mkL, seqIt, Ev.guard, exSs, exS, evE.eq_1, evE.eq_2, evE.eq_3, evE.eq_4, evE.eq_5, evE.eq_6, evE.eq_7, evE.eq_8, evE.eq_9, evE.eq_10, evE.eq_11, evE.eq_12, evE.eq_13, evE.eq_14, evE.eq_15, evE.eq_16, evE.eq_17, evE.eq_18, evE.eq_19, evE.eq_20, evE.eq_21, evE.eq_22, evE.eq_23, evE.eq_24, evE.eq_25, evE.eq_26, evE.eq_27, evE.eq_28, evE.eq_31, evE.eq_32, evE.eq_33, evE.eq_34, evE.eq_35, evE.eq_36, evE.eq_37, evE.eq_38, evT, evL, evI, evC, evW, startF, setS, idxD, seqOf, ixN, binD, arI, setI, cmpD, intCmp, cmpI, truD, isAny, isD, isNo, pln, vw, eqD, biD, tidy_same, tidyx_same, wipe, evHx, evHl, evHt, evHs, Rs.os, toR, Rs.nox]
  have e1 := lc_map (C := C) (own := own) (tg := .nm i) (it := .seq (.lst false (litE L))) (e := e) (ρ := ρ) (S := S) (l := ndl L) (g := []) (dT fun m => tupI (bits m)) hw2 (fun c => gOk_nil _) (fun d hd x => ⟨_, rfl, by
    obtain ⟨m, _, rfl⟩ := List.mem_map.mp hd
    exact h m _⟩) (by rw [ndl_len]; exact lim_le (by omega)) (by rw [mapDT]; exact mtl_below _ _)
  rw [mapDT, evE.eq_29, hw2] at e1
  rw [evE.eq_29, hw]
  exact e1
theorem f_all (n : Nat) {ns : List Int} (hn : ns.length ≤ 63) : ∃ S, run T (n + 11) 27 [.lst (ns.map .int)] [] = .ok (.bl true) S := by
  obtain ⟨S0, e0, q0⟩ := box (n + 9) hn
  obtain ⟨r, S1, e1, q1, r1⟩ := dq q0 (by decide) (m := 10) (by decide) (by decide) (n + 9)
  obtain ⟨s, hs, g⟩ := sz_get (r := r) (by omega)
  have ix := ix_lst g S1
  unfold SZ at ix
  obtain ⟨M, S2, e2, q2, h1, h2, h3⟩ := f_family (n + 6) q1 (by decide) hs
  have hM : Tr s M := ⟨h2, h3⟩
  have v1 := ev_mt2 (C := csOf T (n + 10)) (own := [11]) (i := 11) (it := .seq (.call 20 (.cons (.var 1) (.cons (.var 2) (.cons (.int 8) .nil))))) (e := b27e1) (ρ := [some (.lst (ns.map .int)), some (.ref 0), some (.int (s : Nat)), none, none, none, none, none, none, none, none, none]) (S0 := S1) (S := S2) (L := M) (by omega) (by simp (dsimp := false) (implicitDefEqProofs := false) [e2, seqIt, Ev.guard, ofO, exSs, exS, evE.eq_1, evE.eq_2, evE.eq_3, evE.eq_4, evE.eq_5, evE.eq_6, evE.eq_7, evE.eq_8, evE.eq_9, evE.eq_10, evE.eq_11, evE.eq_12, evE.eq_13, evE.eq_14, evE.eq_15, evE.eq_16, evE.eq_17, evE.eq_18, evE.eq_19, evE.eq_20, evE.eq_21, evE.eq_22, evE.eq_23, evE.eq_24, evE.eq_25, evE.eq_26, evE.eq_27, evE.eq_28, evE.eq_31, evE.eq_32, evE.eq_33, evE.eq_34, evE.eq_35, evE.eq_36, evE.eq_37, evE.eq_38, evT, evL, evI, evC, evW, startF, setS, idxD, seqOf, ixN, binD, arI, setI, cmpD, intCmp, cmpI, truD, isAny, isD, isNo, pln, vw, eqD, biD, tidy_same, tidyx_same, wipe, evHx, evHl, evHt, evHs, Rs.os, toR, Rs.nox]) (fun m S => by
    have := lot (n + 9) m S
    simp (dsimp := false) (implicitDefEqProofs := false) [b27e1, this, exSs, exS, evE.eq_1, evE.eq_2, evE.eq_3, evE.eq_4, evE.eq_5, evE.eq_6, evE.eq_7, evE.eq_8, evE.eq_9, evE.eq_10, evE.eq_11, evE.eq_12, evE.eq_13, evE.eq_14, evE.eq_15, evE.eq_16, evE.eq_17, evE.eq_18, evE.eq_19, evE.eq_20, evE.eq_21, evE.eq_22, evE.eq_23, evE.eq_24, evE.eq_25, evE.eq_26, evE.eq_27, evE.eq_28, evE.eq_31, evE.eq_32, evE.eq_33, evE.eq_34, evE.eq_35, evE.eq_36, evE.eq_37, evE.eq_38, evT, evL, evI, evC, evW, startF, setS, idxD, seqOf, ixN, binD, arI, setI, cmpD, intCmp, cmpI, truD, isAny, isD, isNo, pln, vw, eqD, biD, tidy_same, tidyx_same, wipe, evHx, evHl, evHt, evHs, Rs.os, toR, Rs.nox])
  have v2 := pas_ev (csOf T (n + 10)) S2 (some (.lst (ns.map .int))) (some (.ref 0)) (some (.int (s : Nat))) h1
  have e3 := mkg_ref (n + 1) hs h1 hM S2
  have P0 : Ps S2 (rfs S2.length M.length) 8 M.length (S2 ++ .lst (rfs S2.length M.length) :: cel M) := ⟨cel M, rfl, by simp [cel], fun c hc => by
    obtain ⟨m, _, rfl⟩ := List.mem_map.mp hc
    exact ⟨bits m, rfl, bits_len m⟩⟩
  obtain ⟨Z, z6, e4, hP⟩ := ch_loop (csOf T (n + 10)) S2 M.length (some (.lst (ns.map .int))) (some (.ref 0)) (some (.int (s : Nat))) (some (.tup (mtl M))) (some (.ref S2.length)) (some (lotD s M)) none none none none none (List.range M.length) 8 _ none (fun i hi => List.mem_range.mp hi) (by simp; omega) P0
  have e4 : forL (.nm 6) (fun ρ S => exSs (csOf T (n + 10)) b27l1 ρ S) [(S2.length, .lst (rfs S2.length M.length))] (rfs S2.length M.length) [some (.lst (ns.map .int)), some (.ref 0), some (.int (s : Nat)), some (.tup (mtl M)), some (.ref S2.length), some (lotD s M), none, none, none, none, none, none] (S2 ++ .lst (rfs S2.length M.length) :: cel M) = .nx [some (.lst (ns.map .int)), some (.ref 0), some (.int (s : Nat)), some (.tup (mtl M)), some (.ref S2.length), some (lotD s M), z6, none, none, none, none, none] Z := e4
  obtain ⟨cs, hZ, hcl, hcs⟩ := hP
  have rl := rfs_len S2.length M.length
  have zl : Z.length = S2.length + 1 + M.length := by rw [hZ]; simp [hcl]; omega
  -- the store behind that
  obtain ⟨X, hX⟩ : ∃ X : Store, X = .lst (rfs S2.length M.length ++ [.ref Z.length]) :: (cs ++ [.lst [.int 0]]) := ⟨_, rfl⟩
  have l2 := q2.len
  have l2 : S2.length = 1 := l2
  have q3 : QE ns X 1000000 (S2 ++ X) := (q2.e.mono (by omega)).app X
  have xl : X.length = M.length + 2 := by rw [hX]; simp [hcl]
  have bX : ∀ c ∈ X, belowC (X.length + 1) c = true := fun c hc => by
    rw [xl]
    rw [hX] at hc
    rcases List.mem_cons.mp hc with rfl | hc
    · refine belowL_of fun d hd => ?_
      rcases List.mem_append.mp hd with hd | hd
      · obtain ⟨i, hi, rfl⟩ := List.mem_map.mp hd
        have := List.mem_range.mp hi
        simp [Ev.below]
        omega
      · rw [List.mem_singleton.mp hd]
        simp [Ev.below]
        omega
    · refine belC_mono ?_
      rcases List.mem_append.mp hc with hc | hc
      · obtain ⟨l, rfl, _⟩ := hcs c hc
        exact belowL_ints _ _
      · rw [List.mem_singleton.mp hc]
        simp [belowC, belowL, Ev.below]
  have bmo : bmOk .append (.ref S2.length) Z = true := by
    have : Z[S2.length]? = some (.lst (rfs S2.length M.length)) := by rw [hZ]; simp
    simp [bmOk, this]
  have bmd : bmD .append (.ref S2.length) [.ref Z.length] (Z ++ [.lst [.int 0]]) = .ok .non (S2 ++ X) := by
    have g0 : (Z ++ [Cell.lst [.int 0]])[S2.length]? = some (.lst (rfs S2.length M.length)) := by rw [hZ]; simp
    have lt : (rfs S2.length M.length).length < LIM := by rw [rl]; unfold LIM; omega
    simp only [bmD, g0, lt, if_true]
    have : (Z ++ [Cell.lst [.int 0]]).set S2.length (.lst (rfs S2.length M.length ++ [.ref Z.length])) = S2 ++ X := by
      rw [hX]
      generalize Z.length = zz
      rw [hZ]
      simp
    rw [this]
  have s1 := same 3 (.int (s : Nat)) rfl (n + 9) (S2 ++ X) (by omega)
  have smM := sm2_tup (k := 2) (by rw [mtl_len]; omega) (sm_mtl M)
  have s2 := same 3 (.tup (mtl M)) smM (n + 9) (S2 ++ X) (by omega)
  have s3 := same 3 (.int (M.length : Nat)) rfl (n + 9) (S2 ++ X) (by omega)
  have e6 := f_len (n + 8) (s := s) (L := M) (S2 ++ X)
  obtain ⟨S4, e7, q4⟩ := f_comp n q3 bX (by decide) hs h1 hM
  obtain ⟨S5, z7, z8, z9, z10, e8, q5⟩ := lp_loop n bX hs h1 hM (some (.lst (ns.map .int))) (some (.ref S2.length)) z6 none [0, 1, 2, 3, 4, 5, 6, 7, 8, 9] _ S4 none none none none q4 (by simp)
  have e8 : forL (.nm 7) (fun ρ S => exSs (csOf T (n + 10)) b27l0 ρ S) [] (upTo 0 10) [some (.lst (ns.map .int)), some (.ref 0), some (.int (s : Nat)), some (.tup (mtl M)), some (.ref S2.length), some (lotD s M), z6, none, none, none, none, none] S4 = .nx [some (.lst (ns.map .int)), some (.ref 0), some (.int (s : Nat)), some (.tup (mtl M)), some (.ref S2.length), some (lotD s M), z6, z7, z8, z9, z10, none] S5 := e8
  have s4 := same 3 (.tup (mtl M)) smM (n + 9) S5 (by omega)
  have s5 := same 3 (.int (s : Nat)) rfl (n + 9) S5 (by omega)
  obtain ⟨S6, td⟩ := tidy_bl true [] true S5
  refine ⟨S6, ?_⟩
  have lim : (10 : Int) ≤ LIM ∧ -(LIM : Int) ≤ 10 := by unfold LIM; omega
  have rg : ∀ S, rngIt [.int 10] S = .ok (upTo 0 10, []) S := fun S => by simp [rngIt, lim]
  have m6 : ∀ S, mthOf T (lotD s M) 6 S = some 31 := fun _ => rfl
  have t3 : ∀ S, attD T (lotD s M) 3 S = some (.int (s : Nat)) := fun _ => rfl
  have t4 : ∀ S, attD T (lotD s M) 4 S = some (.tup (mtl M)) := fun _ => rfl
  have f1 : (csOf T (n + 10)).fn1 = run T (n + 9) := rfl
  have ml := mtl_len M
  have lm1 : (mtl M).length ≤ LIM := by rw [mtl_len]; exact lim_le (by omega)
  have ln2 : (M.length : Int) < 4611686018427387904 := by omega
  have gw : evW (csOf T (n + 10)) (.seq (.var 4)) [some (.lst (ns.map .int)), some (.ref 0), some (.int (s : Nat)), some (.tup (mtl M)), some (.ref S2.length), some (lotD s M), none, none, none, none, none, none] (S2 ++ .lst (rfs S2.length M.length) :: cel M) = .ok (rfs S2.length M.length, [(S2.length, .lst (rfs S2.length M.length))]) (S2 ++ .lst (rfs S2.length M.length) :: cel M) := by
    have g0 : (S2 ++ .lst (rfs S2.length M.length) :: cel M)[S2.length]? = some (.lst (rfs S2.length M.length)) := by simp
    generalize (S2 ++ .lst (rfs S2.length M.length) :: cel M) = Y at *
    simp (dsimp := false) (implicitDefEqProofs := false) [seqIt, Ev.guard, g0, exSs, exS, evE.eq_1, evE.eq_2, evE.eq_3, evE.eq_4, evE.eq_5, evE.eq_6, evE.eq_7, evE.eq_8, evE.eq_9, evE.eq_10, evE.eq_11, evE.eq_12, evE.eq_13, evE.eq_14, evE.eq_15, evE.eq_16, evE.eq_17, evE.eq_18, evE.eq_19, evE.eq_20, evE.eq_21, evE.eq_22, evE.eq_23, evE.eq_24, evE.eq_25, evE.eq_26, evE.eq_27, evE.eq_28, evE.eq_31, evE.eq_32, evE.eq_33, evE.eq_34, evE.eq_35, evE.eq_36, evE.eq_37, evE.eq_38, evT, evL, evI, evC, evW, startF, setS, idxD, seqOf, ixN, binD, arI, setI, cmpD, intCmp, cmpI, truD, isAny, isD, isNo, pln, vw, eqD, biD, tidy_same, tidyx_same, wipe, evHx, evHl, evHt, evHs, Rs.os, toR, Rs.nox]
  have gr : ∀ (ρ : Fr) (S : Store), evW (csOf T (n + 10)) (.rng (.cons (.int 10) .nil)) ρ S = .ok (upTo 0 10, []) S := fun ρ S => by
    have := rg S
    generalize upTo 0 10 = U at *
    simp (dsimp := false) (implicitDefEqProofs := false) [this, exSs, exS, evE.eq_1, evE.eq_2, evE.eq_3, evE.eq_4, evE.eq_5, evE.eq_6, evE.eq_7, evE.eq_8, evE.eq_9, evE.eq_10, evE.eq_11, evE.eq_12, evE.eq_13, evE.eq_14, evE.eq_15, evE.eq_16, evE.eq_17, evE.eq_18, evE.eq_19, evE.eq_20, evE.eq_21, evE.eq_22, evE.eq_23, evE.eq_24, evE.eq_25, evE.eq_26, evE.eq_27, evE.eq_28, evE.eq_31, evE.eq_32, evE.eq_33, evE.eq_34, evE.eq_35, evE.eq_36, evE.eq_37, evE.eq_38, evT, evL, evI, evC, evW, startF, setS, idxD, seqOf, ixN, binD, arI, setI, cmpD, intCmp, cmpI, truD, isAny, isD, isNo, pln, vw, eqD, biD, tidy_same, tidyx_same, wipe, evHx, evHl, evHt, evHs, Rs.os, toR, Rs.nox]
  rw [run_def (F := ⟨1, 12, b27, true⟩) rfl rfl]
  clear q0 q1 q2 q3 q4 q5 P0 hZ hX bX xl zl hcl hcs l2 e2
  generalize hB : S2.length = B at *
  generalize S2 ++ X = Y3 at *
  generalize (S2 ++ Cell.lst (rfs B M.length) :: cel M) = Y1 at *
  generalize rfs B M.length = R at *
  generalize mtl M = Z1 at *
  generalize lotD s M = Q0 at *
  generalize ns.map D.int = W at *
  generalize upTo 0 10 = U at *
  simp (dsimp := false) (implicitDefEqProofs := false) [b27, e0, e1, mkL, ix, v1, lstOf, lm1, v2, f1, e3, gw, e4, bmo, bmd, t3, s1, t4, s2, m6, e6, lenR, ln2, ml, s3, e7, gr, e8, s4, s5, ofO, exSs, exS, evE.eq_1, evE.eq_2, evE.eq_3, evE.eq_4, evE.eq_5, evE.eq_6, evE.eq_7, evE.eq_8, evE.eq_9, evE.eq_10, evE.eq_11, evE.eq_12, evE.eq_13, evE.eq_14, evE.eq_15, evE.eq_16, evE.eq_17, evE.eq_18, evE.eq_19, evE.eq_20, evE.eq_21, evE.eq_22, evE.eq_23, evE.eq_24, evE.eq_25, evE.eq_26, evE.eq_27, evE.eq_28, evE.eq_31, evE.eq_32, evE.eq_33, evE.eq_34, evE.eq_35, evE.eq_36, evE.eq_37, evE.eq_38, evT, evL, evI, evC, startF, setS, seqOf, ixN, binD, arI, setI, cmpD, intCmp, cmpI, truD, isAny, isD, isNo, pln, vw, eqD, biD, tidy_same, tidyx_same, wipe, evHx, evHl, evHt, evHs, Rs.os, toR, Rs.nox]
  exact td
theorem asked : Asked T 200 28 := by
  intro ns hn
  obtain ⟨S, e⟩ := f_all 188 hn
  obtain ⟨S4, e4⟩ := tidy_bl true [] true S
  rw [run_def (n := 199) (F := ⟨1, 1, b28, true⟩) rfl rfl]
  simp (dsimp := false) (implicitDefEqProofs := false) [b28, e, exSs, exS, evE.eq_1, evE.eq_2, evE.eq_3, evE.eq_4, evE.eq_5, evE.eq_6, evE.eq_7, evE.eq_8, evE.eq_9, evE.eq_10, evE.eq_11, evE.eq_12, evE.eq_13, evE.eq_14, evE.eq_15, evE.eq_16, evE.eq_17, evE.eq_18, evE.eq_19, evE.eq_20, evE.eq_21, evE.eq_22, evE.eq_23, evE.eq_24, evE.eq_25, evE.eq_26, evE.eq_27, evE.eq_28, evE.eq_31, evE.eq_32, evE.eq_33, evE.eq_34, evE.eq_35, evE.eq_36, evE.eq_37, evE.eq_38, evT, evL, evI, evC, evW, startF, setS, idxD, seqOf, ixN, binD, arI, setI, cmpD, intCmp, cmpI, truD, isAny, isD, isNo, pln, vw, eqD, biD, tidy_same, tidyx_same, wipe, evHx, evHl, evHt, evHs, Rs.os, toR, Rs.nox]
  exact ⟨S4, e4⟩
end Lw
theorem PySem.Challenge.cw_piecerealm_k00_lots_taken_and_refused_holds : PySem.Challenge.rw_piecerealm_k00_lots_taken_and_refused.Holds := by
  exact PySem.Challenge.cw_piecerealm_k00_lots_taken_and_refused_from Lw.asked
end
