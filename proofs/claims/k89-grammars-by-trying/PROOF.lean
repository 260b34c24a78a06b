import PyProof.Rows.All
import PySem.Str
import Wide.All
import OpenK.AllK
import Wide.FinOn
import HandS.ForMost
import HandS.Wide
import HandS.Zip
import HandS.Walk
import HandS.IsInst
import HandS.Conv
import HandS.Style
import HandS.TupAny
import HandS.Deep
import HandS.Flow
import KE.KDictKeyed
import KE.KDictCopyH
import KE.SortData
import KE.KDictDisplayH
import KE.KDictLaws
import HandS.SetKeys
import KE.GoesNewDict
import KE.GoesNew
import KE.GoesEnum
import KE.GoesDict
import KE.KDictSum
import HandS.DictComp
import HandS.Codes
import HandS.Defaults
import HandS.HeadEnd
import HandS.HeadHook1
import HandS.HeadHook2
import HandS.HeadHook4
import KE.KStateDown
import Lean
import HandS.Base
import HandS.Call
import HandS.Ends
import HandS.More
import HandS.Words
import HandS.WordsExc
import HandS.Head0
import HandS.Head1
import HandS.Head2
import PySem.Challenge.RW_everystack_k89_grammars_by_trying
section
set_option autoImplicit false
/-! Pure values, a store of cells, a small core language and its evaluator. -/
namespace Pv
open PySem (Str)

inductive PV where
  | non | bl (b : Bool) | int (i : Int) | str (x : Str)
  | tup (l : List PV) | lst (l : List PV) | dct (t : Bool) (l : List (PV × PV))
  | loc (n : Nat) | fz (l : List PV)

mutual
def PV.beq : PV → PV → Bool
  | .non, .non => true
  | .bl a, .bl b => a == b
  | .int a, .int b => decide (a = b)
  | .str a, .str b => decide (a = b)
  | .tup a, .tup b => PV.beqL a b
  | .lst a, .lst b => PV.beqL a b
  | .dct s a, .dct t b => s == t && PV.beqD a b
  | .loc a, .loc b => decide (a = b)
  | .fz a, .fz b => PV.beqL a b
  | _, _ => false
def PV.beqL : List PV → List PV → Bool
  | [], [] => true
  | a :: r, b :: s => PV.beq a b && PV.beqL r s
  | _, _ => false
def PV.beqD : List (PV × PV) → List (PV × PV) → Bool
  | [], [] => true
  | (a, c) :: r, (b, d) :: s => PV.beq a b && PV.beq c d && PV.beqD r s
  | _, _ => false
end

mutual
theorem PV.beq_iff : ∀ (a b : PV), PV.beq a b = true ↔ a = b
  | .non, b => by cases b <;> simp [PV.beq]
  | .bl x, b => by cases b <;> simp [PV.beq]
  | .int x, b => by cases b <;> simp [PV.beq]
  | .str x, b => by cases b <;> simp [PV.beq]
  | .tup x, b => by cases b <;> simp [PV.beq, PV.beqL_iff x]
  | .lst x, b => by cases b <;> simp [PV.beq, PV.beqL_iff x]
  | .dct s x, b => by cases b <;> simp [PV.beq, PV.beqD_iff x]
  | .loc x, b => by cases b <;> simp [PV.beq]
  | .fz x, b => by cases b <;> simp [PV.beq, PV.beqL_iff x]
theorem PV.beqL_iff : ∀ (a b : List PV), PV.beqL a b = true ↔ a = b
  | [], b => by cases b <;> simp [PV.beqL]
  | x :: r, b => by
    cases b with
    | nil => simp [PV.beqL]
    | cons y s => simp [PV.beqL, PV.beq_iff x y, PV.beqL_iff r s]
theorem PV.beqD_iff : ∀ (a b : List (PV × PV)), PV.beqD a b = true ↔ a = b
  | [], b => by cases b <;> simp [PV.beqD]
  | (x, u) :: r, b => by
    cases b with
    | nil => simp [PV.beqD]
    | cons y s => obtain ⟨y, v⟩ := y; simp [PV.beqD, PV.beq_iff x y, PV.beq_iff u v, PV.beqD_iff r s]
end
instance : DecidableEq PV := fun a b => if h : PV.beq a b = true then .isTrue ((PV.beq_iff a b).mp h) else .isFalse fun e => h ((PV.beq_iff a b).mpr e)

inductive Cell where
  | dead | lst (l : List PV) | dct (t : Bool) (l : List (PV × PV)) | ins (c : Str) (fs : List (Str × PV)) | lck (t : Bool) (l : List (PV × PV))
  deriving DecidableEq
/-- a cell that nobody may write -/
def Cell.still : Cell → Bool
  | .dead => true
  | .lck _ _ => true
  | _ => false
abbrev Store := List Cell
abbrev Fr := List (Option PV)

def SZ : Nat := 16777216

/-! ### values -/
/-- keys of dicts: no truth values, lists, cells -/
def isTup : PV → Bool
  | .tup _ => true
  | _ => false
mutual
def kOk : Nat → PV → Bool
  | _, .non => true
  | _, .int _ => true
  | _, .str _ => true
  | 0, .tup _ => false
  | n + 1, .tup l => kOkL n l
  | _, _ => false
def kOkL : Nat → List PV → Bool
  | _, [] => true
  | n, a :: r => kOk n a && kOkL n r
end
def look (kvs : List (PV × PV)) (k : PV) : Option PV := (kvs.find? fun p => decide (p.1 = k)).map (·.2)
def put (kvs : List (PV × PV)) (k v : PV) : List (PV × PV) :=
  if kvs.any (fun p => decide (p.1 = k)) then kvs.map (fun p => if p.1 = k then (p.1, v) else p) else kvs ++ [(k, v)]
/-- what may be asked of a dict of the sort t -/
def kLeaf : PV → Bool
  | .int _ => true
  | .str _ => true
  | _ => false
def kFor (t : Bool) (k : PV) : Bool := if t then isTup k && kOk 8 k else kLeaf k

def lstOf (st : Store) : PV → Option (List PV)
  | .lst l => some l
  | .loc n => match st[n]? with
    | some (.lst l) => some l
    | _ => none
  | _ => none
def seqOf (st : Store) : PV → Option (List PV)
  | .tup l => some l
  | .fz l => some l
  | v => lstOf st v
def dctOf (st : Store) : PV → Option (Bool × List (PV × PV))
  | .dct t l => some (t, l)
  | .loc n => match st[n]? with
    | some (.dct t l) => some (t, l)
    | some (.lck t l) => some (t, l)
    | _ => none
  | _ => none
def insOf (st : Store) : PV → Option (Str × List (Str × PV))
  | .loc n => match st[n]? with
    | some (.ins c fs) => some (c, fs)
    | _ => none
  | _ => none

mutual
/-- == of data (bools, ints, texts, None, tuples, lists), as Python says -/
def eqv : PV → PV → Bool
  | .non, .non => true
  | .bl a, .bl b => a == b
  | .bl a, .int j => (if a then 1 else 0) == j
  | .int i, .bl b => i == (if b then 1 else 0)
  | .int i, .int j => i == j
  | .str x, .str y => x == y
  | .lst xs, .lst ys => eqvL xs ys
  | .tup xs, .tup ys => eqvL xs ys
  | _, _ => false
def eqvL : List PV → List PV → Bool
  | [], [] => true
  | x :: xs, y :: ys => eqv x y && eqvL xs ys
  | _, _ => false
end
mutual
/-- data, nested so deep at most -/
def isD : Nat → PV → Bool
  | _, .non => true
  | _, .bl _ => true
  | _, .int _ => true
  | _, .str x => x.cps.all (· < 0x110000)
  | 0, .tup _ => false
  | n + 1, .tup l => isDL n l
  | 0, .lst _ => false
  | n + 1, .lst l => isDL n l
  | _, _ => false
def isDL : Nat → List PV → Bool
  | _, [] => true
  | n, a :: r => isD n a && isDL n r
end
mutual
/-- two data that can be compared by < -/
def alk : PV → PV → Bool
  | .non, .non => true
  | .bl _, .bl _ => true
  | .int _, .int _ => true
  | .str _, .str _ => true
  | .tup xs, .tup ys => alkL xs ys
  | _, _ => false
def alkL : List PV → List PV → Bool
  | x :: xs, y :: ys => alk x y && alkL xs ys
  | _, _ => true
end
/-- lists of codes -/
def ltC : List Nat → List Nat → Bool
  | [], [] => false
  | [], _ :: _ => true
  | _ :: _, [] => false
  | a :: r, b :: s => if a = b then ltC r s else decide (a < b)
mutual
/-- < of data that are alike -/
def ltP : PV → PV → Bool
  | .bl a, .bl b => !a && b
  | .int i, .int j => decide (i < j)
  | .str x, .str y => ltC x.cps.toList y.cps.toList
  | .tup xs, .tup ys => ltL xs ys
  | _, _ => false
def ltL : List PV → List PV → Bool
  | [], [] => false
  | [], _ :: _ => true
  | _ :: _, [] => false
  | x :: xs, y :: ys => if eqv x y then ltL xs ys else ltP x y
end
end Pv
end

section
set_option autoImplicit false
namespace Pv
open PySem (Str)

inductive Bop where | add | sub | mul | mod | fdiv | pow
  deriving DecidableEq
inductive Cop where | lt | le | gt | ge | eq | ne | inn | nin | is | isn
  deriving DecidableEq
inductive Ty where | int | bool | str | tup | lst | dct
  deriving DecidableEq
inductive Bi where | len | int | abs | max2 | min2 | tuple | list | sorted | all | any | sum
  deriving DecidableEq
inductive Bm where | append | get1 | get2 | setd | upd
  deriving DecidableEq
/-- targets -/
inductive CT where | nm (i : Nat) | tp (ts : List CT)

mutual
inductive CE where
  | var (i : Nat) | con (v : PV) | glb (x : Str) (v : PV)
  | bin (op : Bop) (a b : CE) | neg (a : CE)
  | cmp (op : Cop) (a b : CE) | cmp2 (o p : Cop) (a b c : CE)
  | nt (a : CE) | and (a b : CE) | or (a b : CE) | ife (c a b : CE)
  | tup (es : List CE) | lstd (c : Bool) (es : List CE) | dctd (c t : Bool) (es : List CE)
  | idx (a i : CE) | slc (a : CE) (lo hi : Option CE) | rev (a : CE)
  | call (f : Nat) (es : List CE) | meth (f : Nat) (c m : Str) (o : CE) (es : List CE) | mk (f : Nat) (c : Str) (es : List CE)
  | bi (b : Bi) (es : List CE) | bm (m : Bm) (o : CE) (es : List CE) | isi (a : CE) (ts : List Ty)
  | fld (o : CE) (f : Str)
  | lc (c : Bool) (own : List Nat) (e : CE) (t : CT) (i : CI) (f : Option CE)
  | lcl (own : List Nat) (e : CE) (t : CT) (d : CE) (f : Option CE)
  | lc2 (c : Bool) (own own2 : List Nat) (e : CE) (t : CT) (i : CI) (f : Option CE) (t2 : CT) (i2 : CI) (f2 : Option CE)
  | dc (c s : Bool) (own : List Nat) (k v : CE) (t : CT) (i : CI) (f : Option CE)
  | dc2 (c s : Bool) (own own2 : List Nat) (k v : CE) (t : CT) (i : CI) (f : Option CE) (t2 : CT) (i2 : CI) (f2 : Option CE)
inductive CI where
  | seq (e : CE) | rng1 (a : CE) | rng2 (a b : CE) | enum (e : CE) | zip (a b : CE) | items (e : CE)
end

inductive CS where
  | ex (e : CE) | set (t : CT) (e : CE) | seti (o i e : CE) | setf (o : CE) (f : Str) (e : CE) | aug (i : Nat) (op : Bop) (e : CE)
  | ret (e : CE) | retN | ife (c : CE) (a b : List CS) | whl (c : CE) (b : List CS) | frr (t : CT) (i : CI) (b : List CS)
  | brk | cnt | pass | nev | frz (i : Nat)

/-- what the program's defs are worth, by their places in a table -/
abbrev Den := Nat → List PV → Store → Option (PV × Store)

/-! ### operations on values -/
def strLen (x : Str) : Nat := x.cps.size
def mkT (l : List PV) : Option PV := if l.length ≤ SZ then some (.tup l) else none
def mkL (c : Bool) (l : List PV) (st : Store) : Option (PV × Store) :=
  if l.length ≤ SZ then (if c then some (.loc st.length, st ++ [.lst l]) else some (.lst l, st)) else none
def mkD (c t : Bool) (kvs : List (PV × PV)) (st : Store) : PV × Store :=
  if c then (.loc st.length, st ++ [.dct t kvs]) else (.dct t kvs, st)
def mulOk (i j : Int) : Bool := decide (i.natAbs.log2 + j.natAbs.log2 < 1000000)
def binI : Bop → Int → Int → Option Int
  | .add, i, j => some (i + j)
  | .sub, i, j => some (i - j)
  | .mul, i, j => if mulOk i j then some (i * j) else none
  | .mod, i, j => if 0 < j then some (i % j) else none
  | .fdiv, i, j => if 0 < j ∧ j.natAbs.log2 < 9000 then some (i / j) else none
  | .pow, i, j => if 0 ≤ j ∧ j ≤ 1000000 ∧ i.natAbs < 2 ^ 64 then some (i ^ j.toNat) else none
def binP (op : Bop) (x y : PV) (st : Store) : Option PV :=
  match x, y with
  | .int i, .int j => (binI op i j).map .int
  | .tup a, .tup b => match op with
    | .add => if a.length + b.length ≤ SZ then some (.tup (a ++ b)) else none
    | _ => none
  | .str a, .str b => match op with
    | .add => if strLen a + strLen b ≤ SZ then some (.str (a ++ b)) else none
    | _ => none
  | x, .int k => match op, lstOf st x with
    | .mul, some a => if -(2 ^ 63) ≤ k ∧ k < 2 ^ 63 ∧ a.length * k.toNat ≤ SZ then some (.lst (List.replicate k.toNat a).flatten) else none
    | _, _ => none
  | x, y => match op, lstOf st x, lstOf st y with
    | .add, some a, some b => if a.length + b.length ≤ SZ then some (.lst (a ++ b)) else none
    | _, _, _ => none
/-- a cell that is a list, as the list's value -/
def dv (st : Store) : PV → PV
  | .loc n => match st[n]? with
    | some (.lst l) => .lst l
    | _ => .loc n
  | v => v
def both (x y : PV) : Bool := isD 30 x && isD 30 y
def inP (x y : PV) (st : Store) : Option Bool :=
  match dctOf st y with
  | some (t, kvs) => if kFor t x then some (look kvs x).isSome else none
  | none => none
def cmpP (op : Cop) (x y : PV) (st : Store) : Option Bool :=
  match op with
  | .eq => if both (dv st x) (dv st y) then some (eqv (dv st x) (dv st y)) else none
  | .ne => if both (dv st x) (dv st y) then some (!eqv (dv st x) (dv st y)) else none
  | .lt => match x, y with
    | .int i, .int j => some (decide (i < j))
    | x, y => if both x y && alk x y && !decide (x = .non) then some (ltP x y) else none
  | .le => match x, y with
    | .int i, .int j => some (decide (i ≤ j))
    | _, _ => none
  | .gt => match x, y with
    | .int i, .int j => some (decide (j < i))
    | _, _ => none
  | .ge => match x, y with
    | .int i, .int j => some (decide (j ≤ i))
    | _, _ => none
  | .is => match x, y with
    | .bl a, .bl b => some (decide (a = b))
    | x, .non => some (decide (x = .non))
    | _, _ => none
  | .isn => match x, y with
    | .bl a, .bl b => some (!decide (a = b))
    | x, .non => some (!decide (x = .non))
    | _, _ => none
  | .inn => inP x y st
  | .nin => (inP x y st).map not
def tyIs (st : Store) (v : PV) : Ty → Bool
  | .int => match v with | .int _ => true | .bl _ => true | _ => false
  | .bool => match v with | .bl _ => true | _ => false
  | .str => match v with | .str _ => true | _ => false
  | .tup => match v with | .tup _ => true | _ => false
  | .lst => (lstOf st v).isSome
  | .dct => (dctOf st v).isSome
/-- what isinstance knows -/
def tyOk (st : Store) : PV → Bool
  | .loc n => match st[n]? with
    | some (.lst _) => true
    | some (.dct _ _) => true
    | _ => false
  | .fz _ => false
  | _ => true
/-- the place of an index -/
def ixOf (n : Nat) (i : Int) : Option Nat := if 0 ≤ i then (if i < n then some i.toNat else none) else if -(n : Int) ≤ i then some (i + n).toNat else none
def idxP (x i : PV) (st : Store) : Option PV :=
  match dctOf st x with
  | some (t, kvs) => if kFor t i then look kvs i else none
  | none => match seqOf st x, i with
    | some l, .int j => (ixOf l.length j).bind fun k => l[k]?
    | _, _ => none
/-- the ends of a slice -/
def clip (n d : Nat) : Option Int → Nat
  | none => d
  | some v => if v < 0 then (v + (n : Int)).toNat else min v.toNat n
def cut {α : Type} (l : List α) (lo hi : Option Int) : List α := (l.drop (clip l.length 0 lo)).take (clip l.length l.length hi - clip l.length 0 lo)
def sliP : PV → Option (Option Int)
  | .int i => some (some i)
  | _ => none
def slcP (x : PV) (lo hi : Option Int) (st : Store) : Option PV :=
  match x with
  | .tup l => some (.tup (cut l lo hi))
  | x => match lstOf st x with
    | some l => some (.lst (cut l lo hi))
    | none => none
def blOf : PV → Option Bool
  | .bl b => some b
  | _ => none
def intsOf : List PV → Option (List Int)
  | [] => some []
  | .int i :: r => (intsOf r).map (i :: ·)
  | _ => none
def blsOf : List PV → Option (List Bool)
  | [] => some []
  | .bl b :: r => (blsOf r).map (b :: ·)
  | _ => none
def sortP (l : List PV) : List PV := l.mergeSort fun a b => !ltP b a
def sortable (l : List PV) : Bool := isDL 30 l && l.all (fun x => l.all fun y => alk x y) && (l.all (fun x => match x with | .tup (_ :: _) => true | _ => false) || l.all (fun x => match x with | .tup _ => false | .non => false | .lst _ => false | _ => true))
def biP (b : Bi) (vs : List PV) (st : Store) : Option PV :=
  match b, vs with
  | .len, [v] => match dctOf st v with
    | some (_, kvs) => some (.int kvs.length)
    | none => match v with
      | .str x => if strLen x ≤ SZ then some (.int (strLen x)) else none
      | v => (seqOf st v).map fun l => .int l.length
  | .int, [.int i] => some (.int i)
  | .int, [.bl b] => some (.int (if b then 1 else 0))
  | .abs, [.int i] => some (.int (if i < 0 then -i else i))
  | .max2, [.int i, .int j] => some (.int (if j > i then j else i))
  | .min2, [.int i, .int j] => some (.int (if j < i then j else i))
  | .tuple, [v] => match v with
    | .tup l => some (.tup l)
    | v => (lstOf st v).map .tup
  | .list, [v] => match dctOf st v with
    | some (_, kvs) => some (.lst (kvs.map (·.1)))
    | none => (seqOf st v).bind fun l => if l.length ≤ SZ then some (.lst l) else none
  | .sorted, [v] => match dctOf st v with
    | some (_, kvs) => if sortable (kvs.map (·.1)) then some (.lst (sortP (kvs.map (·.1)))) else none
    | none => (lstOf st v).bind fun l => if sortable l ∧ l.length ≤ SZ then some (.lst (sortP l)) else none
  | .all, [v] => (lstOf st v).bind fun l => (blsOf l).map fun bs => .bl (bs.all id)
  | .any, [v] => (lstOf st v).bind fun l => (blsOf l).map fun bs => .bl (bs.any id)
  | .sum, [v] => (lstOf st v).bind fun l => (intsOf l).map fun ns => .int ns.sum
  | _, _ => none
/-- short words: their hashes are all unlike -/
def smI (n : Int) : PV → Bool
  | .int i => decide (0 < i ∧ i < n)
  | _ => false
def smW : PV → Bool
  | .tup l => (decide (l.length ≤ 3) && l.all (smI 6)) || (decide (l.length ≤ 4) && l.all (smI 5))
  | _ => false
/-- the receiver's kind -/
def bmT (m : Bm) (o : PV) (st : Store) : Bool := match m with
  | .append => (lstOf st o).isSome
  | _ => (dctOf st o).isSome
def appP (o v : PV) (st : Store) : Option (PV × Store) := match o with
  | .loc n => match st[n]? with
    | some (.lst l) => if l.length < SZ then some (.non, st.set n (.lst (l ++ [v]))) else none
    | _ => none
  | _ => none
def getP (o k d : PV) (st : Store) : Option (PV × Store) := match dctOf st o with
  | some (t, kvs) => if kFor t k then some ((look kvs k).getD d, st) else none
  | none => none
def setdP (o k d : PV) (st : Store) : Option (PV × Store) := match o with
  | .loc n => match st[n]? with
    | some (.dct t kvs) => if kFor t k ∧ kvs.length < SZ then (match look kvs k with
      | some v => some (v, st)
      | none => some (d, st.set n (.dct t (put kvs k d)))) else none
    | _ => none
  | _ => none
def updP (o : PV) (t2 : Bool) (more : List (PV × PV)) (st : Store) : Option (PV × Store) := match o with
  | .loc n => match st[n]? with
    | some (.dct t kvs) => if t = t2 ∧ kvs.length + more.length ≤ SZ ∧ (t = false ∨ kvs ≠ [] ∨ more.all (fun p => smW p.1)) then some (.non, st.set n (.dct t (more.foldl (fun a p => put a p.1 p.2) kvs))) else none
    | _ => none
  | _ => none
def bmP (m : Bm) (o : PV) (vs : List PV) (st : Store) : Option (PV × Store) :=
  match m, vs with
  | .append, [v] => appP o v st
  | .get1, [k] => getP o k .non st
  | .get2, [k, d] => getP o k d st
  | .setd, [k, d] => setdP o k d st
  | .upd, [.dct t2 more] => updP o t2 more st
  | _, _ => none

/-! ### frames -/
def wipeF (fr : Fr) : List Nat → Fr
  | [] => fr
  | v :: vs => (wipeF fr vs).set v none
mutual
def asgT : CT → PV → Fr → Option Fr
  | .nm i, v, fr => if i < fr.length then some (fr.set i (some v)) else none
  | .tp ts, .tup vs, fr => if ts.length = vs.length then asgTs ts vs fr else none
  | .tp _, _, _ => none
def asgTs : List CT → List PV → Fr → Option Fr
  | [], [], fr => some fr
  | t :: ts, v :: vs, fr => (asgT t v fr).bind fun fr' => asgTs ts vs fr'
  | _, _, _ => none
end

def rngOk (a b : Int) : Bool := decide (-(2 ^ 62) ≤ a ∧ a < 2 ^ 62 ∧ -(2 ^ 62) ≤ b ∧ b < 2 ^ 62 ∧ (b - a).toNat ≤ SZ)
def rngL (a b : Int) : List PV := (List.range (b - a).toNat).map fun i => .int (a + (i : Nat))
def zipL : List PV → List PV → List PV
  | a :: r, b :: s => .tup [a, b] :: zipL r s
  | _, _ => []
def enumL (k : Nat) : List PV → List PV
  | [] => []
  | a :: r => .tup [.int k, a] :: enumL (k + 1) r

/-- one clause of a comprehension -/
def clL {α : Type} (step : PV → Store → Option (List α × Store)) : List PV → Store → Option (List α × Store)
  | [], st => some ([], st)
  | x :: xs, st => (step x st).bind fun (a, st1) => (clL step xs st1).map fun (b, st2) => (a ++ b, st2)
def putF (f : Str) (v : PV) : List (Str × PV) → List (Str × PV)
  | [] => [(f, v)]
  | p :: r => if p.1 = f then (f, v) :: r else p :: putF f v r
def prs : List PV → List (PV × PV)
  | a :: b :: r => (a, b) :: prs r
  | _ => []
def dctL (kvs : List (PV × PV)) : List (PV × PV) := kvs.foldl (fun a p => put a p.1 p.2) []

mutual
/-- no dict value in it -/
def noD : PV → Bool
  | .dct _ _ => false
  | .tup l => noDL l
  | .lst l => noDL l
  | .fz l => noDL l
  | _ => true
def noDL : List PV → Bool
  | [] => true
  | a :: r => noD a && noDL r
end
def noDC : Cell → Bool
  | .dead => true
  | .lst l => noDL l
  | .dct _ l => noDL (l.map (·.1)) && noDL (l.map (·.2))
  | .lck _ l => noDL (l.map (·.1)) && noDL (l.map (·.2))
  | .ins _ fs => noDL (fs.map (·.2))

variable (Φ : Den)
mutual
def ev : CE → Fr → Store → Option (PV × Store)
  | .var i, fr, st => match fr[i]? with
    | some (some v) => some (v, st)
    | _ => none
  | .con v, _, st => some (v, st)
  | .glb _ v, _, st => some (v, st)
  | .bin op a b, fr, st => (ev a fr st).bind fun (x, s1) => (ev b fr s1).bind fun (y, s2) => (binP op x y s2).map (·, s2)
  | .neg a, fr, st => (ev a fr st).bind fun (x, s1) => match x with
    | .int i => some (.int (-i), s1)
    | _ => none
  | .cmp op a b, fr, st => (ev a fr st).bind fun (x, s1) => (ev b fr s1).bind fun (y, s2) => (cmpP op x y s2).map fun c => (.bl c, s2)
  | .cmp2 o p a b c, fr, st => (ev a fr st).bind fun (x, s1) => (ev b fr s1).bind fun (y, s2) => (cmpP o x y s2).bind fun k =>
      if k then (ev c fr s2).bind fun (z, s3) => (cmpP p y z s3).map fun c => (.bl c, s3) else some (.bl false, s2)
  | .nt a, fr, st => (ev a fr st).bind fun (x, s1) => (blOf x).map fun c => (.bl (!c), s1)
  | .and a b, fr, st => (ev a fr st).bind fun (x, s1) => (blOf x).bind fun c => if c then ev b fr s1 else some (.bl false, s1)
  | .or a b, fr, st => (ev a fr st).bind fun (x, s1) => (blOf x).bind fun c => if c then some (.bl true, s1) else ev b fr s1
  | .ife c a b, fr, st => (ev c fr st).bind fun (x, s1) => (blOf x).bind fun k => if k then ev a fr s1 else ev b fr s1
  | .tup es, fr, st => (evs es fr st).bind fun (vs, s1) => (mkT vs).map (·, s1)
  | .lstd c es, fr, st => (evs es fr st).bind fun (vs, s1) => mkL c vs s1
  | .dctd c t es, fr, st => (evs es fr st).bind fun (vs, s1) => if (prs vs).all (fun p => kFor t p.1) ∧ vs.length ≤ 30 then some (mkD c t (dctL (prs vs)) s1) else none
  | .idx a i, fr, st => (ev a fr st).bind fun (x, s1) => (ev i fr s1).bind fun (y, s2) => (idxP x y s2).map (·, s2)
  | .slc a lo hi, fr, st => (ev a fr st).bind fun (x, s1) => (evo lo fr s1).bind fun (l, s2) => (evo hi fr s2).bind fun (h, s3) => (slcP x l h s3).map (·, s3)
  | .rev a, fr, st => (ev a fr st).bind fun (x, s1) => match x with
    | .tup l => some (.tup l.reverse, s1)
    | x => (lstOf s1 x).map fun l => (.lst l.reverse, s1)
  | .call f es, fr, st => (evs es fr st).bind fun (vs, s1) => Φ f vs s1
  | .meth f c m o es, fr, st => (ev o fr st).bind fun (x, s1) => match insOf s1 x with
    | some (c', fs) => if c' = c ∧ fs.lookup m = none then (evs es fr s1).bind fun (vs, s2) => Φ f (x :: vs) s2 else none
    | none => none
  | .mk f c es, fr, st => (evs es fr st).bind fun (vs, s1) => (Φ f (.loc s1.length :: vs) (s1 ++ [.ins c []])).bind fun (r, s2) => if r = .non then some (.loc s1.length, s2) else none
  | .bi b es, fr, st => (evs es fr st).bind fun (vs, s1) => (biP b vs s1).map (·, s1)
  | .bm m o es, fr, st => (ev o fr st).bind fun (x, s1) => if bmT m x s1 then (evs es fr s1).bind fun (vs, s2) => bmP m x vs s2 else none
  | .isi a ts, fr, st => (ev a fr st).bind fun (x, s1) => if tyOk s1 x then some (.bl (ts.any (tyIs s1 x)), s1) else none
  | .fld o f, fr, st => (ev o fr st).bind fun (x, s1) => match insOf s1 x with
    | some (_, fs) => (fs.lookup f).map (·, s1)
    | none => none
  | .lc c own e t i f, fr, st => (evi i fr st).bind fun (xs, s1) =>
      (clL (fun x s => (asgT t x (wipeF fr own)).bind fun fr1 => (evf f fr1 s).bind fun (k, s2) => if k then (ev e fr1 s2).map fun (v, s3) => ([v], s3) else some ([], s2)) xs s1).bind fun (vs, s2) => mkL c vs s2
  | .lcl own e t d f, fr, st => (ev d fr st).bind fun (x, s1) => match x with
    | .loc n => match s1[n]? with
      | some (.dct b kvs) => if s1.all noDC then
          (clL (fun x s => (asgT t x (wipeF fr own)).bind fun fr1 => (evf f fr1 s).bind fun (k, s2) => if k then (ev e fr1 s2).map fun (v, s3) => ([v], s3) else some ([], s2)) (kvs.map (·.1)) (s1.set n (.lck b kvs))).bind
            fun (vs, s2) => if s2 = s1.set n (.lck b kvs) ∧ noDL vs = true ∧ vs.length ≤ SZ then some (.lst vs, s1) else none
        else none
      | _ => none
    | _ => none
  | .lc2 c own own2 e t i f t2 i2 f2, fr, st => (evi i fr st).bind fun (xs, s1) =>
      (clL (fun x s => (asgT t x (wipeF fr own)).bind fun fr1 => (evf f fr1 s).bind fun (k, s2) => if k then (evi i2 fr1 s2).bind fun (ys, s3) =>
        clL (fun y s => (asgT t2 y (wipeF fr1 own2)).bind fun fr2 => (evf f2 fr2 s).bind fun (k, s4) => if k then (ev e fr2 s4).map fun (v, s5) => ([v], s5) else some ([], s4)) ys s3 else some ([], s2)) xs s1).bind fun (vs, s2) => mkL c vs s2
  | .dc c s own k v t i f, fr, st => (evi i fr st).bind fun (xs, s1) =>
      (clL (fun x s' => (asgT t x (wipeF fr own)).bind fun fr1 => (evf f fr1 s').bind fun (g, s2) => if g then (ev k fr1 s2).bind fun (a, s3) => (ev v fr1 s3).bind fun (b, s4) => if kFor s a then some ([(a, b)], s4) else none else some ([], s2)) xs s1).bind
        fun (kvs, s2) => if kvs.length ≤ SZ then some (mkD c s (dctL kvs) s2) else none
  | .dc2 c s own own2 k v t i f t2 i2 f2, fr, st => (evi i fr st).bind fun (xs, s1) =>
      (clL (fun x s' => (asgT t x (wipeF fr own)).bind fun fr1 => (evf f fr1 s').bind fun (g, s2) => if g then (evi i2 fr1 s2).bind fun (ys, s3) =>
        clL (fun y s' => (asgT t2 y (wipeF fr1 own2)).bind fun fr2 => (evf f2 fr2 s').bind fun (g, s4) => if g then (ev k fr2 s4).bind fun (a, s5) => (ev v fr2 s5).bind fun (b, s6) => if kFor s a then some ([(a, b)], s6) else none else some ([], s4)) ys s3
        else some ([], s2)) xs s1).bind fun (kvs, s2) => if kvs.length ≤ SZ then some (mkD c s (dctL kvs) s2) else none
def evs : List CE → Fr → Store → Option (List PV × Store)
  | [], _, st => some ([], st)
  | e :: es, fr, st => (ev e fr st).bind fun (v, s1) => (evs es fr s1).map fun (vs, s2) => (v :: vs, s2)
def evo : Option CE → Fr → Store → Option (Option Int × Store)
  | none, _, st => some (none, st)
  | some e, fr, st => (ev e fr st).bind fun (v, s1) => (sliP v).map (·, s1)
def evf : Option CE → Fr → Store → Option (Bool × Store)
  | none, _, st => some (true, st)
  | some e, fr, st => (ev e fr st).bind fun (v, s1) => (blOf v).map (·, s1)
def evi : CI → Fr → Store → Option (List PV × Store)
  | .seq e, fr, st => (ev e fr st).bind fun (v, s1) => match v with
    | .dct _ kvs => some (kvs.map (·.1), s1)
    | .tup l => some (l, s1)
    | .lst l => some (l, s1)
    | .fz l => some (l, s1)
    | _ => none
  | .rng1 a, fr, st => (ev a fr st).bind fun (v, s1) => match v with
    | .int n => if rngOk 0 n then some (rngL 0 n, s1) else none
    | _ => none
  | .rng2 a b, fr, st => (ev a fr st).bind fun (v, s1) => (ev b fr s1).bind fun (u, s2) => match v, u with
    | .int m, .int n => if rngOk m n then some (rngL m n, s2) else none
    | _, _ => none
  | .enum e, fr, st => (ev e fr st).bind fun (v, s1) => match v with
    | .tup l => some (enumL 0 l, s1)
    | .lst l => some (enumL 0 l, s1)
    | _ => none
  | .zip a b, fr, st => (ev a fr st).bind fun (v, s1) => (ev b fr s1).bind fun (u, s2) => match v, u with
    | .tup l, .tup m => some (zipL l m, s2)
    | .lst l, .lst m => some (zipL l m, s2)
    | _, _ => none
  | .items e, fr, st => (ev e fr st).bind fun (v, s1) => match v with
    | .dct _ kvs => some (kvs.map fun p => .tup [p.1, p.2], s1)
    | _ => none
end

inductive Fl where | nx | ret (v : PV) | brk | cnt

/-- a loop's turns -/
def frL (g : PV → Fr → Option Fr) (b : Fr → Store → Option (Fl × Fr × Store)) : List PV → Fr → Store → Option (Fl × Fr × Store)
  | [], fr, st => some (.nx, fr, st)
  | x :: xs, fr, st => (g x fr).bind fun fr1 => (b fr1 st).bind fun (f, fr2, s2) => match f with
    | .nx => frL g b xs fr2 s2
    | .cnt => frL g b xs fr2 s2
    | .brk => some (.nx, fr2, s2)
    | .ret v => some (.ret v, fr2, s2)
/-- so many turns of a while at most -/
def whN (c : Fr → Store → Option (Bool × Store)) (b : Fr → Store → Option (Fl × Fr × Store)) : Nat → Fr → Store → Option (Fl × Fr × Store)
  | 0, _, _ => none
  | n + 1, fr, st => (c fr st).bind fun (k, s1) => if k then (b fr s1).bind fun (f, fr2, s2) => match f with
    | .nx => whN c b n fr2 s2
    | .cnt => whN c b n fr2 s2
    | .brk => some (.nx, fr2, s2)
    | .ret v => some (.ret v, fr2, s2) else some (.nx, fr, s1)
theorem whN_mono {c : Fr → Store → Option (Bool × Store)} {b : Fr → Store → Option (Fl × Fr × Store)} : ∀ (n m : Nat) (fr : Fr) (st : Store) (r : Fl × Fr × Store), n ≤ m → whN c b n fr st = some r → whN c b m fr st = some r
  | 0, _, _, _, _, _, h => by simp [whN] at h
  | n + 1, 0, _, _, _, hm, _ => by omega
  | n + 1, m + 1, fr, st, r, hm, h => by
    rw [whN] at h ⊢
    cases hc : c fr st with
    | none => rw [hc] at h; simp at h
    | some p =>
      obtain ⟨k, s1⟩ := p
      rw [hc] at h
      simp only [Option.bind_some] at h ⊢
      cases k with
      | false => exact h
      | true =>
        simp only [if_true] at h ⊢
        cases hb : b fr s1 with
        | none => rw [hb] at h; simp at h
        | some q =>
          obtain ⟨f, fr2, s2⟩ := q
          rw [hb] at h
          simp only [Option.bind_some] at h ⊢
          cases f with
          | nx => exact whN_mono n m _ _ _ (by omega) h
          | cnt => exact whN_mono n m _ _ _ (by omega) h
          | brk => exact h
          | ret v => exact h
open Classical in
/-- a while, however many turns it takes -/
noncomputable def wh (c : Fr → Store → Option (Bool × Store)) (b : Fr → Store → Option (Fl × Fr × Store)) (fr : Fr) (st : Store) : Option (Fl × Fr × Store) :=
  if h : ∃ n r, whN c b n fr st = some r then some (Classical.choose (Classical.choose_spec h)) else none
theorem wh_of {c : Fr → Store → Option (Bool × Store)} {b : Fr → Store → Option (Fl × Fr × Store)} {fr : Fr} {st : Store} {n : Nat} {r : Fl × Fr × Store} (h : whN c b n fr st = some r) : wh c b fr st = some r := by
  unfold wh
  have hx : ∃ n r, whN c b n fr st = some r := ⟨n, r, h⟩
  rw [dif_pos hx]
  have h2 := Classical.choose_spec (Classical.choose_spec hx)
  have h3 := whN_mono _ (max n (Classical.choose hx)) _ _ _ (Nat.le_max_right _ _) h2
  have h4 := whN_mono _ (max n (Classical.choose hx)) _ _ _ (Nat.le_max_left _ _) h
  rw [h4] at h3
  exact h3.symm
theorem wh_ex {c : Fr → Store → Option (Bool × Store)} {b : Fr → Store → Option (Fl × Fr × Store)} {fr : Fr} {st : Store} {r : Fl × Fr × Store} (h : wh c b fr st = some r) : ∃ n, whN c b n fr st = some r := by
  unfold wh at h
  split at h
  · rename_i hx
    refine ⟨Classical.choose hx, ?_⟩
    have h2 := Classical.choose_spec (Classical.choose_spec hx)
    rw [← Option.some.inj h]
    exact h2
  · cases h
/-- one turn -/
theorem wh_step {c : Fr → Store → Option (Bool × Store)} {b : Fr → Store → Option (Fl × Fr × Store)} {fr : Fr} {st : Store} : wh c b fr st = (c fr st).bind fun (k, s1) => if k then (b fr s1).bind fun (f, fr2, s2) => match f with
    | .nx => wh c b fr2 s2
    | .cnt => wh c b fr2 s2
    | .brk => some (.nx, fr2, s2)
    | .ret v => some (.ret v, fr2, s2) else some (.nx, fr, s1) := by
  have key : ∀ r, wh c b fr st = some r ↔ ((c fr st).bind fun (k, s1) => if k then (b fr s1).bind fun (f, fr2, s2) => match f with
    | .nx => wh c b fr2 s2
    | .cnt => wh c b fr2 s2
    | .brk => some (.nx, fr2, s2)
    | .ret v => some (.ret v, fr2, s2) else some (.nx, fr, s1)) = some r := by
    intro r
    constructor
    · intro h
      obtain ⟨n, hn⟩ := wh_ex h
      cases n with
      | zero => simp [whN] at hn
      | succ n =>
        rw [whN] at hn
        cases hc : c fr st with
        | none => rw [hc] at hn; simp at hn
        | some p =>
          obtain ⟨k, s1⟩ := p
          rw [hc] at hn
          simp only [Option.bind_some] at hn ⊢
          cases k with
          | false => exact hn
          | true =>
            simp only [if_true] at hn ⊢
            cases hb : b fr s1 with
            | none => rw [hb] at hn; simp at hn
            | some q =>
              obtain ⟨f, fr2, s2⟩ := q
              rw [hb] at hn
              simp only [Option.bind_some] at hn ⊢
              cases f with
              | nx => exact wh_of hn
              | cnt => exact wh_of hn
              | brk => exact hn
              | ret v => exact hn
    · intro h
      cases hc : c fr st with
      | none => rw [hc] at h; simp at h
      | some p =>
        obtain ⟨k, s1⟩ := p
        rw [hc] at h
        simp only [Option.bind_some] at h
        cases k with
        | false =>
          refine wh_of (n := 1) ?_
          rw [whN, hc]
          exact h
        | true =>
          simp only [if_true] at h
          cases hb : b fr s1 with
          | none => rw [hb] at h; simp at h
          | some q =>
            obtain ⟨f, fr2, s2⟩ := q
            rw [hb] at h
            simp only [Option.bind_some] at h
            cases f with
            | nx =>
              obtain ⟨n, hn⟩ := wh_ex h
              refine wh_of (n := n + 1) ?_
              rw [whN, hc]
              simp only [Option.bind_some, if_true, hb]
              exact hn
            | cnt =>
              obtain ⟨n, hn⟩ := wh_ex h
              refine wh_of (n := n + 1) ?_
              rw [whN, hc]
              simp only [Option.bind_some, if_true, hb]
              exact hn
            | brk =>
              refine wh_of (n := 1) ?_
              rw [whN, hc]
              simp only [Option.bind_some, if_true, hb]
              exact h
            | ret v =>
              refine wh_of (n := 1) ?_
              rw [whN, hc]
              simp only [Option.bind_some, if_true, hb]
              exact h
  cases e : wh c b fr st with
  | none =>
    cases e2 : ((c fr st).bind fun (k, s1) => if k then (b fr s1).bind fun (f, fr2, s2) => match f with
    | .nx => wh c b fr2 s2
    | .cnt => wh c b fr2 s2
    | .brk => some (.nx, fr2, s2)
    | .ret v => some (.ret v, fr2, s2) else some (.nx, fr, s1)) with
    | none => rfl
    | some r => rw [(key r).mpr e2] at e; cases e
  | some r => exact ((key r).mp e).symm

/-- all of a list's values -/
def frzL (f : PV → Store → Option (PV × Store)) : List PV → Store → Option (List PV × Store)
  | [], st => some ([], st)
  | a :: r, st => (f a st).bind fun (b, s1) => (frzL f r s1).map fun (c, s2) => (b :: c, s2)
def frzD (f : PV → Store → Option (PV × Store)) : List (PV × PV) → Store → Option (List (PV × PV) × Store)
  | [], st => some ([], st)
  | a :: r, st => (f a.2 st).bind fun (b, s1) => (frzD f r s1).map fun (c, s2) => ((a.1, b) :: c, s2)
/-- a value without cells: the cells in it are taken out of the store -/
def frzV : Nat → PV → Store → Option (PV × Store)
  | 0, _, _ => none
  | k + 1, v, st => match v with
    | .loc n => match st[n]? with
      | some (.lst l) => (frzL (frzV k) l (st.set n .dead)).map fun (m, s1) => (.lst m, s1)
      | some (.dct t l) => (frzD (frzV k) l (st.set n .dead)).map fun (m, s1) => (.dct t m, s1)
      | _ => none
    | .tup l => (frzL (frzV k) l st).map fun (m, s1) => (.tup m, s1)
    | .lst l => (frzL (frzV k) l st).map fun (m, s1) => (.lst m, s1)
    | .dct t l => (frzD (frzV k) l st).map fun (m, s1) => (.dct t m, s1)
    | v => some (v, st)

noncomputable section
mutual
def ex : CS → Fr → Store → Option (Fl × Fr × Store)
  | .ex e, fr, st => (ev Φ e fr st).map fun (_, s1) => (.nx, fr, s1)
  | .set t e, fr, st => (ev Φ e fr st).bind fun (v, s1) => (asgT t v fr).map fun fr1 => (.nx, fr1, s1)
  | .seti o i e, fr, st => (ev Φ e fr st).bind fun (v, s1) => (ev Φ o fr s1).bind fun (x, s2) => (ev Φ i fr s2).bind fun (k, s3) => match x with
    | .loc n => match s3[n]? with
      | some (.dct t kvs) => if kFor t k ∧ kvs.length < SZ then some (.nx, fr, s3.set n (.dct t (put kvs k v))) else none
      | some (.lst l) => match k with
        | .int j => (ixOf l.length j).map fun m => (.nx, fr, s3.set n (.lst (l.set m v)))
        | _ => none
      | _ => none
    | _ => none
  | .setf o f e, fr, st => (ev Φ e fr st).bind fun (v, s1) => (ev Φ o fr s1).bind fun (x, s2) => match x with
    | .loc n => match s2[n]? with
      | some (.ins c fs) => if fs.length < 1000 then some (.nx, fr, s2.set n (.ins c (putF f v fs))) else none
      | _ => none
    | _ => none
  | .aug i op e, fr, st => match fr[i]? with
    | some (some x) => (ev Φ e fr st).bind fun (v, s1) => (binP op x v s1).bind fun r => match x with
      | .loc _ => none
      | .lst _ => none
      | _ => some (.nx, fr.set i (some r), s1)
    | _ => none
  | .ret e, fr, st => (ev Φ e fr st).map fun (v, s1) => (.ret v, fr, s1)
  | .retN, fr, st => some (.ret .non, fr, st)
  | .ife c a b, fr, st => (ev Φ c fr st).bind fun (v, s1) => (blOf v).bind fun k => if k then exs a fr s1 else exs b fr s1
  | .whl c b, fr, st => wh (fun fr st => (ev Φ c fr st).bind fun (v, s1) => (blOf v).map (·, s1)) (fun fr st => exs b fr st) fr st
  | .frr t i b, fr, st => (evi Φ i fr st).bind fun (xs, s1) => frL (asgT t) (fun fr st => exs b fr st) xs fr s1
  | .brk, fr, st => some (.brk, fr, st)
  | .cnt, fr, st => some (.cnt, fr, st)
  | .pass, fr, st => some (.nx, fr, st)
  | .nev, _, _ => none
  | .frz i, fr, st => match fr[i]? with
    | some (some v) => (frzV 30 v st).map fun (u, s1) => (.nx, fr.set i (some u), s1)
    | _ => none
def exs : List CS → Fr → Store → Option (Fl × Fr × Store)
  | [], fr, st => some (.nx, fr, st)
  | c :: cs, fr, st => (ex c fr st).bind fun (f, fr1, s1) => match f with
    | .nx => exs cs fr1 s1
    | .cnt => some (.cnt, fr1, s1)
    | .brk => some (.brk, fr1, s1)
    | .ret v => some (.ret v, fr1, s1)
end
/-- the value of a def's body -/
def runB (body : List CS) (fr : Fr) (st : Store) : Option (PV × Store) := (exs Φ body fr st).bind fun (f, _, s1) => match f with
  | .ret v => some (v, s1)
  | .nx => some (.non, s1)
  | _ => none
end
mutual
/-- no cell in it -/
def lf : PV → Bool
  | .tup l => lfL l
  | .lst l => lfL l
  | .fz l => lfL l
  | .dct _ l => lfD l
  | .loc _ => false
  | _ => true
def lfL : List PV → Bool
  | [] => true
  | a :: r => lf a && lfL r
def lfD : List (PV × PV) → Bool
  | [] => true
  | (a, b) :: r => lf a && lf b && lfD r
end
/-- a def: np parameters, ns names; own: it sees no cell from outside, and hands none back -/
structure Fn where
  own : Bool
  np : Nat
  ns : Nat
  body : List CS
noncomputable def denF (Φ : Den) (f : Fn) : List PV → Store → Option (PV × Store) := fun vs st =>
  if vs.length = f.np then
    if f.own then (if lfL vs then (runB Φ f.body (vs.map some ++ List.replicate (f.ns - f.np) none) []).bind fun (v, _) => if lf v then some (v, st) else none else none)
    else runB Φ f.body (vs.map some ++ List.replicate (f.ns - f.np) none) st
  else none
def Den.ext (Φ : Den) (n : Nat) (d : List PV → Store → Option (PV × Store)) : Den := fun i => if i = n then d else Φ i
def Den.nil : Den := fun _ _ _ => none
end Pv
end

section
set_option Elab.async false
set_option linter.all false
set_option maxRecDepth 100000
set_option autoImplicit false
namespace Pv
open PySem PySem.Spec PyProof.Rows L2

/-- a dict's object, as it is -/
def dHO (a : Addr) (o : Obj) : HO := .ext fun h => h.get? a = some o
mutual
def nk : PV → NestedKey
  | .int i => .num i
  | .str x => .text x
  | .tup l => .tup (nkL l)
  | _ => .none
def nkL : List PV → List NestedKey
  | [] => []
  | a :: r => nk a :: nkL r
end

section
variable (K : PySem.W.Frag) (w : World) (F : Hp) (mu : List Addr)
mutual
/-- the value x stands for v: F the objects that never change again, mu the cells' addresses -/
inductive Rep : PV → V → Prop where
  | non : Rep .non .non
  | bl (b : Bool) : Rep (.bl b) (.bl b)
  | int (i : Int) : Rep (.int i) (.int i)
  | str (x : Str) : Rep (.str x) (.str x)
  | tup {l : List PV} {p : Addr} {xs : List V} (h : SqT K F p xs) (r : RepL l xs) : Rep (.tup l) (.ref p)
  | lst {l : List PV} {p : Addr} {xs : List V} (h : F p = some (.lst xs)) (r : RepL l xs) : Rep (.lst l) (.ref p)
  | fz {l : List PV} {p : Addr} {xs : List V} (h : SqL K F p xs) (r : RepL l xs) : Rep (.fz l) (.ref p)
  | dct {t : Bool} {kvs : List (PV × PV)} {p : Addr} {o : Obj} {es : Array DictEntry} {ep : Nat} (h : F p = some (dHO p o)) (ho : o.ExactDict) (hd : o.data = .dict es ep) (hs : (p == sysModules) = false) (hz : kvs.length ≤ SZ)
      (hn : (kvs.map (·.1)).Nodup) (r : Ents t kvs es.toList) : Rep (.dct t kvs) (.ref p)
  | loc {n : Nat} {p : Addr} (h : mu[n]? = some p) : Rep (.loc n) (.ref p)
inductive RepL : List PV → List V → Prop where
  | nil : RepL [] []
  | cons {v : PV} {x : V} {l : List PV} {xs : List V} (h : Rep v x) (r : RepL l xs) : RepL (v :: l) (x :: xs)
inductive Ents : Bool → List (PV × PV) → List DictEntry → Prop where
  | nil (t : Bool) : Ents t [] []
  | cons {t : Bool} {k v : PV} {e : DictEntry} {kvs : List (PV × PV)} {es : List DictEntry} {xk xv : V} (hk : kFor t k = true) (hh : e.hash = (nk k).hash w) (rk : RelV xk e.key) (pk : Rep k xk) (rv : RelV xv e.val) (pv : Rep v xv) (r : Ents t kvs es) : Ents t ((k, v) :: kvs) (e :: es)
end
end

/-- the heap of what never changes grows, and so do the cells -/
structure Ext (F : Hp) (mu : List Addr) (F' : Hp) (mu' : List Addr) : Prop where
  sub : ∀ a o, F a = some o → F' a = some o
  pre : ∀ (n : Nat) a, mu[n]? = some a → mu'[n]? = some a
theorem Ext.refl {F : Hp} {mu : List Addr} : Ext F mu F mu := ⟨fun _ _ h => h, fun _ _ h => h⟩
section
variable {K : PySem.W.Frag} {w : World} {F F' : Hp} {mu mu' : List Addr}
theorem Ext.sqT (e : Ext F mu F' mu') {p : Addr} {xs : List V} (h : SqT K F p xs) : SqT K F' p xs := by
  rcases h with (h | ⟨o, h⟩) | h
  · exact .inl (.inl (e.sub _ _ h))
  · exact .inl (.inr ⟨o, e.sub _ _ h⟩)
  · exact .inr h
theorem Ext.sqL (e : Ext F mu F' mu') {p : Addr} {xs : List V} (h : SqL K F p xs) : SqL K F' p xs := by
  rcases h with (h | ⟨o, h⟩) | h
  · exact .inl (.inl (e.sub _ _ h))
  · exact .inl (.inr ⟨o, e.sub _ _ h⟩)
  · exact .inr h
mutual
theorem Rep.mono (e : Ext F mu F' mu') : ∀ {v : PV} {x : V}, Rep K w F mu v x → Rep K w F' mu' v x
  | _, _, .non => .non
  | _, _, .bl b => .bl b
  | _, _, .int i => .int i
  | _, _, .str x => .str x
  | _, _, .tup h r => .tup (e.sqT h) (RepL.mono e r)
  | _, _, .lst h r => .lst (e.sub _ _ h) (RepL.mono e r)
  | _, _, .fz h r => .fz (e.sqL h) (RepL.mono e r)
  | _, _, .dct h ho hd hs hz hn r => .dct (e.sub _ _ h) ho hd hs hz hn (Ents.mono e r)
  | _, _, .loc h => .loc (e.pre _ _ h)
theorem RepL.mono (e : Ext F mu F' mu') : ∀ {v : List PV} {x : List V}, RepL K w F mu v x → RepL K w F' mu' v x
  | _, _, .nil => .nil
  | _, _, .cons h r => .cons (Rep.mono e h) (RepL.mono e r)
theorem Ents.mono (e : Ext F mu F' mu') : ∀ {t : Bool} {kvs : List (PV × PV)} {es : List DictEntry}, Ents K w F mu t kvs es → Ents K w F' mu' t kvs es
  | _, _, _, .nil t => .nil t
  | _, _, _, .cons hk hh rk pk rv pv r => .cons hk hh rk (Rep.mono e pk) rv (Rep.mono e pv) (Ents.mono e r)
end
theorem RepL.length : ∀ {v : List PV} {x : List V}, RepL K w F mu v x → v.length = x.length
  | _, _, .nil => rfl
  | _, _, .cons h r => by rw [List.length_cons, List.length_cons, RepL.length r]
theorem RepL.get : ∀ {l : List PV} {xs : List V} {i : Nat} {v : PV}, RepL K w F mu l xs → l[i]? = some v → ∃ x, xs[i]? = some x ∧ Rep K w F mu v x
  | _, _, 0, _, .cons h _, e => ⟨_, rfl, by simp at e; exact e ▸ h⟩
  | _, _, i + 1, v, .cons _ r, e => by
    obtain ⟨x, h1, h2⟩ := RepL.get (i := i) r (by simpa using e)
    exact ⟨x, by simpa using h1, h2⟩
  | _, _, _, _, .nil, e => by simp at e
theorem RepL.get' : ∀ {l : List PV} {xs : List V} {i : Nat} {x : V}, RepL K w F mu l xs → xs[i]? = some x → ∃ v, l[i]? = some v ∧ Rep K w F mu v x
  | _, _, 0, _, .cons h _, e => ⟨_, rfl, by simp at e; exact e ▸ h⟩
  | _, _, i + 1, v, .cons _ r, e => by
    obtain ⟨x, h1, h2⟩ := RepL.get' (i := i) r (by simpa using e)
    exact ⟨x, by simpa using h1, h2⟩
  | _, _, _, _, .nil, e => by simp at e
theorem RepL.append : ∀ {l m : List PV} {xs ys : List V}, RepL K w F mu l xs → RepL K w F mu m ys → RepL K w F mu (l ++ m) (xs ++ ys)
  | _, _, _, _, .nil, h => h
  | _, _, _, _, .cons h r, h' => .cons h (RepL.append r h')
theorem RepL.take : ∀ {l : List PV} {xs : List V} (n : Nat), RepL K w F mu l xs → RepL K w F mu (l.take n) (xs.take n)
  | _, _, 0, _ => by simp; exact .nil
  | _, _, _ + 1, .nil => by simp; exact .nil
  | _, _, n + 1, .cons h r => by simp only [List.take_succ_cons]; exact .cons h (RepL.take n r)
theorem RepL.drop : ∀ {l : List PV} {xs : List V} (n : Nat), RepL K w F mu l xs → RepL K w F mu (l.drop n) (xs.drop n)
  | _, _, 0, h => h
  | _, _, _ + 1, .nil => by simp; exact .nil
  | _, _, n + 1, .cons _ r => by simp only [List.drop_succ_cons]; exact RepL.drop n r
theorem RepL.reverse {l : List PV} {xs : List V} (h : RepL K w F mu l xs) : RepL K w F mu l.reverse xs.reverse := by
  have key : ∀ (l : List PV) (xs : List V), RepL K w F mu l xs → ∀ m ys, RepL K w F mu m ys → RepL K w F mu (l.reverse ++ m) (xs.reverse ++ ys) := by
    intro l
    induction l with
    | nil => intro xs h m ys h'; cases h; exact h'
    | cons a r ih =>
      intro xs h m ys h'
      cases h with
      | cons h1 h2 =>
        rw [List.reverse_cons, List.reverse_cons, List.append_assoc, List.append_assoc]
        exact ih _ h2 _ _ (.cons h1 h')
  simpa using key l xs h [] [] .nil
theorem RepL.set : ∀ {l : List PV} {xs : List V} (n : Nat) {v : PV} {x : V}, RepL K w F mu l xs → Rep K w F mu v x → RepL K w F mu (l.set n v) (xs.set n x)
  | _, _, _, _, _, .nil, _ => .nil
  | _, _, 0, _, _, .cons _ r, h => .cons h r
  | _, _, n + 1, _, _, .cons h r, h' => .cons h (RepL.set n r h')
end

/-- attributes -/
inductive Flds (K : PySem.W.Frag) (w : World) (F : Hp) (mu : List Addr) : List (Str × PV) → List (Str × V) → Prop where
  | nil : Flds K w F mu [] []
  | cons {f : Str} {v : PV} {x : V} {l : List (Str × PV)} {xs : List (Str × V)} (h : Rep K w F mu v x) (r : Flds K w F mu l xs) : Flds K w F mu ((f, v) :: l) ((f, x) :: xs)
section
variable {K : PySem.W.Frag} {w : World} {F F' : Hp} {mu mu' : List Addr}
theorem Flds.mono (e : Ext F mu F' mu') : ∀ {v : List (Str × PV)} {x : List (Str × V)}, Flds K w F mu v x → Flds K w F' mu' v x
  | _, _, .nil => .nil
  | _, _, .cons h r => .cons (h.mono e) (Flds.mono e r)
theorem Flds.look : ∀ {l : List (Str × PV)} {xs : List (Str × V)} {f : Str} {v : PV}, Flds K w F mu l xs → l.lookup f = some v → ∃ x, xs.lookup f = some x ∧ Rep K w F mu v x
  | _, _, f, v, .nil, e => by simp at e
  | (g, _) :: _, _, f, v, .cons h r, e => by
    rw [List.lookup_cons] at e ⊢
    cases hb : f == g with
    | true => rw [hb] at e; simp at e; exact ⟨_, by simp, e ▸ h⟩
    | false => rw [hb] at e; simp only at e ⊢; exact Flds.look r e
theorem Flds.look_none : ∀ {l : List (Str × PV)} {xs : List (Str × V)} {f : Str}, Flds K w F mu l xs → l.lookup f = none → xs.lookup f = none
  | _, _, f, .nil, e => rfl
  | (g, _) :: _, _, f, .cons h r, e => by
    rw [List.lookup_cons] at e ⊢
    cases hb : f == g with
    | true => rw [hb] at e; simp at e
    | false => rw [hb] at e; simp only at e ⊢; exact Flds.look_none r e
theorem Flds.length : ∀ {v : List (Str × PV)} {x : List (Str × V)}, Flds K w F mu v x → v.length = x.length
  | _, _, .nil => rfl
  | _, _, .cons h r => by rw [List.length_cons, List.length_cons, Flds.length r]
theorem Flds.put {f : Str} {v : PV} {x : V} (h : Rep K w F mu v x) : ∀ {l : List (Str × PV)} {xs : List (Str × V)}, Flds K w F mu l xs → Flds K w F mu (Pv.putF f v l) (L2.putF f x xs)
  | _, _, .nil => .cons h .nil
  | (g, _) :: _, _, .cons h' r => by
    unfold Pv.putF L2.putF
    by_cases e : g = f
    · simp only [e, if_true]; exact .cons h r
    · simp only [e, if_false]; exact .cons h' (Flds.put h r)
end

/-- what stands at a cell's address -/
def CellR (K : PySem.W.Frag) (w : World) (ca : Str → Option Addr) (F : Hp) (mu : List Addr) (a : Addr) : Cell → HO → Prop
  | .dead, _ => True
  | .lst l, o => ∃ xs, o = .lst xs ∧ RepL K w F mu l xs
  | .dct t kvs, o => ∃ (ob : Obj) (es : Array DictEntry) (ep : Nat), o = dHO a ob ∧ ob.ExactDict ∧ ob.data = .dict es ep ∧ (a == sysModules) = false ∧ kvs.length ≤ SZ ∧ (kvs.map (·.1)).Nodup ∧ Ents K w F mu t kvs es.toList
  | .lck t kvs, o => ∃ (ob : Obj) (es : Array DictEntry) (ep : Nat), o = dHO a ob ∧ ob.ExactDict ∧ ob.data = .dict es ep ∧ (a == sysModules) = false ∧ kvs.length ≤ SZ ∧ (kvs.map (·.1)).Nodup ∧ Ents K w F mu t kvs es.toList
  | .ins c fs, o => ∃ (C dx : Addr) (gs : List (Str × V)), ca c = some C ∧ o = .ins C dx gs ∧ Flds K w F mu fs gs
theorem CellR.mono {K : PySem.W.Frag} {w : World} {ca : Str → Option Addr} {F F' : Hp} {mu mu' : List Addr} (e : Ext F mu F' mu') {a : Addr} {c : Cell} {o : HO} (h : CellR K w ca F mu a c o) : CellR K w ca F' mu' a c o := by
  cases c with
  | dead => trivial
  | lst l => obtain ⟨xs, e1, r⟩ := h; exact ⟨xs, e1, r.mono e⟩
  | dct t kvs => obtain ⟨ob, es, ep, e1, e2, e3, e4, e5, e6, r⟩ := h; exact ⟨ob, es, ep, e1, e2, e3, e4, e5, e6, r.mono e⟩
  | lck t kvs => obtain ⟨ob, es, ep, e1, e2, e3, e4, e5, e6, r⟩ := h; exact ⟨ob, es, ep, e1, e2, e3, e4, e5, e6, r.mono e⟩
  | ins c fs => obtain ⟨C, dx, gs, e1, e2, r⟩ := h; exact ⟨C, dx, gs, e1, e2, r.mono e⟩

/-- the abstract heap holds the store -/
structure Hold (K : PySem.W.Frag) (w : World) (ca : Str → Option Addr) (F : Hp) (mu : List Addr) (H : Hp) (st : Store) : Prop where
  len : mu.length = st.length
  nd : mu.Nodup
  there : ∀ a ∈ mu, ∃ o, H a = some o
  fz : ∀ a o, F a = some o → H a = some o ∧ ∀ n : Nat, mu[n]? = some a → ∃ c : Cell, st[n]? = some c ∧ c.still = true
  cl : ∀ (n : Nat) a c, mu[n]? = some a → st[n]? = some c → ∃ o, H a = some o ∧ CellR K w ca F mu a c o
/-- what a piece of code leaves -/
structure Le (F : Hp) (mu : List Addr) (H : Hp) (F' : Hp) (mu' : List Addr) (H' : Hp) : Prop where
  ext : Ext F mu F' mu'
  new : ∀ a o, F' a = some o → F a = some o ∨ H a = none ∨ a ∈ mu
  newm : ∀ a ∈ mu', a ∈ mu ∨ H a = none
  keep : ∀ a o, H a = some o → a ∉ mu → H' a = some o
  stay : ∀ a o, H a = some o → ∃ o', H' a = some o'
theorem Le.refl {F : Hp} {mu : List Addr} {H : Hp} : Le F mu H F mu H := ⟨.refl, fun _ _ h => .inl h, fun _ h => .inl h, fun _ _ h _ => h, fun _ o h => ⟨o, h⟩⟩
theorem Ext.trans {F F1 F2 : Hp} {mu mu1 mu2 : List Addr} (a : Ext F mu F1 mu1) (b : Ext F1 mu1 F2 mu2) : Ext F mu F2 mu2 := ⟨fun x o h => b.sub x o (a.sub x o h), fun n x h => b.pre n x (a.pre n x h)⟩
theorem Le.trans {F F1 F2 : Hp} {mu mu1 mu2 : List Addr} {H H1 H2 : Hp} (a : Le F mu H F1 mu1 H1) (b : Le F1 mu1 H1 F2 mu2 H2) : Le F mu H F2 mu2 H2 := by
  have back : ∀ x, H1 x = none → H x = none := fun x h => by
    cases q : H x with
    | none => rfl
    | some o => obtain ⟨o', e⟩ := a.stay x o q; rw [h] at e; cases e
  refine ⟨a.ext.trans b.ext, fun x o h => ?_, fun x h => ?_, fun x o h hn => ?_, fun x o h => ?_⟩
  · rcases b.new x o h with h | h | h
    · exact a.new x o h
    · exact .inr (.inl (back x h))
    · rcases a.newm x h with h | h
      · exact .inr (.inr h)
      · exact .inr (.inl h)
  · rcases b.newm x h with h | h
    · exact a.newm x h
    · exact .inr (back x h)
  · refine b.keep x o (a.keep x o h hn) fun hm => ?_
    rcases a.newm x hm with z | z
    · exact hn z
    · rw [h] at z; cases z
  · obtain ⟨o', e⟩ := a.stay x o h
    exact b.stay x o' e

section
variable {K : PySem.W.Frag} {w : World} {ca : Str → Option Addr} {F : Hp} {mu : List Addr} {H : Hp} {st : Store}
theorem Hold.notmem (G : Hold K w ca F mu H st) {p : Addr} (h : H p = none) : p ∉ mu := fun m => by
  obtain ⟨o, e⟩ := G.there p m; rw [h] at e; cases e
theorem Hold.noF (G : Hold K w ca F mu H st) {p : Addr} (h : H p = none) : F p = none := by
  cases q : F p with
  | none => rfl
  | some o => have := (G.fz p o q).1; rw [h] at this; cases this
/-- a new object of one's own, not told to the store -/
theorem Hold.aside (G : Hold K w ca F mu H st) {p : Addr} (h : H p = none) (o : HO) : Hold K w ca F mu (upd H p o) st ∧ Le F mu H F mu (upd H p o) := by
  have ne : ∀ b u, H b = some u → b ≠ p := fun b u e => ne_of_none e h
  have kp : ∀ b u, H b = some u → upd H p o b = some u := fun b u e => by rw [upd_ne (ne b u e)]; exact e
  exact ⟨⟨G.len, G.nd, fun a m => let ⟨u, e⟩ := G.there a m; ⟨u, kp _ _ e⟩, fun a u e => ⟨kp _ _ (G.fz a u e).1, (G.fz a u e).2⟩, fun n a c e1 e2 => let ⟨u, e3, e4⟩ := G.cl n a c e1 e2; ⟨u, kp _ _ e3, e4⟩⟩,
    ⟨.refl, fun _ _ e => .inl e, fun _ e => .inl e, fun _ _ e _ => kp _ _ e, fun _ u e => ⟨u, kp _ _ e⟩⟩⟩
/-- .. which never changes again -/
theorem Hold.frozen (G : Hold K w ca F mu H st) {p : Addr} {o : HO} (hp : H p = some o) (hm : p ∉ mu) (hF : F p = none) : Hold K w ca (upd F p o) mu H st ∧ Ext F mu (upd F p o) mu := by
  have ex : Ext F mu (upd F p o) mu := ⟨fun b u e => by rw [upd_ne (ne_of_none e hF)]; exact e, fun _ _ e => e⟩
  refine ⟨⟨G.len, G.nd, G.there, fun a u e => ?_, fun n a c e1 e2 => let ⟨u, e3, e4⟩ := G.cl n a c e1 e2; ⟨u, e3, e4.mono ex⟩⟩, ex⟩
  by_cases h : a = p
  · subst h; rw [upd_same] at e; cases e
    exact ⟨hp, fun n e => absurd (List.mem_of_getElem? e) hm⟩
  · rw [upd_ne h] at e; exact G.fz a u e
theorem Hold.laid (G : Hold K w ca F mu H st) {p : Addr} (h : H p = none) (o : HO) : Hold K w ca (upd F p o) mu (upd H p o) st ∧ Le F mu H (upd F p o) mu (upd H p o) := by
  obtain ⟨G1, L1⟩ := G.aside h o
  obtain ⟨G2, E2⟩ := G1.frozen (p := p) (o := o) upd_same (G.notmem h) (G.noF h)
  refine ⟨G2, ⟨E2, fun a u e => ?_, L1.newm, L1.keep, L1.stay⟩⟩
  by_cases q : a = p
  · exact .inr (.inl (q ▸ h))
  · rw [upd_ne q] at e; exact .inl e
/-- .. which becomes a cell -/
theorem Hold.cell (G : Hold K w ca F mu H st) {p : Addr} {o : HO} {c : Cell} (hp : H p = some o) (hm : p ∉ mu) (hF : F p = none) (hc : CellR K w ca F mu p c o) : Hold K w ca F (mu ++ [p]) H (st ++ [c]) ∧ Ext F mu F (mu ++ [p]) := by
  have ex : Ext F mu F (mu ++ [p]) := ⟨fun _ _ e => e, fun n a e => by rw [List.getElem?_append_left (List.getElem?_eq_some_iff.mp e).1]; exact e⟩
  refine ⟨⟨by simp [G.len], List.nodup_append.mpr ⟨G.nd, by simp, fun a ha b hb e => hm ?_⟩, fun a m => ?_, fun a u e => ⟨(G.fz a u e).1, fun n e1 => ?_⟩, fun n a c' e1 e2 => ?_⟩, ex⟩
  · simp at hb; rw [← hb, ← e]; exact ha
  · rcases List.mem_append.mp m with m | m
    · exact G.there a m
    · simp at m; subst m; exact ⟨o, hp⟩
  · by_cases hn : n < mu.length
    · rw [List.getElem?_append_left hn] at e1
      rw [List.getElem?_append_left (by rw [← G.len]; exact hn)]
      exact (G.fz a u e).2 n e1
    · rw [List.getElem?_append_right (by omega)] at e1
      have : a = p := by
        have := List.mem_of_getElem? e1
        simpa using this
      subst this; rw [hF] at e; cases e
  · by_cases hn : n < mu.length
    · rw [List.getElem?_append_left hn] at e1
      rw [List.getElem?_append_left (by rw [← G.len]; exact hn)] at e2
      obtain ⟨u, e3, e4⟩ := G.cl n a c' e1 e2
      exact ⟨u, e3, e4.mono ex⟩
    · have hnm : mu.length = st.length := G.len
      rw [List.getElem?_append_right (by omega)] at e1 e2
      have h1 : a = p := by
        have := List.mem_of_getElem? e1
        simpa using this
      have h2 : c' = c := by
        have := List.mem_of_getElem? e2
        simpa using this
      subst h1 h2
      exact ⟨o, hp, hc.mono ex⟩
/-- a cell is written -/
theorem Hold.set (G : Hold K w ca F mu H st) {n : Nat} {a : Addr} {o : HO} {c : Cell} (hm : mu[n]? = some a) (hF : F a = none) (hc : CellR K w ca F mu a c o) : Hold K w ca F mu (upd H a o) (st.set n c) ∧ Le F mu H F mu (upd H a o) := by
  have inj : ∀ m, mu[m]? = some a → m = n := fun m e => by
    obtain ⟨h1, e1⟩ := List.getElem?_eq_some_iff.mp e
    obtain ⟨h2, e2⟩ := List.getElem?_eq_some_iff.mp hm
    exact (List.getElem_inj G.nd).mp (e1.trans e2.symm)
  have hin : a ∈ mu := List.mem_of_getElem? hm
  refine ⟨⟨by rw [List.length_set]; exact G.len, G.nd, fun b m => ?_, fun b u e => ?_, fun m b c' e1 e2 => ?_⟩, ⟨.refl, fun _ _ e => .inl e, fun _ e => .inl e, fun b u e hn => ?_, fun b u e => ?_⟩⟩
  · by_cases h : b = a
    · subst h; exact ⟨o, upd_same⟩
    · rw [upd_ne h]; exact G.there b m
  · have h : b ≠ a := fun z => by subst z; rw [hF] at e; cases e
    refine ⟨by rw [upd_ne h]; exact (G.fz b u e).1, fun m e1 => ?_⟩
    have hmn : n ≠ m := fun z => by subst z; rw [hm] at e1; exact h (Option.some.inj e1).symm
    rw [List.getElem?_set_ne hmn]
    exact (G.fz b u e).2 m e1
  · by_cases hmn : n = m
    · subst hmn
      rw [hm] at e1; cases e1
      have hl : n < st.length := by rw [← G.len]; exact (List.getElem?_eq_some_iff.mp hm).1
      rw [List.getElem?_set_self hl] at e2; cases e2
      exact ⟨o, upd_same, hc⟩
    · rw [List.getElem?_set_ne hmn] at e2
      obtain ⟨u, e3, e4⟩ := G.cl m b c' e1 e2
      have h : b ≠ a := fun z => by subst z; exact hmn (inj m e1).symm
      exact ⟨u, by rw [upd_ne h]; exact e3, e4⟩
  · have h : b ≠ a := fun z => by subst z; exact hn hin
    rw [upd_ne h]; exact e
  · by_cases h : b = a
    · subst h; exact ⟨o, upd_same⟩
    · rw [upd_ne h]; exact ⟨u, e⟩
/-- a live cell is none of what never changes -/
theorem Hold.live (G : Hold K w ca F mu H st) {n : Nat} {a : Addr} {c : Cell} (hm : mu[n]? = some a) (hs : st[n]? = some c) (hc : c.still = false) : F a = none := by
  cases q : F a with
  | none => rfl
  | some u =>
    obtain ⟨c', e, k⟩ := (G.fz a u q).2 n hm
    rw [hs] at e; cases e; rw [hc] at k; cases k
end
end Pv
end

section
set_option Elab.async false
set_option linter.all false
set_option maxRecDepth 100000
set_option autoImplicit false
namespace Pv
open PySem PySem.Spec PyProof.Rows L2

/-! ### data -/
mutual
def dat : PV → PyData
  | .non => .none
  | .bl b => .bool b
  | .int i => .int i
  | .str x => .str x
  | .tup l => .tuple (datL l)
  | .lst l => .list (datL l)
  | _ => .none
def datL : List PV → List PyData
  | [] => []
  | a :: r => dat a :: datL r
end
theorem datL_map : ∀ l : List PV, datL l = l.map dat
  | [] => rfl
  | a :: r => by rw [datL, datL_map r]; rfl
mutual
theorem isD_can : ∀ (n : Nat) (v : PV), isD n v = true → (dat v).canLay0 = true ∧ (dat v).depth ≤ n
  | n, .non, _ => ⟨rfl, Nat.zero_le _⟩
  | n, .bl b, _ => ⟨rfl, Nat.zero_le _⟩
  | n, .int b, _ => ⟨rfl, Nat.zero_le _⟩
  | n, .str x, h => ⟨by cases n <;> simpa [isD, dat, PyData.canLay0, PyData.strOk] using h, Nat.zero_le _⟩
  | 0, .tup l, h => by simp [isD] at h
  | n + 1, .tup l, h => by
    obtain ⟨a, b⟩ := isDL_can n l (by simpa [isD] using h)
    exact ⟨by simpa [dat, PyData.canLay0] using a, by simp only [dat, PyData.depth]; omega⟩
  | 0, .lst l, h => by simp [isD] at h
  | n + 1, .lst l, h => by
    obtain ⟨a, b⟩ := isDL_can n l (by simpa [isD] using h)
    exact ⟨by simpa [dat, PyData.canLay0] using a, by simp only [dat, PyData.depth]; omega⟩
  | n, .dct t l, h => by cases n <;> simp [isD] at h
  | n, .loc l, h => by cases n <;> simp [isD] at h
  | n, .fz l, h => by cases n <;> simp [isD] at h
theorem isDL_can : ∀ (n : Nat) (l : List PV), isDL n l = true → PyData.canLayAll0 (datL l) = true ∧ PyData.depthAll (datL l) ≤ n
  | n, [], _ => ⟨rfl, Nat.zero_le _⟩
  | n, a :: r, h => by
    rw [isDL, Bool.and_eq_true] at h
    obtain ⟨h1, h2⟩ := isD_can n a h.1
    obtain ⟨h3, h4⟩ := isDL_can n r h.2
    exact ⟨by simp only [datL, PyData.canLayAll0, h1, h3, Bool.and_self], by simp only [datL, PyData.depthAll]; omega⟩
end
theorem isD_shaped {n : Nat} {v : PV} (h : isD n v = true) (hn : n ≤ 64) : SeqAt.shaped (dat v) = true := by
  obtain ⟨a, b⟩ := isD_can n v h
  unfold SeqAt.shaped
  rw [a, Bool.true_and]
  exact decide_eq_true (Nat.le_trans b hn)
mutual
theorem eqv_dat : ∀ (n : Nat) (x y : PV), isD n x = true → isD n y = true → PyData.eqv (dat x) (dat y) = eqv x y
  | n, .non, y, _, h => by cases y <;> first | rfl | (cases n <;> simp [isD] at h)
  | n, .bl b, y, _, h => by cases y <;> first | rfl | (cases n <;> simp [isD] at h)
  | n, .int b, y, _, h => by cases y <;> first | rfl | (cases n <;> simp [isD] at h)
  | n, .str b, y, _, h => by cases y <;> first | rfl | (cases n <;> simp [isD] at h)
  | n, .tup l, y, hx, h => by
    cases n with
    | zero => simp [isD] at hx
    | succ n =>
      cases y with
      | tup m => simp only [dat, PyData.eqv, eqv]; exact eqvL_dat n l m (by simpa [isD] using hx) (by simpa [isD] using h)
      | non => rfl
      | bl _ => rfl
      | int _ => rfl
      | str _ => rfl
      | lst _ => rfl
      | _ => simp [isD] at h
  | n, .lst l, y, hx, h => by
    cases n with
    | zero => simp [isD] at hx
    | succ n =>
      cases y with
      | lst m => simp only [dat, PyData.eqv, eqv]; exact eqvL_dat n l m (by simpa [isD] using hx) (by simpa [isD] using h)
      | non => rfl
      | bl _ => rfl
      | int _ => rfl
      | str _ => rfl
      | tup _ => rfl
      | _ => simp [isD] at h
  | n, .dct t l, _, h, _ => by cases n <;> simp [isD] at h
  | n, .loc l, _, h, _ => by cases n <;> simp [isD] at h
  | n, .fz l, _, h, _ => by cases n <;> simp [isD] at h
theorem eqvL_dat : ∀ (n : Nat) (x y : List PV), isDL n x = true → isDL n y = true → PyData.eqvAll (datL x) (datL y) = eqvL x y
  | n, [], y, _, _ => by cases y <;> rfl
  | n, a :: r, y, hx, hy => by
    cases y with
    | nil => rfl
    | cons b s =>
      rw [isDL, Bool.and_eq_true] at hx hy
      simp only [datL, PyData.eqvAll, eqvL, eqv_dat n a b hx.1 hy.1, eqvL_dat n r s hx.2 hy.2]
end
mutual
theorem alk_dat : ∀ (x y : PV), alk x y = true → PySem.W.alike (dat x) (dat y) = true
  | .non, y, h => by cases y <;> first | rfl | simp [alk] at h
  | .bl b, y, h => by cases y <;> first | rfl | simp [alk] at h
  | .int b, y, h => by cases y <;> first | rfl | simp [alk] at h
  | .str b, y, h => by cases y <;> first | rfl | simp [alk] at h
  | .tup l, y, h => by
    cases y with
    | tup m => simp only [dat, PySem.W.alike]; exact alkL_dat l m (by simpa [alk] using h)
    | _ => simp [alk] at h
  | .lst l, y, h => by simp [alk] at h
  | .dct t l, y, h => by simp [alk] at h
  | .loc l, y, h => by simp [alk] at h
  | .fz l, y, h => by simp [alk] at h
theorem alkL_dat : ∀ (x y : List PV), alkL x y = true → PySem.W.alikeAll (datL x) (datL y) = true
  | [], y, _ => by cases y <;> simp [datL, PySem.W.alikeAll]
  | a :: r, y, h => by
    cases y with
    | nil => simp [datL, PySem.W.alikeAll]
    | cons b s =>
      simp only [alkL, Bool.and_eq_true] at h
      simp only [datL, PySem.W.alikeAll, alk_dat a b h.1, alkL_dat r s h.2, Bool.and_self]
end
theorem ltC_lt : ∀ (a b : List Nat), ltC a b = decide (a < b)
  | [], [] => by simp [ltC]
  | [], y :: b => by simp [ltC]
  | x :: a, [] => by simp [ltC]
  | x :: a, y :: b => by
    unfold ltC
    by_cases h : x = y
    · subst h; rw [if_pos rfl, ltC_lt a b]; simp
    · rw [if_neg h]
      by_cases h2 : x < y
      · simp [h2, List.cons_lt_cons_iff]
      · simp [h2, h, List.cons_lt_cons_iff]
mutual
theorem lt_dat : ∀ (n : Nat) (x y : PV), isD n x = true → isD n y = true → alk x y = true → PySem.W.dataLt (dat x) (dat y) = ltP x y
  | n, .non, y, _, _, h => by
    cases y with
    | non => simp only [dat, ltP]; unfold PySem.W.dataLt; simp only [PySem.W.keyToks]; exact lex_irrefl _
    | _ => simp [alk] at h
  | n, .bl a, y, _, _, h => by
    cases y with
    | bl b => simp only [dat, ltP, PySem.W.dataLt_bool]; cases a <;> cases b <;> rfl
    | _ => simp [alk] at h
  | n, .int a, y, _, _, h => by
    cases y with
    | int b => simp only [dat, ltP, PySem.W.dataLt_int]
    | _ => simp [alk] at h
  | n, .str a, y, _, _, h => by
    cases y with
    | str b => simp only [dat, ltP, PySem.W.dataLt_str, ltC_lt]
    | _ => simp [alk] at h
  | n, .tup l, y, hx, hy, h => by
    cases n with
    | zero => simp [isD] at hx
    | succ n =>
      cases y with
      | tup m =>
        simp only [dat, ltP, PySem.W.dataLt_tuple]
        exact ltL_dat n l m (by simpa [isD] using hx) (by simpa [isD] using hy) (by simpa [alk] using h)
      | _ => simp [alk] at h
  | n, .lst l, y, _, _, h => by simp [alk] at h
  | n, .dct t l, y, _, _, h => by simp [alk] at h
  | n, .loc l, y, _, _, h => by simp [alk] at h
  | n, .fz l, y, _, _, h => by simp [alk] at h
theorem ltL_dat : ∀ (n : Nat) (x y : List PV), isDL n x = true → isDL n y = true → alkL x y = true → PyProof.Rows.lexLt itemOrd (PySem.W.keyToksAll (datL x)) (PySem.W.keyToksAll (datL y)) = ltL x y
  | n, [], [], _, _, _ => lex_irrefl _
  | n, [], b :: s, _, _, _ => by
    simp only [datL, ltL, PySem.W.keyToksAll]
    rw [lex_diff (O := itemOrd) (by simp)]
    rfl
  | n, a :: r, [], _, _, _ => by
    simp only [datL, ltL, PySem.W.keyToksAll]
    rw [lex_diff (O := itemOrd) (by simp)]
    rfl
  | n, a :: r, b :: s, hx, hy, h => by
    rw [isDL, Bool.and_eq_true] at hx hy
    simp only [alkL, Bool.and_eq_true] at h
    simp only [datL, ltL]
    rw [PySem.W.dataLt_cons (alk_dat a b h.1), eqv_dat n a b hx.1 hy.1, ltL_dat n r s hx.2 hy.2 h.2, lt_dat n a b hx.1 hy.1 h.1]
end
end Pv
end

section
set_option Elab.async false
set_option linter.all false
set_option maxRecDepth 100000
set_option autoImplicit false
namespace Pv
open PySem PySem.Spec PyProof.Rows L2

theorem SZ_eq : SZ = sizeLine := by rw [sizeLine_eq]; rfl

section
variable {K : PySem.W.Frag} {w : World} {ca : Str → Option Addr} {F : Hp} {mu : List Addr} {H : Hp} {st : Store}
theorem Hold.hF (G : Hold K w ca F mu H st) {a : Addr} {o : HO} (h : F a = some o) : H a = some o := (G.fz a o h).1
theorem Hold.sqT (G : Hold K w ca F mu H st) {p : Addr} {xs : List V} (h : SqT K F p xs) : SqT K H p xs := by
  rcases h with (h | ⟨o, h⟩) | h
  · exact .inl (.inl (G.hF h))
  · exact .inl (.inr ⟨o, G.hF h⟩)
  · exact .inr h
theorem Hold.sqL (G : Hold K w ca F mu H st) {p : Addr} {xs : List V} (h : SqL K F p xs) : SqL K H p xs := by
  rcases h with (h | ⟨o, h⟩) | h
  · exact .inl (.inl (G.hF h))
  · exact .inl (.inr ⟨o, G.hF h⟩)
  · exact .inr h
mutual
theorem Rep.dp (G : Hold K w ca F mu H st) : ∀ (n : Nat) (v : PV) (x : V), isD n v = true → Rep K w F mu v x → Dp K H x (dat v)
  | n, .non, _, _, r => by cases r; exact .non
  | n, .bl b, _, _, r => by cases r; exact .bl b
  | n, .int b, _, _, r => by cases r; exact .int b
  | n, .str b, _, _, r => by cases r; exact .str b
  | n, .tup l, _, h, r => by
    cases n with
    | zero => simp [isD] at h
    | succ n =>
      cases r with
      | tup h1 h2 => exact .tup (G.sqT h1) (RepL.dp G n _ _ (by simpa [isD] using h) h2)
  | n, .lst l, _, h, r => by
    cases n with
    | zero => simp [isD] at h
    | succ n =>
      cases r with
      | lst h1 h2 => exact .lst (.of (G.hF h1)) (RepL.dp G n _ _ (by simpa [isD] using h) h2)
  | n, .dct t l, _, h, _ => by cases n <;> simp [isD] at h
  | n, .loc l, _, h, _ => by cases n <;> simp [isD] at h
  | n, .fz l, _, h, _ => by cases n <;> simp [isD] at h
theorem RepL.dp (G : Hold K w ca F mu H st) : ∀ (n : Nat) (v : List PV) (x : List V), isDL n v = true → RepL K w F mu v x → DpAll K H x (datL v)
  | n, [], _, _, r => by cases r; exact .nil
  | n, a :: l, _, h, r => by
    rw [isDL, Bool.and_eq_true] at h
    cases r with
    | cons h1 h2 => exact .cons (Rep.dp G n _ _ h.1 h1) (RepL.dp G n _ _ h.2 h2)
end
/-- a list: a value or a cell -/
theorem Rep.list (G : Hold K w ca F mu H st) {v : PV} {x : V} {l : List PV} (r : Rep K w F mu v x) (h : lstOf st v = some l) : ∃ p xs, x = .ref p ∧ H p = some (.lst xs) ∧ RepL K w F mu l xs := by
  cases r with
  | lst h1 h2 => simp only [lstOf, Option.some.injEq] at h; subst h; exact ⟨_, _, rfl, G.hF h1, h2⟩
  | @loc n p h1 =>
    simp only [lstOf] at h
    split at h
    · rename_i m e
      simp only [Option.some.injEq] at h; subst h
      obtain ⟨o, e1, xs, e2, r⟩ := G.cl n p _ h1 e
      subst e2
      exact ⟨_, _, rfl, e1, r⟩
    · cases h
  | _ => simp [lstOf] at h
/-- anything with items -/
theorem Rep.seq (G : Hold K w ca F mu H st) {v : PV} {x : V} {l : List PV} (r : Rep K w F mu v x) (h : seqOf st v = some l) : ∃ p xs, x = .ref p ∧ (SqL K H p xs ∨ SqT K H p xs) ∧ RepL K w F mu l xs := by
  cases r with
  | tup h1 h2 => simp only [seqOf, Option.some.injEq] at h; subst h; exact ⟨_, _, rfl, .inr (G.sqT h1), h2⟩
  | fz h1 h2 => simp only [seqOf, Option.some.injEq] at h; subst h; exact ⟨_, _, rfl, .inl (G.sqL h1), h2⟩
  | lst h1 h2 =>
    obtain ⟨p, xs, e, h3, h4⟩ := Rep.list (v := .lst _) G (.lst h1 h2) (by simpa [seqOf] using h)
    exact ⟨p, xs, e, .inl (.of h3), h4⟩
  | loc h1 =>
    obtain ⟨p, xs, e, h3, h4⟩ := Rep.list (v := .loc _) G (.loc h1) (by simpa [seqOf] using h)
    exact ⟨p, xs, e, .inl (.of h3), h4⟩
  | _ => simp [seqOf, lstOf] at h
theorem Rep.dv (G : Hold K w ca F mu H st) {v : PV} {x : V} {n : Nat} (r : Rep K w F mu v x) (h : isD n (Pv.dv st v) = true) : Dp K H x (dat (Pv.dv st v)) := by
  cases v with
  | loc m =>
    have hc : (∃ l, st[m]? = some (.lst l)) ∨ Pv.dv st (.loc m) = .loc m := by
      cases e : st[m]? with
      | none => exact .inr (by simp [Pv.dv, e])
      | some c =>
        cases c with
        | lst l => exact .inl ⟨l, rfl⟩
        | _ => exact .inr (by simp [Pv.dv, e])
    rcases hc with ⟨l, e⟩ | e
    · have ed : Pv.dv st (.loc m) = .lst l := by simp [Pv.dv, e]
      rw [ed] at h ⊢
      obtain ⟨p, xs, e1, h1, h2⟩ := Rep.list G r (l := l) (by simp [lstOf, e])
      subst e1
      cases n with
      | zero => simp [isD] at h
      | succ n => exact .lst (.of h1) (RepL.dp G n _ _ (by simpa [isD] using h) h2)
    · rw [e] at h
      cases n <;> simp [isD] at h
  | _ => exact Rep.dp G n _ _ h r
end

section
variable (X : Cx) (ca : Str → Option Addr)
/-- a value out of two, the store as it was -/
def RO (f : PV → PV → Store → Option PV) : R2 := fun x y H Q => ∃ (F : Hp) (mu : List Addr) (st : Store) (a b r : PV), Hold X.K X.w ca F mu H st ∧ Rep X.K X.w F mu a x ∧ Rep X.K X.w F mu b y ∧ f a b st = some r ∧
  ∀ F' mu' H' z, Le F mu H F' mu' H' → Hold X.K X.w ca F' mu' H' st → Rep X.K X.w F' mu' r z → Q z H'
end

section
variable {X : Cx} {ca : Str → Option Addr}
theorem OpR.mono {f : Value → Value → Sem Value} {r r' : R2} (h : OpR X f r) (k : ∀ x y H Q, r' x y H Q → r x y H Q) : OpR X f r' := fun pins s σ H x y v u Q I rx ry q => h pins s σ H x y v u Q I rx ry (k _ _ _ _ q)

def bopO : Bop → Operator
  | .add => .Add | .sub => .Sub | .mul => .Mult | .mod => .Mod | .fdiv => .FloorDiv | .pow => .Pow
theorem opI_bin {op : Bop} {pins : List (Addr × Obj)} {s : Shared} {σ : L2.St} {H : Hp} {i j k : Int} {v u : Value} {Q : VK} (I : Inv X pins σ H s) (rx : RelV (.int i) v) (ry : RelV (.int j) u) (h : binI op i j = some k) (q : Q (.int k) H) :
    wpAny (model X.prog X.w) X.A (binaryOp (bopO op) v u) (EP X pins σ Q) X.xe s := by
  cases op with
  | add => simp only [binI, Option.some.injEq] at h; subst h; exact op_add pins s σ H _ _ v u Q I rx ry ⟨i, j, rfl, rfl, q⟩
  | sub => simp only [binI, Option.some.injEq] at h; subst h; exact op_sub pins s σ H _ _ v u Q I rx ry ⟨i, j, rfl, rfl, q⟩
  | mul =>
    simp only [binI] at h
    split at h
    · rename_i hm
      simp only [Option.some.injEq] at h; subst h
      exact op_mulW pins s σ H _ _ v u Q I rx ry ⟨i, j, rfl, rfl, (show i.natAbs.log2 + j.natAbs.log2 < 1000000 from of_decide_eq_true hm), q⟩
    · cases h
  | mod =>
    simp only [binI] at h
    split at h
    · rename_i hm
      simp only [Option.some.injEq] at h; subst h
      exact op_mod pins s σ H _ _ v u Q I rx ry ⟨i, j, rfl, rfl, hm, q⟩
    · cases h
  | fdiv =>
    simp only [binI] at h
    split at h
    · rename_i hm
      simp only [Option.some.injEq] at h; subst h
      exact op_fdivW pins s σ H _ _ v u Q I rx ry ⟨i, j, rfl, rfl, hm, q⟩
    · cases h
  | pow =>
    simp only [binI] at h
    split at h
    · rename_i hm
      simp only [Option.some.injEq] at h; subst h
      exact op_pow pins s σ H _ _ v u Q I rx ry ⟨i, j, rfl, rfl, hm, q⟩
    · cases h

theorem op_bin (op : Bop) : OpR X (binaryOp (bopO op)) (RO X ca (binP op)) := by
  intro pins s σ H x y v u Q I rx ry h
  obtain ⟨F, mu, st, a, b, r, G, ra, rb, e, q⟩ := h
  -- two lists
  have lists : ∀ l m, lstOf st a = some l → lstOf st b = some m → l.length + m.length ≤ SZ → r = .lst (l ++ m) → op = .add → wpAny (model X.prog X.w) X.A (binaryOp (bopO op) v u) (EP X pins σ Q) X.xe s := by
    intro l m h1 h2 h3 h4 h5
    subst h4 h5
    obtain ⟨p, xs, e1, k1, r1⟩ := Rep.list G ra h1
    obtain ⟨p2, ys, e2, k2, r2⟩ := Rep.list G rb h2
    subst e1 e2
    refine op_cat pins s σ H _ _ v u Q I rx ry ⟨p, p2, xs, ys, rfl, rfl, k1, k2, by rw [← r1.length, ← r2.length, ← SZ_eq]; exact h3, fun z hz => ?_⟩
    obtain ⟨G1, L1⟩ := G.laid hz (.lst (xs ++ ys))
    exact q _ _ _ _ L1 G1 (.lst upd_same ((r1.append r2).mono L1.ext))
  have times : ∀ l k, lstOf st a = some l → b = .int k → -(2 ^ 63) ≤ k ∧ k < 2 ^ 63 ∧ l.length * k.toNat ≤ SZ → r = .lst (List.replicate k.toNat l).flatten → op = .mul → wpAny (model X.prog X.w) X.A (binaryOp (bopO op) v u) (EP X pins σ Q) X.xe s := by
    intro l k h1 h2 h3 h4 h5
    subst h2 h4 h5
    obtain ⟨p, xs, e1, k1, r1⟩ := Rep.list G ra h1
    subst e1
    cases rb
    refine op_rep pins s σ H _ _ v u Q I rx ry ⟨p, k, xs, rfl, rfl, k1, h3.1, h3.2.1, by rw [← r1.length, ← SZ_eq]; exact h3.2.2, fun z hz => ?_⟩
    obtain ⟨G1, L1⟩ := G.laid hz (.lst (List.replicate k.toNat xs).flatten)
    have key : ∀ n : Nat, RepL X.K X.w F mu (List.replicate n l).flatten (List.replicate n xs).flatten := fun n => by
      induction n with
      | zero => exact .nil
      | succ n ih => rw [List.replicate_succ, List.replicate_succ, List.flatten_cons, List.flatten_cons]; exact r1.append ih
    exact q _ _ _ _ L1 G1 (.lst upd_same ((key _).mono L1.ext))
  unfold binP at e
  split at e
  · -- ints
    rename_i i j
    cases ra; cases rb
    obtain ⟨k, e1, e2⟩ := Option.map_eq_some_iff.mp e
    subst e2
    exact opI_bin I rx ry e1 (q F mu H _ .refl G (.int k))
  · -- tuples
    rename_i l m
    split at e
    · split at e
      · rename_i hz
        simp only [Option.some.injEq] at e; subst e
        cases ra with
        | tup h1 r1 =>
          cases rb with
          | tup h2 r2 =>
            refine op_catA pins s σ H _ _ v u Q I rx ry ⟨_, _, _, _, rfl, rfl, G.sqT h1, G.sqT h2, by rw [← r1.length, ← r2.length, ← SZ_eq]; exact hz, fun z => ?_, fun _ z => ?_, fun _ _ p hp => ?_⟩
            · subst z
              cases r1
              exact q F mu H _ .refl G (.tup h2 r2)
            · subst z
              cases r2
              rw [List.append_nil] at q
              exact q F mu H _ .refl G (.tup h1 r1)
            · obtain ⟨G1, L1⟩ := G.laid hp (.tup _)
              exact q _ _ _ _ L1 G1 (.tup (.of upd_same) ((r1.append r2).mono L1.ext))
      · cases e
    · cases e
  · -- texts
    split at e
    · split at e
      · rename_i hz
        simp only [Option.some.injEq] at e; subst e
        cases ra; cases rb
        exact op_add_str pins s σ H _ _ v u Q I rx ry ⟨_, _, rfl, rfl, by rw [← SZ_eq]; exact hz, q F mu H _ .refl G (.str _)⟩
      · cases e
    · cases e
  · -- a list times an int
    split at e
    · rename_i h1
      split at e
      · rename_i hz
        simp only [Option.some.injEq] at e
        exact times _ _ h1 rfl hz e.symm rfl
      · cases e
    · cases e
  · split at e
    · rename_i h1 h2
      split at e
      · rename_i hz
        simp only [Option.some.injEq] at e
        exact lists _ _ h1 h2 hz e.symm rfl
      · cases e
    · cases e
end
end Pv
end

section
set_option Elab.async false
set_option linter.all false
set_option maxRecDepth 100000
set_option autoImplicit false
namespace Pv
open PySem PySem.Spec PyProof.Rows L2

mutual
theorem nk_inj : ∀ (n : Nat) (a b : PV), kOk n a = true → kOk n b = true → nk a = nk b → a = b
  | n, .non, b, _, h, e => by cases b <;> first | rfl | (exfalso; cases n <;> simp [kOk] at h; done) | (simp [nk] at e; done)
  | n, .int i, b, _, h, e => by cases b <;> first | (simp [nk] at e; rw [e]; done) | (exfalso; cases n <;> simp [kOk] at h; done) | (simp [nk] at e; done)
  | n, .str i, b, _, h, e => by cases b <;> first | (simp [nk] at e; rw [e]; done) | (exfalso; cases n <;> simp [kOk] at h; done) | (simp [nk] at e; done)
  | n, .tup l, b, ha, h, e => by
    cases n with
    | zero => simp [kOk] at ha
    | succ n =>
      cases b with
      | tup m =>
        simp only [nk, NestedKey.tup.injEq] at e
        rw [nkL_inj n l m (by simpa [kOk] using ha) (by simpa [kOk] using h) e]
      | _ => simp [nk] at e
  | n, .bl b, _, h, _, _ => by cases n <;> simp [kOk] at h
  | n, .lst b, _, h, _, _ => by cases n <;> simp [kOk] at h
  | n, .dct t b, _, h, _, _ => by cases n <;> simp [kOk] at h
  | n, .loc b, _, h, _, _ => by cases n <;> simp [kOk] at h
  | n, .fz b, _, h, _, _ => by cases n <;> simp [kOk] at h
theorem nkL_inj : ∀ (n : Nat) (a b : List PV), kOkL n a = true → kOkL n b = true → nkL a = nkL b → a = b
  | n, [], b, _, _, e => by cases b <;> first | rfl | simp [nkL] at e
  | n, x :: r, b, ha, h, e => by
    cases b with
    | nil => simp [nkL] at e
    | cons y s =>
      rw [kOkL, Bool.and_eq_true] at ha h
      simp only [nkL, List.cons.injEq] at e
      rw [nk_inj n x y ha.1 h.1 e.1, nkL_inj n r s ha.2 h.2 e.2]
end
def kx : PV → Key
  | .int i => .inl i
  | .str x => .inr x
  | _ => .inl 0
theorem kLeaf_cases {k : PV} (h : kLeaf k = true) : (∃ i, k = .int i) ∨ ∃ x, k = .str x := by
  cases k <;> simp [kLeaf] at h
  · exact .inl ⟨_, rfl⟩
  · exact .inr ⟨_, rfl⟩
theorem kx_inj {a b : PV} (ha : kLeaf a = true) (hb : kLeaf b = true) : kx a = kx b ↔ a = b := by
  rcases kLeaf_cases ha with ⟨i, rfl⟩ | ⟨i, rfl⟩ <;> rcases kLeaf_cases hb with ⟨j, rfl⟩ | ⟨j, rfl⟩ <;> simp [kx]
theorem kFor_leaf {k : PV} (h : kFor false k = true) : kLeaf k = true := by simpa [kFor] using h
theorem kFor_tup {k : PV} (h : kFor true k = true) : isTup k = true ∧ kOk 8 k = true := by simpa [kFor] using h

section
variable {P : Program} {K : PySem.W.Frag} {w : World} {ca : Str → Option Addr} {F : Hp} {mu : List Addr} {H : Hp} {st : Store} {h : Heap}
mutual
theorem Rep.nested {X : Cx} {pins : List (Addr × Obj)} {σ : L2.St} {s : Shared} (I : Inv X pins σ H s) (G : Hold X.K X.w ca F mu H st) : ∀ (n : Nat) (v : PV) (x : V) (u : Value), kOk n v = true → Rep X.K X.w F mu v x → RelV x u → NestedIs s.heap (nk v) u ∧ (nk v).depth ≤ n
  | n, .non, _, u, _, r, q => by cases r; cases (show u = Value.none from q); exact ⟨.none, Nat.zero_le _⟩
  | n, .int i, _, u, _, r, q => by cases r; obtain ⟨t, rfl⟩ := q; exact ⟨.int _ _, Nat.zero_le _⟩
  | n, .str i, _, u, _, r, q => by cases r; obtain ⟨t, rfl⟩ := q; exact ⟨.text _ _, Nat.zero_le _⟩
  | n, .tup l, _, u, hk, r, q => by
    cases n with
    | zero => simp [kOk] at hk
    | succ n =>
      cases r with
      | tup h1 h2 =>
        cases (show u = Value.ref _ from q)
        obtain ⟨its, rv, ⟨o, ho, hc, m, hd⟩, _⟩ := I.tuple (G.sqT h1)
        obtain ⟨a, b⟩ := RepL.nested I G n l _ its (by simpa [kOk] using hk) h2 rv
        exact ⟨.tup ho hc hd (by simpa using a), by simp only [nk, NestedKey.depth]; omega⟩
  | n, .bl b, _, _, h, _, _ => by cases n <;> simp [kOk] at h
  | n, .lst b, _, _, h, _, _ => by cases n <;> simp [kOk] at h
  | n, .dct t b, _, _, h, _, _ => by cases n <;> simp [kOk] at h
  | n, .loc b, _, _, h, _, _ => by cases n <;> simp [kOk] at h
  | n, .fz b, _, _, h, _, _ => by cases n <;> simp [kOk] at h
theorem RepL.nested {X : Cx} {pins : List (Addr × Obj)} {σ : L2.St} {s : Shared} (I : Inv X pins σ H s) (G : Hold X.K X.w ca F mu H st) : ∀ (n : Nat) (v : List PV) (x : List V) (u : List Value), kOkL n v = true → RepL X.K X.w F mu v x → Vals x u → NestedAll s.heap (nkL v) u ∧ NestedKey.depthAll (nkL v) ≤ n
  | n, [], _, u, _, r, q => by cases r; cases q; exact ⟨.nil, Nat.zero_le _⟩
  | n, a :: l, _, u, hk, r, q => by
    rw [kOkL, Bool.and_eq_true] at hk
    cases r with
    | cons h1 h2 =>
      cases q with
      | cons q1 q2 =>
        obtain ⟨a1, b1⟩ := Rep.nested I G n a _ _ hk.1 h1 q1
        obtain ⟨a2, b2⟩ := RepL.nested I G n l _ _ hk.2 h2 q2
        exact ⟨.cons a1 a2, by simp only [nkL, NestedKey.depthAll]; omega⟩
end
/-- the pairs of a dict, against those of the heap: keys ints and texts -/
def KVR (K : PySem.W.Frag) (w : World) (F : Hp) (mu : List Addr) : List (PV × PV) → List (Key × Value) → Prop := Paired fun p q => kLeaf p.1 = true ∧ q.1 = kx p.1 ∧ ∃ x, RelV x q.2 ∧ Rep K w F mu p.2 x
/-- .. keys tuples -/
def KVT (K : PySem.W.Frag) (w : World) (F : Hp) (mu : List Addr) : List (PV × PV) → List (NestedKey × Addr × Value) → Prop := Paired fun p q => (isTup p.1 = true ∧ kOk 8 p.1 = true) ∧ q.1 = nk p.1 ∧ Rep K w F mu p.1 (.ref q.2.1) ∧ ∃ x, RelV x q.2.2 ∧ Rep K w F mu p.2 x
theorem leaf_is {k : PV} {x : V} {u : Value} (hk : kLeaf k = true) (r : Rep K w F mu k x) (q : RelV x u) : (mixKind P w).is (kx k) u = true := by
  rcases kLeaf_cases hk with ⟨i, rfl⟩ | ⟨z, rfl⟩
  · cases r; obtain ⟨t, rfl⟩ := q; exact keyIs_int i t
  · cases r; obtain ⟨t, rfl⟩ := q; exact keyIs_str z t
theorem leaf_rep {k : PV} {u : Value} (hk : kLeaf k = true) (h : (mixKind P w).is (kx k) u = true) : ∃ x, RelV x u ∧ Rep K w F mu k x := by
  rcases kLeaf_cases hk with ⟨i, rfl⟩ | ⟨z, rfl⟩
  · obtain ⟨t, e⟩ := Value.isInt_shape (k := i) (v := u) h
    exact ⟨.int i, ⟨t, e⟩, .int i⟩
  · obtain ⟨t, e⟩ := Value.isStrOf_shape (x := z) (v := u) h
    exact ⟨.str z, ⟨t, e⟩, .str z⟩
theorem leaf_hash {k : PV} (hk : kLeaf k = true) : (nk k).hash w = (mixKind P w).hash (kx k) := by
  rcases kLeaf_cases hk with ⟨i, rfl⟩ | ⟨z, rfl⟩ <;> rfl
theorem Ents.leaf {t : Bool} : ∀ {kvs : List (PV × PV)} {es : List DictEntry}, Ents K w F mu t kvs es → t = false → ∃ vs, Pairs (mixKind P w) es vs ∧ (∀ e ∈ es, ∃ k, (mixKind P w).is k e.key = true ∧ e.hash = (mixKind P w).hash k) ∧ KVR K w F mu kvs vs
  | _, _, .nil _, _ => ⟨[], .nil, (fun _ h => absurd h (by simp)), .nil⟩
  | (k, v) :: _, e :: es, .cons hk hh rk pk rv pv r, ht => by
    obtain ⟨vs, a, b, c⟩ := Ents.leaf r ht
    subst ht
    have hk' := kFor_leaf hk
    refine ⟨(kx k, e.val) :: vs, .cons (leaf_is hk' pk rk) rfl a, fun e' he => ?_, .cons ⟨hk', rfl, _, rv, pv⟩ c⟩
    rcases List.mem_cons.mp he with rfl | he
    · exact ⟨kx k, leaf_is hk' pk rk, by rw [hh, leaf_hash (P := P) hk']⟩
    · exact b e' he
theorem Ents.of_leaf : ∀ {kvs : List (PV × PV)} {es : List DictEntry} {vs : List (Key × Value)}, Pairs (mixKind P w) es vs → (∀ e ∈ es, ∃ k, (mixKind P w).is k e.key = true ∧ e.hash = (mixKind P w).hash k) → KVR K w F mu kvs vs → Ents K w F mu false kvs es
  | _, _, _, .nil, _, h => by cases h; exact .nil _
  | _, e :: es, (k', u) :: vs, .cons h1 h2 r, hs, h => by
    cases h with
    | @cons p _ ps _ q qs =>
      obtain ⟨k, v⟩ := p
      obtain ⟨hk, hq, x, rv, pv⟩ := q
      simp only at hk hq rv pv h1 h2
      subst hq
      obtain ⟨xk, rk, pk⟩ := leaf_rep (P := P) (K := K) (F := F) (mu := mu) hk h1
      obtain ⟨k2, hk2, hh⟩ := hs e List.mem_cons_self
      have := (mixKind P w).inj _ _ _ h1 hk2
      subst this
      exact .cons (by simpa [kFor] using hk) (by rw [hh, leaf_hash (P := P) hk]) rk pk (by rw [h2]; exact rv) pv (Ents.of_leaf r (fun e' he => hs e' (List.mem_cons_of_mem _ he)) qs)
theorem Ents.tup {t : Bool} : ∀ {kvs : List (PV × PV)} {es : List DictEntry}, Ents K w F mu t kvs es → t = true → ∃ xs : List (NestedKey × Addr × Value), es = xs.map (entryOfKey (nestedKind P w)) ∧ KVT K w F mu kvs xs
  | _, _, .nil _, _ => ⟨[], rfl, .nil⟩
  | (k, v) :: _, e :: es, .cons hk hh rk pk rv pv r, ht => by
    obtain ⟨xs, a, b⟩ := Ents.tup r ht
    subst ht
    obtain ⟨h1, h2⟩ := kFor_tup hk
    obtain ⟨p, hp⟩ : ∃ p, e.key = Value.ref p := by
      cases pk <;> first | exact ⟨_, rk⟩ | simp [isTup] at h1
    have hx : Rep K w F mu k (.ref p) := by
      cases pk <;> first | (have e2 : e.key = Value.ref _ := rk; rw [hp] at e2; cases e2; exact .tup ‹_› ‹_›) | simp [isTup] at h1
    refine ⟨(nk k, p, e.val) :: xs, ?_, .cons ⟨⟨h1, h2⟩, rfl, hx, _, rv, pv⟩ b⟩
    rw [List.map_cons, ← a]
    congr 1
    obtain ⟨eh, ek, evl⟩ := e
    simp only at hp hh
    subst hp hh
    rfl
theorem Ents.of_tup : ∀ {kvs : List (PV × PV)} {xs : List (NestedKey × Addr × Value)}, KVT K w F mu kvs xs → Ents K w F mu true kvs (xs.map (entryOfKey (nestedKind P w)))
  | _, _, .nil => .nil _
  | (k, v) :: _, (k', p, u) :: xs, .cons ⟨⟨h1, h2⟩, hq, pk, x, rv, pv⟩ r => by
    simp only at hq pk rv pv h1 h2
    subst hq
    exact .cons (by simp [kFor, h1, h2]) rfl (xk := .ref p) rfl pk rv pv (Ents.of_tup r)

theorem KVR.look {k : PV} (hk : kLeaf k = true) : ∀ {kvs : List (PV × PV)} {vs : List (Key × Value)}, KVR K w F mu kvs vs → (Pv.look kvs k = none ∧ valueAt vs (kx k) = none) ∨ ∃ v u x, Pv.look kvs k = some v ∧ valueAt vs (kx k) = some u ∧ RelV x u ∧ Rep K w F mu v x
  | _, _, .nil => .inl ⟨rfl, rfl⟩
  | (k1, v) :: kvs, (k2, u) :: vs, .cons ⟨h1, h2, x, rv, pv⟩ r => by
    simp only at h1 h2 rv pv
    subst h2
    have ih := KVR.look hk r
    by_cases e : k1 = k
    · subst e; exact .inr ⟨v, u, x, by simp [Pv.look], by simp [valueAt], rv, pv⟩
    · have e' : ¬ kx k1 = kx k := fun z => e ((kx_inj h1 hk).mp z)
      simpa [Pv.look, valueAt, e, e'] using ih
theorem KVT.look {k : PV} (hk : kOk 8 k = true) : ∀ {kvs : List (PV × PV)} {xs : List (NestedKey × Addr × Value)}, KVT K w F mu kvs xs → (Pv.look kvs k = none ∧ atKey xs (nk k) = none) ∨ ∃ v p x, Pv.look kvs k = some v ∧ atKey xs (nk k) = some p ∧ RelV x p.2 ∧ Rep K w F mu v x
  | _, _, .nil => .inl ⟨rfl, rfl⟩
  | (k1, v) :: kvs, (k2, p, u) :: xs, .cons ⟨⟨h1, h1'⟩, h2, _, x, rv, pv⟩ r => by
    simp only at h1 h1' h2 rv pv
    subst h2
    have ih := KVT.look hk r
    by_cases e : k1 = k
    · subst e; exact .inr ⟨v, (p, u), x, by simp [Pv.look], by simp [atKey], rv, pv⟩
    · have e' : ¬ nk k1 = nk k := fun z => e (nk_inj 8 _ _ h1' hk z)
      simpa [Pv.look, atKey, e, e'] using ih
theorem look_any {kvs : List (PV × PV)} {k : PV} : kvs.any (fun p => decide (p.1 = k)) = (Pv.look kvs k).isSome := by
  induction kvs with
  | nil => rfl
  | cons p r ih =>
    by_cases e : p.1 = k
    · simp [Pv.look, e]
    · simpa [Pv.look, e] using ih
theorem KVR.put {k v : PV} {x : V} {u : Value} (hk : kLeaf k = true) (rv : RelV x u) (pv : Rep K w F mu v x) {kvs : List (PV × PV)} {vs : List (Key × Value)} (r : KVR K w F mu kvs vs) : KVR K w F mu (Pv.put kvs k v) (stored vs (kx k) u) := by
  have e1 : vs.any (fun p => decide (p.1 = kx k)) = kvs.any (fun p => decide (p.1 = k)) := by
    induction r with
    | nil => rfl
    | @cons p q ps qs h t ih =>
      rw [List.any_cons, List.any_cons, ih]
      congr 1
      rw [h.2.1]
      exact decide_eq_decide.mpr (kx_inj h.1 hk)
  unfold Pv.put stored
  rw [e1]
  split
  · clear e1
    rename_i hn
    clear hn
    induction r with
    | nil => exact .nil
    | @cons p q ps qs h t ih =>
      rw [List.map_cons, List.map_cons]
      refine .cons ?_ ih
      by_cases e : p.1 = k
      · have e' : q.1 = kx k := by rw [h.2.1, e]
        rw [if_pos e, if_pos e']
        exact ⟨h.1, h.2.1, x, rv, pv⟩
      · have e' : ¬ q.1 = kx k := by rw [h.2.1]; exact fun z => e ((kx_inj h.1 hk).mp z)
        rw [if_neg e, if_neg e']
        exact h
  · clear e1
    rename_i hn
    clear hn
    induction r with
    | nil => exact .cons ⟨hk, rfl, x, rv, pv⟩ .nil
    | cons h t ih => exact .cons h ih
theorem KVT.put {k v : PV} {x : V} {u : Value} {p : Addr} (ht : isTup k = true) (hk : kOk 8 k = true) (pk : Rep K w F mu k (.ref p)) (rv : RelV x u) (pv : Rep K w F mu v x) {kvs : List (PV × PV)} {xs : List (NestedKey × Addr × Value)} (r : KVT K w F mu kvs xs) :
    KVT K w F mu (Pv.put kvs k v) (storedH xs (nk k) p u) := by
  have e1 : (atKey xs (nk k)).isSome = kvs.any (fun p => decide (p.1 = k)) := by
    rw [look_any]
    rcases KVT.look hk r with ⟨a, b⟩ | ⟨_, _, _, a, b, _⟩ <;> rw [a, b] <;> rfl
  unfold Pv.put storedH
  rw [e1]
  split
  · clear e1
    rename_i hn
    clear hn
    induction r with
    | nil => exact .nil
    | @cons p' q ps qs h t ih =>
      rw [List.map_cons, List.map_cons]
      refine .cons ?_ ih
      by_cases e : p'.1 = k
      · have e' : q.1 = nk k := by rw [h.2.1, e]
        rw [if_pos e]
        unfold putAt
        rw [if_pos e']
        exact ⟨h.1, h.2.1, h.2.2.1, x, rv, pv⟩
      · have e' : ¬ q.1 = nk k := by rw [h.2.1]; exact fun z => e (nk_inj 8 _ _ h.1.2 hk z)
        rw [if_neg e]
        unfold putAt
        rw [if_neg e']
        exact h
  · clear e1
    rename_i hn
    clear hn
    induction r with
    | nil => exact .cons ⟨⟨ht, hk⟩, rfl, pk, x, rv, pv⟩ .nil
    | cons h t ih => exact .cons h ih
theorem KVR.nodup {kvs : List (PV × PV)} {vs : List (Key × Value)} (r : KVR K w F mu kvs vs) : (vs.map (·.1)).Nodup ↔ (kvs.map (·.1)).Nodup := by
  have m : ∀ {kvs : List (PV × PV)} {vs : List (Key × Value)}, KVR K w F mu kvs vs → ∀ k, kLeaf k = true → (kx k ∈ vs.map (·.1) ↔ k ∈ kvs.map (·.1)) := by
    intro kvs vs r k hk
    induction r with
    | nil => simp
    | @cons p q ps qs h t ih =>
      rw [List.map_cons, List.map_cons, List.mem_cons, List.mem_cons, ih, h.2.1, kx_inj hk h.1]
  induction r with
  | nil => simp
  | @cons p q ps qs h t ih =>
    rw [List.map_cons, List.map_cons, List.nodup_cons, List.nodup_cons, h.2.1]
    exact and_congr (not_congr (m t _ h.1)) ih
theorem KVT.nodup {kvs : List (PV × PV)} {xs : List (NestedKey × Addr × Value)} (r : KVT K w F mu kvs xs) : (xs.map (·.1)).Nodup ↔ (kvs.map (·.1)).Nodup := by
  have m : ∀ {kvs : List (PV × PV)} {xs : List (NestedKey × Addr × Value)}, KVT K w F mu kvs xs → ∀ k, kOk 8 k = true → (nk k ∈ xs.map (·.1) ↔ k ∈ kvs.map (·.1)) := by
    intro kvs xs r k hk
    induction r with
    | nil => simp
    | @cons p q ps qs h t ih =>
      rw [List.map_cons, List.map_cons, List.mem_cons, List.mem_cons, ih, h.2.1]
      constructor
      · rintro (z | z)
        · exact .inl (nk_inj 8 _ _ hk h.1.2 z)
        · exact .inr z
      · rintro (z | z)
        · exact .inl (by rw [z])
        · exact .inr z
  induction r with
  | nil => simp
  | @cons p q ps qs h t ih =>
    rw [List.map_cons, List.map_cons, List.nodup_cons, List.nodup_cons, h.2.1]
    exact and_congr (not_congr (m t _ h.1.2)) ih
theorem KVR.length {kvs : List (PV × PV)} {vs : List (Key × Value)} (r : KVR K w F mu kvs vs) : kvs.length = vs.length := Paired.length r
theorem KVT.length {kvs : List (PV × PV)} {xs : List (NestedKey × Addr × Value)} (r : KVT K w F mu kvs xs) : kvs.length = xs.length := Paired.length r
end

/-- a dict in a heap -/
inductive DX (X : Cx) (F : Hp) (mu : List Addr) (h : Heap) (p : Addr) : Bool → List (PV × PV) → Prop where
  | leaf {kvs : List (PV × PV)} {vs : List (Key × Value)} (d : h.DictOf (mixKind X.prog X.w) p vs) (r : KVR X.K X.w F mu kvs vs) : DX X F mu h p false kvs
  | tup {kvs : List (PV × PV)} {xs : List (NestedKey × Addr × Value)} (d : h.DictOfH (nestedKind X.prog X.w) p xs) (r : KVT X.K X.w F mu kvs xs) : DX X F mu h p true kvs
section
variable {X : Cx} {ca : Str → Option Addr} {F : Hp} {mu : List Addr} {H : Hp} {st : Store} {pins : List (Addr × Obj)} {σ : L2.St} {s : Shared} {p : Addr} {t : Bool} {kvs : List (PV × PV)}
theorem DX.to {h : Heap} (d : DX X F mu h p t kvs) : ∃ o es ep, h.get? p = some o ∧ o.ExactDict ∧ o.data = .dict es ep ∧ Ents X.K X.w F mu t kvs es.toList ∧ (kvs.map (·.1)).Nodup := by
  cases d with
  | leaf d r =>
    obtain ⟨o, es, ep, h1, h2, h3, h4, h5, h6⟩ := d
    exact ⟨o, es, ep, h1, h2, h3, Ents.of_leaf h5 (fun e he => h4 e (by simpa using he)) r, r.nodup.mp h6⟩
  | tup d r =>
    obtain ⟨o, es, ep, h1, h2, h3, h4, h5, h6⟩ := d
    exact ⟨o, es, ep, h1, h2, h3, by rw [h4]; exact Ents.of_tup r, r.nodup.mp h6⟩
/-- the keys of tuples are what they are in the heap -/
theorem KVT.is (I : Inv X pins σ H s) (G : Hold X.K X.w ca F mu H st) {xs : List (NestedKey × Addr × Value)} (r : KVT X.K X.w F mu kvs xs) : ∀ x ∈ xs, (nestedKind X.prog X.w).is s.heap x.1 x.2.1 := by
  induction r with
  | nil => exact fun _ h => absurd h (by simp)
  | @cons p q ps qs h t ih =>
    intro x hx
    rcases List.mem_cons.mp hx with rfl | hx
    · obtain ⟨⟨_, h2⟩, h3, h4, _⟩ := h
      obtain ⟨a, b⟩ := Rep.nested I G 8 _ _ (Value.ref x.2.1) h2 h4 rfl
      rw [h3]
      exact ⟨a, b⟩
    · exact ih x hx
theorem DX.of (I : Inv X pins σ H s) (G : Hold X.K X.w ca F mu H st) {o : Obj} {es : Array DictEntry} {ep : Nat} (h1 : s.heap.get? p = some o) (h2 : o.ExactDict) (h3 : o.data = .dict es ep) (h4 : Ents X.K X.w F mu t kvs es.toList) (h5 : (kvs.map (·.1)).Nodup) : DX X F mu s.heap p t kvs := by
  cases t with
  | false =>
    obtain ⟨vs, a, b, c⟩ := Ents.leaf (P := X.prog) h4 rfl
    exact .leaf ⟨o, es, ep, h1, h2, h3, fun e he => b e (by simpa using he), a, c.nodup.mpr h5⟩ c
  | true =>
    obtain ⟨xs, a, b⟩ := Ents.tup (P := X.prog) h4 rfl
    exact .tup ⟨o, es, ep, h1, h2, h3, a, b.is I G, b.nodup.mpr h5⟩ b
/-- where a value that is a dict stands -/
theorem Rep.dict (G : Hold X.K X.w ca F mu H st) {v : PV} {x : V} (r : Rep X.K X.w F mu v x) (h : dctOf st v = some (t, kvs)) : ∃ p o es ep, x = .ref p ∧ H p = some (dHO p o) ∧ o.ExactDict ∧ o.data = .dict es ep ∧ (p == sysModules) = false ∧ kvs.length ≤ SZ ∧
    (kvs.map (·.1)).Nodup ∧ Ents X.K X.w F mu t kvs es.toList := by
  cases r with
  | dct h1 h2 h3 h4 h5 h6 h7 =>
    simp only [dctOf, Option.some.injEq, Prod.mk.injEq] at h
    obtain ⟨rfl, rfl⟩ := h
    exact ⟨_, _, _, _, rfl, G.hF h1, h2, h3, h4, h5, h6, h7⟩
  | @loc n q h1 =>
    simp only [dctOf] at h
    split at h
    · rename_i t' l e
      simp only [Option.some.injEq, Prod.mk.injEq] at h
      obtain ⟨rfl, rfl⟩ := h
      obtain ⟨u, e1, ob, es, ep, rfl, a, b, c, d, e', f⟩ := G.cl n q _ h1 e
      exact ⟨_, _, _, _, rfl, e1, a, b, c, d, e', f⟩
    · rename_i t' l e
      simp only [Option.some.injEq, Prod.mk.injEq] at h
      obtain ⟨rfl, rfl⟩ := h
      obtain ⟨u, e1, ob, es, ep, rfl, a, b, c, d, e', f⟩ := G.cl n q _ h1 e
      exact ⟨_, _, _, _, rfl, e1, a, b, c, d, e', f⟩
    · cases h
  | _ => simp [dctOf] at h
theorem Inv.dobj (I : Inv X pins σ H s) {o : Obj} (h : H p = some (dHO p o)) : s.heap.get? p = some o := (I.hok p _ h).1
theorem Rep.dx (I : Inv X pins σ H s) (G : Hold X.K X.w ca F mu H st) {v : PV} {x : V} (r : Rep X.K X.w F mu v x) (h : dctOf st v = some (t, kvs)) : ∃ p, x = .ref p ∧ (p == sysModules) = false ∧ kvs.length ≤ SZ ∧ DX X F mu s.heap p t kvs := by
  obtain ⟨p, o, es, ep, e, h1, h2, h3, h4, h5, h6, h7⟩ := Rep.dict G r h
  exact ⟨p, e, h4, h5, DX.of I G (Inv.dobj I h1) h2 h3 h7 h6⟩

/-! ### reading -/
variable {A : Around} {E : Value → Shared → Prop} {k : PV} {xk : V} {u : Value}
theorem key_ref (ht : isTup k = true) (r : Rep X.K X.w F mu k xk) (q : RelV xk u) : ∃ a, xk = .ref a ∧ u = .ref a := by
  cases r <;> first | exact ⟨_, rfl, q⟩ | simp [isTup] at ht
theorem dx_in (I : Inv X pins σ H s) (G : Hold X.K X.w ca F mu H st) (hu : A.units + 9 < cLine) (hd : (p == sysModules) = false) (d : DX X F mu s.heap p t kvs) (hk : kFor t k = true) (rk : Rep X.K X.w F mu k xk) (q : RelV xk u) {Q : Value → Shared → Prop}
    (h : ∀ n, Q (.bool (look kvs k).isSome) { s with toks := n }) : wpAny (model X.prog X.w) A (compareOp .In u (.ref p)) Q E s := by
  cases d with
  | leaf d r =>
    have hk' := kFor_leaf hk
    refine wpAny_in_of (leaf_is hk' rk q) hd d.mapOf ?_
    rcases KVR.look hk' r with ⟨a, b⟩ | ⟨_, _, _, a, b, _⟩ <;> (rw [b]; rw [a] at h; exact h _)
  | tup d r =>
    obtain ⟨h1, h2⟩ := kFor_tup hk
    obtain ⟨a, rfl, rfl⟩ := key_ref h1 rk q
    refine wpAny_in_heap (knd := nestedKind X.prog X.w) (show A.in1.units + 8 < cLine by show A.units + 1 + 8 < cLine; omega) (Rep.nested I G 8 k _ (Value.ref a) h2 rk rfl) hd d ?_
    rcases KVT.look h2 r with ⟨a, b⟩ | ⟨_, _, _, a, b, _⟩ <;> (rw [b]; rw [a] at h; exact h _)
theorem dx_notIn (I : Inv X pins σ H s) (G : Hold X.K X.w ca F mu H st) (hu : A.units + 9 < cLine) (hd : (p == sysModules) = false) (d : DX X F mu s.heap p t kvs) (hk : kFor t k = true) (rk : Rep X.K X.w F mu k xk) (q : RelV xk u) {Q : Value → Shared → Prop}
    (h : ∀ n, Q (.bool (!(look kvs k).isSome)) { s with toks := n }) : wpAny (model X.prog X.w) A (compareOp .NotIn u (.ref p)) Q E s := by
  cases d with
  | leaf d r =>
    have hk' := kFor_leaf hk
    refine wpAny_notIn_of (leaf_is hk' rk q) hd d.mapOf ?_
    rcases KVR.look hk' r with ⟨a, b⟩ | ⟨_, _, _, a, b, _⟩ <;> (rw [b]; rw [a] at h; exact h _)
  | tup d r =>
    obtain ⟨h1, h2⟩ := kFor_tup hk
    obtain ⟨a, rfl, rfl⟩ := key_ref h1 rk q
    refine wpAny_notIn_heap (knd := nestedKind X.prog X.w) (show A.in1.units + 8 < cLine by show A.units + 1 + 8 < cLine; omega) (Rep.nested I G 8 k _ (Value.ref a) h2 rk rfl) hd d ?_
    rcases KVT.look h2 r with ⟨a, b⟩ | ⟨_, _, _, a, b, _⟩ <;> (rw [b]; rw [a] at h; exact h _)
theorem dx_getItem (I : Inv X pins σ H s) (G : Hold X.K X.w ca F mu H st) (hu : A.units + 9 < cLine) (hd : (p == sysModules) = false) (d : DX X F mu s.heap p t kvs) (hk : kFor t k = true) (rk : Rep X.K X.w F mu k xk) (q : RelV xk u) {v : PV} (hv : look kvs k = some v) {Q : Value → Shared → Prop}
    (h : ∀ x w' n, RelV x w' → Rep X.K X.w F mu v x → Q w' { s with toks := n }) : wpAny (model X.prog X.w) A (getItem (.ref p) u) Q E s := by
  cases d with
  | leaf d r =>
    have hk' := kFor_leaf hk
    rcases KVR.look hk' r with ⟨a, b⟩ | ⟨v', u', x, a, b, c, e⟩
    · rw [hv] at a; cases a
    · rw [hv] at a; cases a
      exact wpAny_getItem_of (leaf_is hk' rk q) d.mapOf b (h x _ _ c e)
  | tup d r =>
    obtain ⟨h1, h2⟩ := kFor_tup hk
    obtain ⟨a, rfl, rfl⟩ := key_ref h1 rk q
    rcases KVT.look h2 r with ⟨a, b⟩ | ⟨v', u', x, a, b, c, e⟩
    · rw [hv] at a; cases a
    · rw [hv] at a; cases a
      exact wpAny_getItem_heap (knd := nestedKind X.prog X.w) (show A.in1.units + 8 < cLine by show A.units + 1 + 8 < cLine; omega) (Rep.nested I G 8 k _ (Value.ref _) h2 rk rfl) d b (h x _ _ c e)
end
end Pv
end

section
set_option Elab.async false
set_option linter.all false
set_option maxRecDepth 100000
set_option autoImplicit false
namespace Pv
open PySem PySem.Spec PyProof.Rows L2

section
variable {X : Cx} {ca : Str → Option Addr} {F : Hp} {mu : List Addr} {H : Hp} {st : Store} {pins : List (Addr × Obj)} {σ : L2.St} {s : Shared} {p : Addr} {t : Bool} {kvs : List (PV × PV)}
variable {A : Around} {E : Value → Shared → Prop} {k : PV} {xk : V} {u : Value}
theorem room8 (hu : A.units + 9 < cLine) : (nestedKind X.prog X.w).room A.in1 := show A.in1.units + 8 < cLine by show A.units + 1 + 8 < cLine; omega
theorem dx_get1 (I : Inv X pins σ H s) (G : Hold X.K X.w ca F mu H st) (hu : A.units + 9 < cLine) (hd : (p == sysModules) = false) (d : DX X F mu s.heap p t kvs) (hk : kFor t k = true) (rk : Rep X.K X.w F mu k xk) (q : RelV xk u) {Q : Value → Shared → Prop}
    (h : ∀ x w' n, RelV x w' → Rep X.K X.w F mu ((look kvs k).getD .non) x → Q w' { s with toks := n }) : wpAny (model X.prog X.w) A (call (.builtin "dict.get") [.ref p, u]) Q E s := by
  cases d with
  | leaf d r =>
    have hk' := kFor_leaf hk
    refine call_meetsIn PySem.F.slot_dict_get d.typeIs PySem.F.entry_dict_get (PySem.F.args_dict_get_2 _ _) (meets_dict_get (mixKind X.prog X.w) p (leaf_is hk' rk q) hd) ⟨_, d.mapOf, ?_⟩
    rcases KVR.look hk' r with ⟨a, b⟩ | ⟨v', u', x, a, b, c, e⟩
    · rw [a] at h; rw [b]; exact h .non _ _ rfl .non
    · rw [a] at h; rw [b]; exact h x _ _ c e
  | tup d r =>
    obtain ⟨h1, h2⟩ := kFor_tup hk
    obtain ⟨a, rfl, rfl⟩ := key_ref h1 rk q
    refine call_meetsIn PySem.F.slot_dict_get d.typeIs PySem.F.entry_dict_get (PySem.F.args_dict_get_2 _ _) (meetsH_dict_get (nestedKind X.prog X.w) p a hd) ⟨room8 hu, nk k, _, Rep.nested I G 8 k _ (Value.ref a) h2 rk rfl, d, ?_⟩
    rcases KVT.look h2 r with ⟨a, b⟩ | ⟨v', u', x, a, b, c, e⟩
    · rw [a] at h; rw [b]; exact h .non _ _ rfl .non
    · rw [a] at h; rw [b]; exact h x _ _ c e
theorem dx_get2 (I : Inv X pins σ H s) (G : Hold X.K X.w ca F mu H st) (hu : A.units + 9 < cLine) (hd : (p == sysModules) = false) (d : DX X F mu s.heap p t kvs) (hk : kFor t k = true) (rk : Rep X.K X.w F mu k xk) (q : RelV xk u) {dv : PV} {xd : V} {ud : Value} (rd : Rep X.K X.w F mu dv xd) (qd : RelV xd ud) {Q : Value → Shared → Prop}
    (h : ∀ x w' n, RelV x w' → Rep X.K X.w F mu ((look kvs k).getD dv) x → Q w' { s with toks := n }) : wpAny (model X.prog X.w) A (call (.builtin "dict.get") [.ref p, u, ud]) Q E s := by
  cases d with
  | leaf d r =>
    have hk' := kFor_leaf hk
    refine call_meetsIn PySem.F.slot_dict_get d.typeIs PySem.F.entry_dict_get (PySem.F.args_dict_get_3 _ _ _) (meets_dict_get_default (mixKind X.prog X.w) p (leaf_is hk' rk q) hd ud) ⟨_, d.mapOf, ?_⟩
    rcases KVR.look hk' r with ⟨a, b⟩ | ⟨v', u', x, a, b, c, e⟩
    · rw [a] at h; rw [b]; exact h xd _ _ qd rd
    · rw [a] at h; rw [b]; exact h x _ _ c e
  | tup d r =>
    obtain ⟨h1, h2⟩ := kFor_tup hk
    obtain ⟨a, rfl, rfl⟩ := key_ref h1 rk q
    refine call_meetsIn PySem.F.slot_dict_get d.typeIs PySem.F.entry_dict_get (PySem.F.args_dict_get_3 _ _ _) (meetsH_dict_get_default (nestedKind X.prog X.w) p a hd ud) ⟨room8 hu, nk k, _, Rep.nested I G 8 k _ (Value.ref a) h2 rk rfl, d, ?_⟩
    rcases KVT.look h2 r with ⟨a, b⟩ | ⟨v', u', x, a, b, c, e⟩
    · rw [a] at h; rw [b]; exact h xd _ _ qd rd
    · rw [a] at h; rw [b]; exact h x _ _ c e
theorem DX.len (d : DX X F mu s.heap p t kvs) : ∃ o es ep, s.heap.get? p = some o ∧ o.ExactDict ∧ o.data = .dict es ep ∧ es.size = kvs.length := by
  obtain ⟨o, es, ep, h1, h2, h3, h4, _⟩ := d.to
  refine ⟨o, es, ep, h1, h2, h3, ?_⟩
  have : ∀ {t : Bool} {kvs : List (PV × PV)} {l : List DictEntry}, Ents X.K X.w F mu t kvs l → l.length = kvs.length := by
    intro t kvs l e
    induction kvs generalizing l with
    | nil => cases e; rfl
    | cons a r ih => cases e with | cons _ _ _ _ _ _ e => rw [List.length_cons, List.length_cons, ih e]
  rw [← this h4]
  simp
theorem dx_setItem (I : Inv X pins σ H s) (G : Hold X.K X.w ca F mu H st) (hu : A.units + 9 < cLine) (d : DX X F mu s.heap p t kvs) (hz : kvs.length ≤ SZ) (hk : kFor t k = true) (rk : Rep X.K X.w F mu k xk) (q : RelV xk u) {v : PV} {xv : V} {uv : Value} (rv : Rep X.K X.w F mu v xv) (qv : RelV xv uv) {Q : Unit → Shared → Prop}
    (h : ∀ h' n, DX X F mu h' p t (put kvs k v) → Heap.SameBut p s.heap h' → Q () { s with heap := h', toks := n }) : wpAny (model X.prog X.w) A (setItem (.ref p) u uv) Q E s := by
  cases d with
  | leaf d r =>
    have hk' := kFor_leaf hk
    exact wpAny_setItem_pairs (hsz := by rw [← r.length, ← SZ_eq]; exact hz) (leaf_is hk' rk q) d fun h' d' hs => h h' _ (.leaf d' (r.put hk' qv rv)) hs
  | tup d r =>
    obtain ⟨h1, h2⟩ := kFor_tup hk
    obtain ⟨a, rfl, rfl⟩ := key_ref h1 rk q
    exact wpAny_setItem_heap (hsz := by rw [← r.length, ← SZ_eq]; exact hz) (room8 hu) (Rep.nested I G 8 k _ (Value.ref a) h2 rk rfl) d fun h' d' hs => h h' _ (.tup d' (r.put h1 h2 rk qv rv)) hs
theorem dx_dictSet (I : Inv X pins σ H s) (G : Hold X.K X.w ca F mu H st) (hu : A.units + 9 < cLine) (d : DX X F mu s.heap p t kvs) (hz : kvs.length ≤ SZ) (hk : kFor t k = true) (rk : Rep X.K X.w F mu k xk) (q : RelV xk u) {v : PV} {xv : V} {uv : Value} (rv : Rep X.K X.w F mu v xv) (qv : RelV xv uv) {Q : Unit → Shared → Prop}
    (h : ∀ h' n, DX X F mu h' p t (put kvs k v) → Heap.SameBut p s.heap h' → Q () { s with heap := h', toks := n }) : wpAny (model X.prog X.w) A (dictSet p u uv) Q E s := by
  cases d with
  | leaf d r =>
    have hk' := kFor_leaf hk
    exact wpAny_dictSet_pairs (hsz := by rw [← r.length, ← SZ_eq]; exact hz) (leaf_is hk' rk q) d fun h' d' hs => h h' _ (.leaf d' (r.put hk' qv rv)) hs
  | tup d r =>
    obtain ⟨h1, h2⟩ := kFor_tup hk
    obtain ⟨a, rfl, rfl⟩ := key_ref h1 rk q
    exact wpAny_dictSet_heap (hsz := by rw [← r.length, ← SZ_eq]; exact hz) (show A.units + 8 < cLine by omega) (Rep.nested I G 8 k _ (Value.ref a) h2 rk rfl) d fun h' d' hs => h h' _ (.tup d' (r.put h1 h2 rk qv rv)) hs
theorem dx_setd (I : Inv X pins σ H s) (G : Hold X.K X.w ca F mu H st) (hu : A.units + 9 < cLine) (hd : (p == sysModules) = false) (d : DX X F mu s.heap p t kvs) (hz : kvs.length ≤ SZ) (hk : kFor t k = true) (rk : Rep X.K X.w F mu k xk) (q : RelV xk u) {v : PV} {xv : V} {uv : Value} (rv : Rep X.K X.w F mu v xv) (qv : RelV xv uv) {Q : Value → Shared → Prop}
    (h1 : ∀ v' x w' n, look kvs k = some v' → RelV x w' → Rep X.K X.w F mu v' x → Q w' { s with toks := n })
    (h2 : look kvs k = none → ∀ h' n, DX X F mu h' p t (put kvs k v) → Heap.SameBut p s.heap h' → Q uv { s with heap := h', toks := n }) : wpAny (model X.prog X.w) A (call (.builtin "dict.setdefault") [.ref p, u, uv]) Q E s := by
  cases d with
  | leaf d r =>
    have hk' := kFor_leaf hk
    refine call_meetsIn PySem.F.slot_dict_setdefault d.typeIs PySem.F.entry_dict_setdefault (PySem.F.args_dict_setdefault_3 _ _ _) (kt_meets_setdefault (mixKind X.prog X.w) p (leaf_is hk' rk q) hd uv) ⟨_, d, by rw [← r.length, ← SZ_eq]; exact hz, fun w' hw => ?_, fun hn h' d' hs => ?_⟩
    · rcases KVR.look hk' r with ⟨a, b⟩ | ⟨v', u', x, a, b, c, e⟩
      · rw [b] at hw; cases hw
      · rw [b] at hw; cases hw; exact h1 v' x _ _ a c e
    · rcases KVR.look hk' r with ⟨a, b⟩ | ⟨v', u', x, a, b, c, e⟩
      · exact h2 a h' _ (.leaf d' (r.put hk' qv rv)) hs
      · rw [b] at hn; cases hn
  | tup d r =>
    obtain ⟨t1, t2⟩ := kFor_tup hk
    obtain ⟨a, rfl, rfl⟩ := key_ref t1 rk q
    refine call_setdefault_heap (hsz := by rw [← r.length, ← SZ_eq]; exact hz) (room8 hu) (Rep.nested I G 8 k _ (Value.ref a) t2 rk rfl) hd d (fun w' hw => ?_) fun hn h' d' hs => ?_
    · rcases KVT.look t2 r with ⟨a, b⟩ | ⟨v', u', x, a, b, c, e⟩
      · rw [b] at hw; cases hw
      · rw [b] at hw; cases hw; exact h1 v' x _ _ a c e
    · rcases KVT.look t2 r with ⟨a, b⟩ | ⟨v', u', x, a, b, c, e⟩
      · exact h2 a h' _ (.tup d' (r.put t1 t2 rk qv rv)) hs
      · rw [b] at hn; cases hn

end

/-! ### update -/
/-- rows over the numbers from 1 on below k + 1 -/
def rowsOf (k : Nat) : Nat → List (List Int)
  | 0 => [[]]
  | n + 1 => (rowsOf k n).flatMap fun w => (List.range k).map fun (j : Nat) => ((j : Int) + 1) :: w
def hashW (w : List Int) : Int := reduceHash (Builtin.Tuple.tupleHashOf (w.map hashInt))
def unlike : List Int → Bool
  | [] => true
  | x :: r => r.all (fun y => !decide (x = y)) && unlike r
def shortRows : List (List Int) := rowsOf 5 0 ++ rowsOf 5 1 ++ rowsOf 5 2 ++ rowsOf 5 3 ++ rowsOf 4 4
theorem unlike_short : unlike (shortRows.map hashW) = true := by decide +kernel
theorem unlike_inj {f : List Int → Int} : ∀ {l : List (List Int)}, unlike (l.map f) = true → ∀ a ∈ l, ∀ b ∈ l, f a = f b → a = b
  | [], _, _, h, _, _, _ => absurd h (by simp)
  | x :: r, hu, a, ha, b, hb, e => by
    rw [List.map_cons, unlike, Bool.and_eq_true] at hu
    have h1 : ∀ y ∈ r, f x ≠ f y := fun y hy z => by
      have := List.all_eq_true.mp hu.1 (f y) (List.mem_map.mpr ⟨y, hy, rfl⟩)
      simp [z] at this
    rcases List.mem_cons.mp ha with e1 | ha
    · rcases List.mem_cons.mp hb with e2 | hb
      · rw [e1, e2]
      · exact absurd (e1 ▸ e) (h1 b hb)
    · rcases List.mem_cons.mp hb with e2 | hb
      · exact absurd (e2 ▸ e).symm (h1 a ha)
      · exact unlike_inj hu.2 a ha b hb e
theorem mem_rowsOf (k : Nat) : ∀ (w : List Int), (∀ i ∈ w, 0 < i ∧ i < (k : Int) + 1) → w ∈ rowsOf k w.length
  | [], _ => by simp [rowsOf]
  | i :: r, h => by
    rw [List.length_cons, rowsOf, List.mem_flatMap]
    have h1 := h i List.mem_cons_self
    refine ⟨r, mem_rowsOf k r fun j hj => h j (List.mem_cons_of_mem _ hj), List.mem_map.mpr ⟨(i - 1).toNat, List.mem_range.mpr (by omega), ?_⟩⟩
    congr 1
    omega
theorem smI_all {n : Int} : ∀ {l : List PV}, l.all (smI n) = true → ∃ w : List Int, l = w.map .int ∧ ∀ i ∈ w, 0 < i ∧ i < n
  | [], _ => ⟨[], rfl, fun _ h => absurd h (by simp)⟩
  | a :: r, h => by
    rw [List.all_cons, Bool.and_eq_true] at h
    obtain ⟨w, e, hw⟩ := smI_all h.2
    cases a <;> simp [smI] at h
    rename_i i
    refine ⟨i :: w, by rw [e]; rfl, fun j hj => ?_⟩
    rcases List.mem_cons.mp hj with rfl | hj
    · exact h.1
    · exact hw j hj
theorem nk_word (W : World) (w : List Int) : (nk (.tup (w.map .int))).hash W = hashW w := by
  have key : ∀ w : List Int, NestedKey.hashes W (nkL (w.map PV.int)) = w.map hashInt := by
    intro w
    induction w with
    | nil => rfl
    | cons i r ih => rw [List.map_cons, List.map_cons, nkL, NestedKey.hashes, ih]; rfl
  rw [nk, NestedKey.hash, key]
  rfl
theorem smW_short {k : PV} (h : smW k = true) : ∃ w, k = .tup (w.map .int) ∧ w ∈ shortRows := by
  cases k <;> simp only [smW] at h <;> try (cases h)
  rename_i l
  unfold shortRows
  simp only [List.mem_append]
  rw [Bool.or_eq_true, Bool.and_eq_true, Bool.and_eq_true] at h
  rcases h with ⟨h1, h2⟩ | ⟨h1, h2⟩
  · obtain ⟨w, rfl, hw⟩ := smI_all h2
    have hl : w.length ≤ 3 := by simpa using h1
    have hm := mem_rowsOf 5 w hw
    refine ⟨w, rfl, .inl ?_⟩
    have : w.length = 0 ∨ w.length = 1 ∨ w.length = 2 ∨ w.length = 3 := by omega
    rcases this with e | e | e | e <;> rw [e] at hm <;> simp [hm]
  · obtain ⟨w, rfl, hw⟩ := smI_all h2
    have hl : w.length ≤ 4 := by simpa using h1
    have hm := mem_rowsOf 4 w hw
    have hm5 := mem_rowsOf 5 w fun i hi => by have := hw i hi; omega
    refine ⟨w, rfl, ?_⟩
    have : w.length = 0 ∨ w.length = 1 ∨ w.length = 2 ∨ w.length = 3 ∨ w.length = 4 := by omega
    rcases this with e | e | e | e | e <;> rw [e] at hm hm5 <;> simp [hm, hm5]
theorem smW_hash (W : World) {a b : PV} (ha : smW a = true) (hb : smW b = true) (e : (nk a).hash W = (nk b).hash W) : a = b := by
  obtain ⟨w, rfl, h1⟩ := smW_short ha
  obtain ⟨v, rfl, h2⟩ := smW_short hb
  rw [nk_word, nk_word] at e
  rw [unlike_inj unlike_short w h1 v h2 e]

section
variable {X : Cx} {ca : Str → Option Addr} {F : Hp} {mu : List Addr} {H : Hp} {st : Store} {pins : List (Addr × Obj)} {σ : L2.St} {s : Shared} {p : Addr} {t : Bool} {kvs : List (PV × PV)}
variable {A : Around} {E : Value → Shared → Prop} {k : PV} {xk : V} {u : Value}
theorem KVR.merge {more : List (PV × PV)} {ms : List (Key × Value)} (m : KVR X.K X.w F mu more ms) : ∀ {kvs : List (PV × PV)} {vs : List (Key × Value)}, KVR X.K X.w F mu kvs vs → KVR X.K X.w F mu (more.foldl (fun a p => Pv.put a p.1 p.2) kvs) (merged vs ms) := by
  induction m with
  | nil => exact fun r => r
  | @cons a b as bs h t ih =>
    intro kvs vs r
    obtain ⟨h1, h2, x, h3, h4⟩ := h
    have := ih (r.put h1 h3 h4)
    rw [← h2] at this
    exact this
theorem KVT.merge {more : List (PV × PV)} {ms : List (NestedKey × Addr × Value)} (m : KVT X.K X.w F mu more ms) : ∀ {kvs : List (PV × PV)} {xs : List (NestedKey × Addr × Value)}, KVT X.K X.w F mu kvs xs → KVT X.K X.w F mu (more.foldl (fun a p => Pv.put a p.1 p.2) kvs) (storedAllH xs ms) := by
  induction m with
  | nil => exact fun r => r
  | @cons a b as bs h t ih =>
    intro kvs xs r
    obtain ⟨h1, h2, h3, x, h4, h5⟩ := h
    have := ih (r.put h1.1 h1.2 h3 h4 h5)
    rw [← h2] at this
    exact this
theorem KVT.hashes {more : List (PV × PV)} {ms : List (NestedKey × Addr × Value)} (m : KVT X.K X.w F mu more ms) (hs : more.all (fun p => smW p.1) = true) (hn : (more.map (·.1)).Nodup) : (ms.map fun x => (nestedKind X.prog X.w).hash x.1).Nodup := by
  induction m with
  | nil => exact List.nodup_nil
  | @cons a b as bs h t ih =>
    rw [List.all_cons, Bool.and_eq_true] at hs
    rw [List.map_cons, List.nodup_cons] at hn
    rw [List.map_cons, List.nodup_cons]
    refine ⟨fun hm => ?_, ih hs.2 hn.2⟩
    obtain ⟨z, hz, e⟩ := List.mem_map.mp hm
    have key : ∀ {as : List (PV × PV)} {bs : List (NestedKey × Addr × Value)}, KVT X.K X.w F mu as bs → as.all (fun p => smW p.1) = true → ∀ z ∈ bs, ∃ q ∈ as, z.1 = nk q.1 ∧ smW q.1 = true := by
      intro as bs t
      induction t with
      | nil => exact fun _ _ h => absurd h (by simp)
      | @cons c d cs ds h' t' ih' =>
        intro hs z hz
        rw [List.all_cons, Bool.and_eq_true] at hs
        rcases List.mem_cons.mp hz with rfl | hz
        · exact ⟨c, List.mem_cons_self, h'.2.1, hs.1⟩
        · obtain ⟨q, hq, e1, e2⟩ := ih' hs.2 z hz
          exact ⟨q, List.mem_cons_of_mem _ hq, e1, e2⟩
    obtain ⟨q, hq, e1, e2⟩ := key t hs.2 z hz
    have e3 : (nk q.1).hash X.w = (nk a.1).hash X.w := by rw [← e1, ← h.2.1]; exact e
    have := smW_hash X.w e2 hs.1 e3
    exact hn.1 (this ▸ List.mem_map.mpr ⟨q, hq, rfl⟩)
theorem dx_update (I : Inv X pins σ H s) (G : Hold X.K X.w ca F mu H st) (hu : A.units + 9 < cLine) (d : DX X F mu s.heap p t kvs) {o : Addr} {more : List (PV × PV)} (m : DX X F mu s.heap o t more) (hpo : p ≠ o) (hos : (o == sysModules) = false)
    (hz : kvs.length + more.length ≤ SZ) (hc : t = false ∨ kvs ≠ [] ∨ more.all (fun p => smW p.1) = true) {Q : Value → Shared → Prop}
    (h : ∀ h', DX X F mu h' p t (more.foldl (fun a p => put a p.1 p.2) kvs) → Heap.SameBut p s.heap h' → Q .none { s with heap := h' }) : wpAny (model X.prog X.w) A (call (.builtin "dict.update") [.ref p, .ref o]) Q E s := by
  have hn := (m.to.choose_spec.choose_spec.choose_spec.2.2.2.2)
  cases d with
  | leaf d r =>
    cases m with
    | leaf m rm =>
      exact call_meetsIn PySem.F.slot_dict_update d.typeIs PySem.F.entry_dict_update (PySem.F.args_dict_update_2 _ _) (meets_dict_update (mixKind X.prog X.w) p o hpo hos) ⟨_, _, d, m, by rw [← r.length, ← rm.length, ← SZ_eq]; exact hz, fun h' d' _ hs => h h' (.leaf d' (rm.merge r)) hs⟩
  | tup d r =>
    cases m with
    | tup m rm =>
      refine call_update_dictH (room8 hu) hpo hos d m ?_ (by rw [← r.length, ← rm.length, ← SZ_eq]; exact hz) fun h' d' _ hs => h h' (.tup d' (rm.merge r)) hs
      rcases hc with z | z | z
      · cases z
      · refine .inl fun e => z ?_
        rw [e] at r
        cases r; rfl
      · exact .inr ⟨fun x hx => nestedKind_stays.tuple (rm.is I G x hx), rm.hashes z hn⟩
end
end Pv
end

section
set_option Elab.async false
set_option linter.all false
set_option maxRecDepth 100000
set_option autoImplicit false
namespace Pv
open PySem PySem.Spec PyProof.Rows L2

/-- an iterator that hands out new pairs, f i at turn i, while FH holds of the abstract heap -/
def ItP (n : Nat) (f : Nat → Option (V × V)) (FH : Hp → Prop) : It :=
  ⟨fun i H => FH H ∧ i < n, fun i H v H' => ∃ T x y, v = .ref T ∧ H T = none ∧ H' = upd H T (.tup [x, y]) ∧ f i = some (x, y), fun i H => FH H ∧ i = n⟩
/-- .. single values -/
def ItS (n : Nat) (f : Nat → Option V) (FH : Hp → Prop) : It :=
  ⟨fun i H => FH H ∧ i < n, fun i H v H' => H' = H ∧ f i = some v, fun i H => FH H ∧ i = n⟩
theorem walkP {n : Nat} {f : Nat → Option (V × V)} {FH : Hp → Prop} : Walk (ItP n f FH) n FH (fun i H v H' => ∃ T x y, v = .ref T ∧ H T = none ∧ H' = upd H T (.tup [x, y]) ∧ f i = some (x, y)) :=
  ⟨fun i H hi h => ⟨h, hi⟩, fun H h => ⟨h, rfl⟩, fun i H x H' _ _ y => y⟩
theorem walkS {n : Nat} {f : Nat → Option V} {FH : Hp → Prop} : Walk (ItS n f FH) n FH (fun i H v H' => H' = H ∧ f i = some v) :=
  ⟨fun i H hi h => ⟨h, hi⟩, fun H h => ⟨h, rfl⟩, fun i H x H' _ _ y => y⟩

section
variable {P : Program} {w : World} {K : PySem.W.Frag} {tg : Expr} {it : Addr} {fp ex wr : List Addr} {n : Nat} {tn : Nat → Heap → Prop} {Fix : Heap → Prop} {FH : Hp → Prop}
/-- what the iterator reads holds of the heap -/
def Holds (P : Program) (w : World) (K : PySem.W.Frag) (FH : Hp → Prop) (Fix : Heap → Prop) : Prop := ∀ (X : Cx), X.prog = P → X.w = w → X.K = K → ∀ (pins : List (Addr × Obj)) (σ : L2.St) (H : Hp) (s : Shared), Inv X pins σ H s → FH H → Fix s.heap
theorem turn_pairs {f : Nat → Option (V × V)} (hm : it ∈ fp) (hw : ∀ b ∈ wr, b ∈ fp) (ho : ∀ i h, tn i h → ∀ b ∈ fp, ∃ o, h.get? b = some o ∧ ∀ v, o.data ≠ .cell v)
    (hk : ∀ i h h', tn i h → (∀ b ∈ fp, ∀ o, h.get? b = some o → h'.get? b = some o) → tn i h')
    (G : ∀ (X : Cx), X.prog = P → X.w = w → X.K = K → ∀ (pins : List (Addr × Obj)) (σ : L2.St) (H : Hp) (s : Shared), Inv X pins σ H s → FH H → ∃ (ex : List Addr) (Fix : Heap → Prop) (Y : Nat → Heap → Value → Heap → Prop), Fix s.heap ∧
      (∀ A : Around, A.handled = none → GoesN P w A tg it ex wr n Y (fun i h => tn i h ∧ Fix h)) ∧ ∀ i h0 v h, i < n → Y i h0 v h → ∃ T a b x y, v = .ref T ∧ h0.objs.size ≤ T ∧ h.IsTuple T #[a, b] ∧ f i = some (x, y) ∧ RelV x a ∧ RelV y b)
    (hs : ∀ (A : Around) (i : Nat) (s : Shared) (Q : Value → Shared → Prop) (E : Value → Shared → Prop), tn i s.heap → Q (.ref it) s → wpAny (model P w) A (pyIter (.ref it)) Q E s) :
    Turn P w K tg (ItP n f FH) fp it tn where
  mem := hm
  obj := ho
  keep := hk
  item := by
    intro X hP hW hKK hc i pins s σ H E I hf st hg
    obtain ⟨hH, hi⟩ := hg
    obtain ⟨ex, Fix, Y, fx, GG, hY⟩ := G X hP hW hKK pins σ H s I hH
    subst hP hW hKK
    refine wpAny_mono ((GG X.A (I.ok.hd hc)).goes i s (fun v s2 => ∃ x H', Inv X pins σ H' s2 ∧ RelV x v ∧ (ItP n f FH).yld i H x H' ∧ tn (i + 1) s2.heap ∧ ∀ b ∈ fp, H' b = none) E hi ⟨st, fx⟩ fun v h' tk y st' keep _ => ?_) (fun _ _ z => z) fun _ _ z => z
    obtain ⟨T, a, b, x, y', ev, hT, hTT, hfi, ra, rb⟩ := hY i _ _ _ hi y
    subst ev
    obtain ⟨o, ho', hcl, m, hdt⟩ := id hTT
    have new : ObjOk X.prog X.w (upd H T (.tup [x, y'])) h' T (.tup [x, y']) := ⟨by show 2 ≤ sizeLine; decide, [a, b], .cons ra (.cons rb .nil), o, ho', hcl, m, hdt⟩
    have I1 := I.turnedNew (t' := tk) (ch := fp) (fun b ob hb e => keep b ob (fun z => hb (hw b z)) e) hf hT new
    refine ⟨.ref T, _, I1, rfl, ⟨T, x, y', rfl, I.hok.fresh hT, rfl, hfi⟩, st'.1, fun b hb => ?_⟩
    obtain ⟨ob, eb, _⟩ := ho i s.heap st b hb
    rw [upd_ne (Nat.ne_of_lt (Nat.lt_of_lt_of_le (Heap.lt_size eb) hT))]
    exact (hf b hb).1
  done := by
    intro X hP hW hKK hc i pins s σ H E I hf st hg
    obtain ⟨hH, hi⟩ := hg
    subst hi
    obtain ⟨ex, Fix, Y, fx, GG, hY⟩ := G X hP hW hKK pins σ H s I hH
    subst hP hW hKK
    exact (GG X.A (I.ok.hd hc)).stops s (fun s1 => Inv X pins σ H s1) E ⟨st, fx⟩ fun h' tk keep _ => I.turnedL (t' := tk) (ch := fp) (fun b ob hb e => keep b ob (fun z => hb (hw b z)) e) hf
  self := hs
theorem turn_single {f : Nat → Option V} {Y : Nat → Value → Heap → Prop} (hm : it ∈ fp) (hw : ∀ b ∈ wr, b ∈ fp) (ho : ∀ i h, tn i h → ∀ b ∈ fp, ∃ o, h.get? b = some o ∧ ∀ v, o.data ≠ .cell v)
    (hk : ∀ i h h', tn i h → (∀ b ∈ fp, ∀ o, h.get? b = some o → h'.get? b = some o) → tn i h') (hF : Holds P w K FH Fix)
    (G : ∀ A : Around, A.handled = none → Goes P w A tg it ex wr n Y (fun i h => tn i h ∧ Fix h))
    (hY : ∀ i v h, i < n → Y i v h → ∃ x, f i = some x ∧ RelV x v)
    (hs : ∀ (A : Around) (i : Nat) (s : Shared) (Q : Value → Shared → Prop) (E : Value → Shared → Prop), tn i s.heap → Q (.ref it) s → wpAny (model P w) A (pyIter (.ref it)) Q E s) :
    Turn P w K tg (ItS n f FH) fp it tn where
  mem := hm
  obj := ho
  keep := hk
  item := by
    intro X hP hW hKK hc i pins s σ H E I hf st hg
    obtain ⟨hH, hi⟩ := hg
    have fx := hF X hP hW hKK pins σ H s I hH
    subst hP hW hKK
    refine wpAny_mono ((G X.A (I.ok.hd hc)).goes i s (fun v s2 => ∃ x H', Inv X pins σ H' s2 ∧ RelV x v ∧ (ItS n f FH).yld i H x H' ∧ tn (i + 1) s2.heap ∧ ∀ b ∈ fp, H' b = none) E hi ⟨st, fx⟩ fun v h' tk y st' keep _ => ?_) (fun _ _ z => z) fun _ _ z => z
    obtain ⟨x, hfi, rx⟩ := hY i _ _ hi y
    exact ⟨x, H, I.turnedL (t' := tk) (ch := fp) (fun b ob hb e => keep b ob (fun z => hb (hw b z)) e) hf, rx, ⟨rfl, hfi⟩, st'.1, fun b hb => (hf b hb).1⟩
  done := by
    intro X hP hW hKK hc i pins s σ H E I hf st hg
    obtain ⟨hH, hi⟩ := hg
    subst hi
    have fx := hF X hP hW hKK pins σ H s I hH
    subst hP hW hKK
    exact (G X.A (I.ok.hd hc)).stops s (fun s1 => Inv X pins σ H s1) E ⟨st, fx⟩ fun h' tk keep _ => I.turnedL (t' := tk) (ch := fp) (fun b ob hb e => keep b ob (fun z => hb (hw b z)) e) hf
  self := hs
end

/-! ### the keys of a dict -/
section
variable {X : Cx} {tg e : Expr} {td : TE}
def FHd (d : Addr) (o : Obj) : Hp → Prop := fun H => H d = some (dHO d o)
theorem holdsD {P : Program} {w : World} {K : PySem.W.Frag} {d : Addr} {o : Obj} {es : Array DictEntry} {ep : Nat} (ho : o.ExactDict) (hd : o.data = .dict es ep) : Holds P w K (FHd d o) (fun h => h.DictRaw d es ep) := fun X hP hW hK pins σ H s I h => ⟨o, (I.hok d _ h).1, ho, hd⟩
/-- what the entries' keys, values are -/
def keyV (es : Array DictEntry) (i : Nat) : Option V := es[i]?.bind fun e => absV e.key
def itemV (es : Array DictEntry) (i : Nat) : Option (V × V) := es[i]?.bind fun e => (absV e.key).bind fun k => (absV e.val).map fun v => (k, v)
/-- each entry's key and value are such as a reading has -/
def EntsV (es : Array DictEntry) : Prop := ∀ e ∈ es.toList, (∃ x, RelV x e.key) ∧ ∃ x, RelV x e.val
theorem turn_keysD {P : Program} {w : World} {K : PySem.W.Frag} {d it : Addr} {o : Obj} {es : Array DictEntry} {ep : Nat} (ho : o.ExactDict) (hd : o.data = .dict es ep) (hv : EntsV es) (hne : d ≠ it) :
    Turn P w K tg (ItS es.size (keyV es) (FHd d o)) [it] it (fun i h => h.IsKeyIter it d i es.size ep) := by
  refine turn_single (ex := [it, d]) (wr := [it]) (Fix := fun h => h.DictRaw d es ep) (by simp) (fun b h => h) (fun i h st b hb => ?_) (fun i h h' st k => st.at fun o e => k it (by simp) o e) (holdsD ho hd) (fun A hA => Goes.rawKeys hA it d hne es ep) (fun i v h hi y => ?_) (fun A i s Q E st h => wpAny_pyIter_keyiter st h)
  · have e : b = it := by simpa using hb
    subst e
    obtain ⟨oi, e, c, dd⟩ := st
    exact ⟨oi, e, fun v z => by rw [dd] at z; cases z⟩
  · obtain ⟨hi, rfl⟩ := y
    obtain ⟨⟨x, rx⟩, _⟩ := hv es[i] (by simp)
    exact ⟨x, by simp [keyV, hi, rx.abs], rx⟩
def iKeysD (td : TE) : TI := fun σ H R => td σ H fun x H1 => ∃ (d : Addr) (o : Obj) (es : Array DictEntry) (ep : Nat), x = .ref d ∧ H1 d = some (dHO d o) ∧ o.ExactDict ∧ o.data = .dict es ep ∧ EntsV es ∧ (d == sysModules) = false ∧ R (ItS es.size (keyV es) (FHd d o)) H1
theorem pi_keysD (he : PE X e td) : PI X tg e (iKeysD td) := by
  refine ⟨fun pins s σ H R I h => ?_⟩
  refine thn (he.run pins s σ H _ I h) fun u s1 ⟨x, H1, I1, rx, d, o, es, ep, ex, hH, h1, h2, h3, h4, q⟩ => ?_
  subst ex
  obtain rfl : u = Value.ref d := rx
  have hg := (I1.hok d _ hH).1
  refine wpAny_pyIter_dict_raw h4 ⟨o, hg, h1, h2⟩ ?_
  exact pi_one (tk := s1.toks) I1 _ (turn_keysD h1 h2 h3 (Nat.ne_of_lt (Heap.lt_size hg))) ⟨_, Heap.get?_push_size _ rfl, rfl, rfl⟩ q
/-! ### its items -/
theorem turn_itemsD {P : Program} {w : World} {K : PySem.W.Frag} {elts : List Expr} {kk : Nat} {tpos : Pos} {d it : Addr} {o : Obj} {es : Array DictEntry} {ep : Nat} (ho : o.ExactDict) (hd : o.data = .dict es ep) (hv : EntsV es) (hne : d ≠ it) :
    Turn P w K (.Tuple elts kk tpos) (ItP es.size (itemV es) (FHd d o)) [it] it (fun i h => ∃ ok ov, IsItemIter h it d i es.size ep ok ov) := by
  refine turn_pairs (wr := [it]) (by simp) (fun b h => h) (fun i h st b hb => ?_) (fun i h h' st k => let ⟨ok, ov, e⟩ := st; ⟨ok, ov, k it (by simp) _ e⟩) (fun X hP hW hK pins σ H s I h => ⟨[it, d], fun h => h.DictRaw d es ep, _, holdsD ho hd X hP hW hK pins σ H s I h, fun A hA => GoesN.rawItems hA it d hne es ep, fun i h0 v h hi y => ?_⟩)
    (fun A i s Q E st h => let ⟨_, _, e⟩ := st; wpAny_pyIter_itemiter e h)
  · have e : b = it := by simpa using hb
    subst e
    obtain ⟨ok, ov, e⟩ := st
    exact ⟨_, e, fun v z => nomatch z⟩
  · obtain ⟨T, hi, rfl, hT, hTT⟩ := y
    obtain ⟨⟨x, rx⟩, y', ry⟩ := hv es[i] (by simp)
    exact ⟨T, _, _, x, y', rfl, hT, hTT, by simp [itemV, hi, rx.abs, ry.abs], rx, ry⟩
def iItemsD (td : TE) : TI := fun σ H R => td σ H fun x H1 => ∃ (d : Addr) (o : Obj) (es : Array DictEntry) (ep : Nat), x = .ref d ∧ H1 d = some (dHO d o) ∧ o.ExactDict ∧ o.data = .dict es ep ∧ EntsV es ∧ (d == sysModules) = false ∧ R (ItP es.size (itemV es) (FHd d o)) H1
theorem pi_itemsD {apos cpos : Pos} {elts : List Expr} {kk : Nat} {tpos : Pos} (he : PE X e td) (hbase : attributeBase e "items" X.env (eval e X.env) = eval e X.env) (hline : (apos.endLine == cpos.line) = true) :
    PI X (.Tuple elts kk tpos) (.Call (.Attribute e "items" apos) [] [] cpos) (iItemsD td) := by
  refine ⟨fun pins s σ H R I h => ?_⟩
  refine wpAny_Call_method (T := "dict") (id := "dict.items") hbase rfl hline F.plainAttrs_dict F.slot_dict_items F.type_dict_items (thn (he.run pins s σ H _ I h) fun u s1 ⟨x, H1, I1, rx, d, o, es, ep, ex, hH, h1, h2, h3, h4, q⟩ => ?_)
  subst ex
  obtain rfl : u = Value.ref d := rx
  have hg := (I1.hok d _ hH).1
  have raw : s1.heap.DictRaw d es ep := ⟨o, hg, h1, h2⟩
  refine ⟨raw.typeIs, fun a ea => by cases ea; exact ⟨o, hg, h1.2.1⟩, ?_⟩
  have I2 : Inv X pins σ H1 { s1 with heap := s1.heap.push { cls := .type "dict_items", data := .fields #[.ref d] } } := I1.kept (t' := s1.toks) fun b ob q => Heap.get?_push_of_some _ q
  have fin : wpAny (model X.prog X.w) X.A (pyIter (.ref s1.heap.objs.size)) (PIE X pins σ (.Tuple elts kk tpos) R) X.xe { s1 with heap := s1.heap.push { cls := .type "dict_items", data := .fields #[.ref d] } } := by
    have hg2 := (I2.hok d _ hH).1
    refine wpAny_pyIter_items_raw (d := d) ⟨_, Heap.get?_push_size _ rfl, rfl, rfl⟩ (es := es) (ep := ep) ⟨o, hg2, h1, h2⟩ ?_
    exact pi_one (tk := s1.toks) I2 _ (turn_itemsD h1 h2 h3 (Nat.ne_of_lt (Heap.lt_size hg2))) ⟨.none, .none, Heap.get?_push_size _ rfl⟩ q
  show wpAny _ _ (callWith cpos (.builtin "dict.items") [.ref d] [] []) _ X.xe s1
  exact method_meetsIn F.slot_dict_items F.entry_dict_items rfl (PySem.evalArgs_none ⟨rfl, raw.typeIs, F.args_dict_items_1 _, _, meets_dict_items_raw d h4, ⟨es, ep, raw⟩, fin⟩)
end

/-! ### enumerate of a tuple -/
set_option maxHeartbeats 1000000 in
theorem meets_enum1 {v : Value} {o : Obj} {H : Heap → Prop} (B : Begins v o H) :
    Meets (Builtin.«enumerate.__new__» ⟨[.type "enumerate", v], []⟩) (fun _ R s => H s.heap ∧
      R (.ok (.ret (.ref (s.heap.push o).objs.size))) { s with heap := (s.heap.push o).push { cls := .type "enumerate", data := .fields #[.none, .bool false, .ref s.heap.objs.size, rawInt 0, .none, .none] } }) :=
  .of_wp fun prog w A R s h => by
    obtain ⟨hp, g, d, tk, os⟩ := s
    obtain ⟨hv, h⟩ := h
    have hsub := sub_enumerate
    have beg : ∀ {A' : Around} {E : Value → Shared → Prop} {Q : Value → Shared → Prop}, Q (.ref hp.objs.size) ⟨hp.push o, g, d, tk, os⟩ → wpAny (model prog w) A' (pyIter v) Q E ⟨hp, g, d, tk, os⟩ := fun q => B.iter prog w _ _ ⟨hp, g, d, tk, os⟩ _ hv q
    wp_walk using beg
    refine wpAny_stack_any fun st => wpAny_pure ?_
    split
    · rename_i c _ _ _ _ _
      cases (c == Value.type "enumerate")
      · wp_walk using beg
        exact ⟨_, rfl, h⟩
      · wp_walk using beg
        exact ⟨_, rfl, h⟩
    · wp_walk using beg
      exact ⟨_, rfl, h⟩
section
variable {prog : Program} {w : World} {A : Around} {E : Value → Shared → Prop} {s : Shared}
theorem enum1_begins {v : Value} {o : Obj} {H : Heap → Prop} {Q : Value → Shared → Prop} (B : Begins v o H) (hv : H s.heap)
    (h : ∀ h', IsEnum h' (s.heap.objs.size + 1) s.heap.objs.size 0 .none → h'.get? s.heap.objs.size = some o → (∀ b ob, s.heap.get? b = some ob → h'.get? b = some ob) → Q (.ref (s.heap.objs.size + 1)) { s with heap := h' }) :
    wpAny (model prog w) A (call (.type "enumerate") [v]) Q E s := by
  refine callType_new F.called_enumerate (by decide) (F.typeCall_enumerate_1 _) (F.newCall_enumerate_1 _) (fun obj => F.args_object_init_2 obj _) F.entry_enumerate_new (meets_enum1 B) ⟨hv, ?_⟩
  have hz : (s.heap.push o).objs.size = s.heap.objs.size + 1 := Heap.size_push ..
  show _ ∧ _
  rw [hz]
  have he : IsEnum ((s.heap.push o).push { cls := .type "enumerate", data := .fields #[.none, .bool false, .ref s.heap.objs.size, rawInt 0, .none, .none] }) (s.heap.objs.size + 1) s.heap.objs.size 0 .none := by
    have q := Heap.get?_push_size (s.heap.push o) (o := { cls := .type "enumerate", data := .fields #[.none, .bool false, .ref s.heap.objs.size, rawInt 0, .none, .none] }) rfl
    rw [hz] at q
    exact q
  exact ⟨⟨_, he, rfl⟩, h _ he (Heap.get?_push_of_some _ (Heap.get?_push_size _ B.free)) fun b ob x => Heap.get?_push_of_some _ (Heap.get?_push_of_some _ x)⟩
end
def FHt (K : PySem.W.Frag) (a : Addr) (xs : List V) : Hp → Prop := fun H => SqT K H a xs
def enumV (xs : List V) (i : Nat) : Option (V × V) := xs[i]?.map fun x => (.int (i : Nat), x)
theorem turn_enumT {P : Program} {w : World} {K : PySem.W.Frag} {elts : List Expr} {kk : Nat} {tpos : Pos} {a e it : Addr} {xs : List V} (hae : a ≠ it) (hei : e ≠ it) (hea : e ≠ a) :
    Turn P w K (.Tuple elts kk tpos) (ItP xs.length (enumV xs) (FHt K a xs)) [e, it] e (fun i h => (∃ old, IsEnum h e it ((0 : Int) + (i : Int)) old) ∧ h.IsTupleIter it a i) := by
  refine turn_pairs (wr := [e, it]) (by simp) (fun b h => h) (fun i h st b hb => ?_) (fun i h h' st k => ?_) (fun X hP hW hK pins σ H s I h => ?_) (fun A i s Q E st h => let ⟨⟨_, he⟩, _⟩ := st; wpAny_pyIter_enum he h)
  · obtain ⟨⟨old, he⟩, ⟨o, ho, hc, hd⟩⟩ := st
    have e' : b = e ∨ b = it := by simpa using hb
    rcases e' with z | z
    · rw [z]; exact ⟨_, he, fun v q => nomatch q⟩
    · rw [z]; exact ⟨o, ho, fun v q => by rw [hd] at q; cases q⟩
  · obtain ⟨⟨old, he⟩, hi⟩ := st
    exact ⟨⟨old, k e (by simp) _ he⟩, hi.at fun o q => k it (by simp) o q⟩
  · subst hP hW hK
    obtain ⟨its, rv, hT, _⟩ := I.tuple h
    have hl : its.toArray.size = xs.length := by rw [List.size_toArray, rv.length]
    refine ⟨e :: [it, a], fun h => h.IsTuple a its.toArray, fun i h0 v h => ∃ T t x, v = .ref T ∧ h0.objs.size ≤ T ∧ its.toArray[i]? = some x ∧ h.IsTuple T #[.int ((0 : Int) + (i : Int)) t, x], hT, fun A hA => ?_, fun i h0 v h hi y => ?_⟩
    · rw [← hl]
      have D := GoesN.enumFrom (elts := elts) (x1 := kk) (pos := tpos) 0 (Draws.tuple (prog := X.prog) (w := X.w) (A := A.in1) hA it a hae its.toArray) e hei (by simp [hei, hea]) (by simp)
      exact ⟨D.sub, fun i h h' st k => ⟨⟨(D.frame i h h' ⟨st.1.1, st.1.2, st.2⟩ k).1, (D.frame i h h' ⟨st.1.1, st.1.2, st.2⟩ k).2.1⟩, (D.frame i h h' ⟨st.1.1, st.1.2, st.2⟩ k).2.2⟩,
        fun i s Q E hi st hQ => D.goes i s Q E hi ⟨st.1.1, st.1.2, st.2⟩ fun v h' tk y st' => hQ v h' tk y ⟨⟨st'.1, st'.2.1⟩, st'.2.2⟩,
        fun s Q E st hQ => D.stops s Q E ⟨st.1.1, st.1.2, st.2⟩ hQ, fun i s Q E st hQ => D.self i s Q E ⟨st.1.1, st.1.2, st.2⟩ hQ⟩
    · obtain ⟨T, t, x, rfl, hT, hx, hTT⟩ := y
      have hx' : its[i]? = some x := by simpa using hx
      have hxs : xs[i]? = some xs[i] := List.getElem?_eq_getElem hi
      obtain ⟨u, hu, ru⟩ := rv.get hxs
      rw [hx'] at hu; cases hu
      exact ⟨T, _, _, .int (i : Nat), xs[i], rfl, hT, hTT, by simp [enumV, hi], ⟨t, by rw [Int.zero_add]⟩, ru⟩
def iEnumT (K : PySem.W.Frag) (ta : TA) : TI := fun σ H R => ta σ H fun vs H1 => ∃ (a : Addr) (xs : List V), vs = [.ref a] ∧ SqT K H1 a xs ∧ R (ItP xs.length (enumV xs) (FHt K a xs)) H1
theorem pi_enumT {X : Cx} {e : Expr} {ta : TA} {p pos tpos : Pos} {elts : List Expr} {kk : Nat} (hg : Gl X "enumerate") (hm : X.mg "enumerate" = none) (ha : PA X [e] ta) (hs : starEach [e] X.env = [(false, eval e X.env)]) :
    PI X (.Tuple elts kk tpos) (.Call (.Name "enumerate" p) [e] [] pos) (iEnumT X.K ta) := by
  refine ⟨fun pins s σ H R I h => ?_⟩
  refine Call_ (ld_blt I hg hm boot_enumerate (PyProof.Rows.callWith_type1 (thn (ha.run pos pins s σ H _ I h) fun us s1 ⟨vs, H1, I1, r1, a, xs, ev, hq, q⟩ => ?_) hs rfl))
  subst ev
  cases r1 with
  | cons r rr =>
    cases rr
    cases r
    obtain ⟨its, rv, hT, hz⟩ := I1.tuple hq
    have hlt : a < s1.heap.objs.size := by obtain ⟨o, ho, _⟩ := hT; exact Heap.lt_size ho
    refine enum1_begins (begins_tuple a its.toArray) hT fun h' he hit hk => wpAny_pyIter_enum he ?_
    have I2 : Inv X pins σ H1 { s1 with heap := h' } := I1.kept (t' := s1.toks) hk
    refine ⟨s1.heap.objs.size + 1, [s1.heap.objs.size + 1, s1.heap.objs.size], _, _, H1, rfl, I2, turn_enumT (Nat.ne_of_lt hlt) (Nat.succ_ne_self _) (Nat.ne_of_gt (Nat.lt_succ_of_lt hlt)), ⟨⟨.none, by rw [Int.natCast_zero, Int.add_zero]; exact he⟩, ⟨_, hit, rfl, rfl⟩⟩, fun b hb => ?_, q⟩
    have e' : b = s1.heap.objs.size + 1 ∨ b = s1.heap.objs.size := by simpa using hb
    have hle : s1.heap.objs.size ≤ b := by
      rcases e' with z | z
      · rw [z]; exact Nat.le_add_right _ _
      · rw [z]; exact Nat.le_refl _
    exact I1.fpOk hle (I1.hok.fresh hle)
end Pv
end

section
set_option Elab.async false
set_option linter.all false
set_option maxRecDepth 100000
set_option autoImplicit false
namespace Pv
open PySem PySem.Spec PyProof.Rows L2
section
variable (X : Cx) (ca : Str → Option Addr)
def ROb (f : PV → PV → Store → Option Bool) : R2 := fun x y H Q => ∃ (F : Hp) (mu : List Addr) (st : Store) (a b : PV) (c : Bool), Hold X.K X.w ca F mu H st ∧ Rep X.K X.w F mu a x ∧ Rep X.K X.w F mu b y ∧ f a b st = some c ∧ Q (.bl c) H
end
def copO : Cop → CmpOp
  | .lt => .Lt | .le => .LtE | .gt => .Gt | .ge => .GtE | .eq => .Eq | .ne => .NotEq | .inn => .In | .nin => .NotIn | .is => .Is | .isn => .IsNot
section
variable {X : Cx} {ca : Str → Option Addr}
theorem rep_non {K : PySem.W.Frag} {w : World} {F : Hp} {mu : List Addr} {a : PV} {x : V} (r : Rep K w F mu a x) : decide (x = .non) = decide (a = .non) := by
  cases r <;> simp
theorem op_cmp (hu : X.A.units + 70 < cLine) (op : Cop) : OpR X (compareOp (copO op)) (ROb X ca (cmpP op)) := by
  intro pins s σ H x y v u Q I rx ry h
  obtain ⟨F, mu, st, a, b, c, G, ra, rb, e, q⟩ := h
  have ok : ∀ {s' : Shared}, Inv X pins σ H s' → EP X pins σ Q (Value.bool c) s' := fun I' => ⟨.bl c, H, I', rfl, q⟩
  cases op with
  | eq =>
    simp only [cmpP] at e
    split at e
    · rename_i hb
      unfold both at hb
      rw [Bool.and_eq_true] at hb
      simp only [Option.some.injEq] at e; subst e
      refine op_eqD (by omega) pins s σ H x y v u Q I rx ry ⟨_, _, Rep.dv G ra hb.1, Rep.dv G rb hb.2, isD_shaped hb.1 (by decide), isD_shaped hb.2 (by decide), ?_⟩
      rw [eqv_dat 30 _ _ hb.1 hb.2]
      exact q
    · cases e
  | ne =>
    simp only [cmpP] at e
    split at e
    · rename_i hb
      unfold both at hb
      rw [Bool.and_eq_true] at hb
      simp only [Option.some.injEq] at e; subst e
      refine op_neD (by omega) pins s σ H x y v u Q I rx ry ⟨_, _, Rep.dv G ra hb.1, Rep.dv G rb hb.2, isD_shaped hb.1 (by decide), isD_shaped hb.2 (by decide), ?_⟩
      rw [eqv_dat 30 _ _ hb.1 hb.2]
      exact q
    · cases e
  | lt =>
    have data : (both a b && alk a b && !decide (a = .non)) = true → c = ltP a b → wpAny (model X.prog X.w) X.A (compareOp .Lt v u) (EP X pins σ Q) X.xe s := by
      intro h1 h2
      subst h2
      unfold both at h1
      simp only [Bool.and_eq_true] at h1
      obtain ⟨⟨⟨h1, h2⟩, h3⟩, h4⟩ := h1
      obtain ⟨as, r1⟩ := Dp.reads I _ x v (Rep.dp G 30 a x h1 ra) rx
      obtain ⟨bs, r2⟩ := Dp.reads I _ y u (Rep.dp G 30 b y h2 rb) ry
      have dd := (isD_can 30 a h1).2
      have ne : dat a ≠ .none := by
        cases ra with
        | non => simp at h4
        | dct => simp [isD] at h1
        | loc => simp [isD] at h1
        | fz => simp [isD] at h1
        | _ => simp [dat]
      show wpAny _ _ (richCompare .Lt v u) _ _ _
      refine PySem.W.rcLt_alike _ _ X.A s v u as bs r1 r2 (alk_dat _ _ h3) ne ?_ _ _ _ _ ?_
      · have : min (dat a).depth (dat b).depth ≤ (dat a).depth := Nat.min_le_left _ _
        omega
      · rw [lt_dat 30 _ _ h1 h2 h3]; exact ok I
    simp only [cmpP] at e
    split at e
    · simp only [Option.some.injEq] at e; subst e
      cases ra; cases rb
      exact op_lt pins s σ H _ _ v u Q I rx ry ⟨_, _, rfl, rfl, q⟩
    · split at e
      · rename_i hb
        simp only [Option.some.injEq] at e
        exact data hb e.symm
      · cases e
  | le =>
    simp only [cmpP] at e
    split at e
    · simp only [Option.some.injEq] at e; subst e
      cases ra; cases rb
      exact op_le pins s σ H _ _ v u Q I rx ry ⟨_, _, rfl, rfl, q⟩
    · cases e
  | gt =>
    simp only [cmpP] at e
    split at e
    · simp only [Option.some.injEq] at e; subst e
      cases ra; cases rb
      exact op_gt pins s σ H _ _ v u Q I rx ry ⟨_, _, rfl, rfl, q⟩
    · cases e
  | ge =>
    simp only [cmpP] at e
    split at e
    · simp only [Option.some.injEq] at e; subst e
      cases ra; cases rb
      exact op_ge pins s σ H _ _ v u Q I rx ry ⟨_, _, rfl, rfl, q⟩
    · cases e
  | is =>
    simp only [cmpP] at e
    split at e
    · simp only [Option.some.injEq] at e; subst e
      cases ra; cases rb
      exact op_isBl pins s σ H _ _ v u Q I rx ry ⟨_, _, rfl, rfl, q⟩
    · simp only [Option.some.injEq] at e
      have e2 := rep_non ra
      cases rb
      exact op_isN pins s σ H _ _ v u Q I rx ry ⟨rfl, by rw [e2, e]; exact q⟩
    · cases e
  | isn =>
    simp only [cmpP] at e
    split at e
    · simp only [Option.some.injEq] at e; subst e
      cases ra; cases rb
      exact op_notBl pins s σ H _ _ v u Q I rx ry ⟨_, _, rfl, rfl, q⟩
    · simp only [Option.some.injEq] at e
      have e2 := rep_non ra
      cases rb
      exact op_notN pins s σ H _ _ v u Q I rx ry ⟨rfl, by rw [e2, e]; exact q⟩
    · cases e
  | inn =>
    simp only [cmpP, inP] at e
    split at e
    · rename_i t kvs hd
      split at e
      · rename_i hk
        simp only [Option.some.injEq] at e; subst e
        obtain ⟨p, rfl, h1, h2, d⟩ := Rep.dx I G rb hd
        cases (show u = Value.ref p from ry)
        exact dx_in I G (by omega) h1 d hk ra rx fun n => ok (I.tok n)
      · cases e
    · cases e
  | nin =>
    simp only [cmpP, inP, Option.map_eq_some_iff] at e
    obtain ⟨c', e, e2⟩ := e
    subst e2
    split at e
    · rename_i t kvs hd
      split at e
      · rename_i hk
        simp only [Option.some.injEq] at e; subst e
        obtain ⟨p, rfl, h1, h2, d⟩ := Rep.dx I G rb hd
        cases (show u = Value.ref p from ry)
        exact dx_notIn I G (by omega) h1 d hk ra rx fun n => ok (I.tok n)
      · cases e
    · cases e
end
end Pv
end

section
set_option Elab.async false
set_option linter.all false
set_option maxRecDepth 100000
set_option autoImplicit false
namespace Pv
open PySem PySem.Spec PyProof.Rows L2

/-- a frame's values, against the slots -/
def FrR (K : PySem.W.Frag) (w : World) (F : Hp) (mu : List Addr) (fr : Fr) (σ : L2.St) : Prop := fr.length = σ.length ∧ ∀ (i : Nat) v, fr[i]? = some (some v) → ∃ x, σ[i]? = some (some x) ∧ Rep K w F mu v x
section
variable {K : PySem.W.Frag} {w : World} {F F' : Hp} {mu mu' : List Addr} {fr : Fr} {σ : L2.St}
theorem FrR.mono (e : Ext F mu F' mu') (h : FrR K w F mu fr σ) : FrR K w F' mu' fr σ := ⟨h.1, fun i v hv => let ⟨x, a, b⟩ := h.2 i v hv; ⟨x, a, b.mono e⟩⟩
theorem FrR.set (h : FrR K w F mu fr σ) {i : Nat} {v : PV} {x : V} (r : Rep K w F mu v x) : FrR K w F mu (fr.set i (some v)) (σ.set i (some x)) := by
  refine ⟨by rw [List.length_set, List.length_set]; exact h.1, fun j u hu => ?_⟩
  by_cases e : i = j
  · subst e
    by_cases hi : i < fr.length
    · rw [List.getElem?_set_self hi] at hu
      cases hu
      exact ⟨x, List.getElem?_set_self (by rw [← h.1]; exact hi), r⟩
    · rw [List.getElem?_eq_none (by rw [List.length_set]; omega)] at hu; cases hu
  · rw [List.getElem?_set_ne e] at hu
    obtain ⟨y, a, b⟩ := h.2 j u hu
    exact ⟨y, by rw [List.getElem?_set_ne e]; exact a, b⟩
theorem FrR.clear (h : FrR K w F mu fr σ) (i : Nat) : FrR K w F mu (fr.set i none) (σ.set i none) := by
  refine ⟨by rw [List.length_set, List.length_set]; exact h.1, fun j u hu => ?_⟩
  by_cases e : i = j
  · subst e
    by_cases hi : i < fr.length
    · rw [List.getElem?_set_self hi] at hu; cases hu
    · rw [List.getElem?_eq_none (by rw [List.length_set]; omega)] at hu; cases hu
  · rw [List.getElem?_set_ne e] at hu
    obtain ⟨y, a, b⟩ := h.2 j u hu
    exact ⟨y, by rw [List.getElem?_set_ne e]; exact a, b⟩
theorem FrR.wipe (h : FrR K w F mu fr σ) : ∀ vs : List Nat, FrR K w F mu (wipeF fr vs) (wipe σ vs)
  | [] => h
  | v :: vs => (FrR.wipe h vs).clear v
end

section
variable (X : Cx) (ca : Str → Option Addr)
/-- the reading of an expression that is worth f -/
def LE (f : Fr → Store → Option (PV × Store)) : TE := fun σ H Q => ∃ (F : Hp) (mu : List Addr) (fr : Fr) (st : Store) (v : PV) (st' : Store), Hold X.K X.w ca F mu H st ∧ FrR X.K X.w F mu fr σ ∧ f fr st = some (v, st') ∧
  ∀ F' mu' H' x, Le F mu H F' mu' H' → Hold X.K X.w ca F' mu' H' st' → Rep X.K X.w F' mu' v x → Q x H'
/-- .. of a test -/
def LT (f : Fr → Store → Option (Bool × Store)) : TT := fun σ H Q => ∃ (F : Hp) (mu : List Addr) (fr : Fr) (st : Store) (b : Bool) (st' : Store), Hold X.K X.w ca F mu H st ∧ FrR X.K X.w F mu fr σ ∧ f fr st = some (b, st') ∧
  ∀ F' mu' H', Le F mu H F' mu' H' → Hold X.K X.w ca F' mu' H' st' → Q b H'
/-- .. of arguments -/
def LA (f : Fr → Store → Option (List PV × Store)) : TA := fun σ H Q => ∃ (F : Hp) (mu : List Addr) (fr : Fr) (st : Store) (vs : List PV) (st' : Store), Hold X.K X.w ca F mu H st ∧ FrR X.K X.w F mu fr σ ∧ f fr st = some (vs, st') ∧
  ∀ F' mu' H' xs, Le F mu H F' mu' H' → Hold X.K X.w ca F' mu' H' st' → RepL X.K X.w F' mu' vs xs → Q xs H'
end
theorem _root_.L2.PE.weak {X : Cx} {e : Expr} {t t' : TE} (h : PE X e t) (k : ∀ σ H Q, t' σ H Q → t σ H Q) : PE X e t' := ⟨fun pins s σ H Q I q => h.run pins s σ H Q I (k _ _ _ q)⟩
theorem _root_.L2.PT.weak {X : Cx} {e : Expr} {t t' : TT} (h : PT X e t) (k : ∀ σ H Q, t' σ H Q → t σ H Q) : PT X e t' := ⟨fun pins s σ H Q I q => h.run pins s σ H Q I (k _ _ _ q)⟩
theorem _root_.L2.PW.weak {X : Cx} {e : Expr} {t t' : TT} (h : PW X e t) (k : ∀ σ H Q, t' σ H Q → t σ H Q) : PW X e t' := ⟨fun wh pins s σ H Q I q => h.run wh pins s σ H Q I (k _ _ _ q)⟩
theorem _root_.L2.PA.weak {X : Cx} {e : List Expr} {t t' : TA} (h : PA X e t) (k : ∀ σ H Q, t' σ H Q → t σ H Q) : PA X e t' := ⟨fun pos pins s σ H Q I q => h.run pos pins s σ H Q I (k _ _ _ q)⟩

section
variable {X : Cx} {ca : Str → Option Addr} {f g h : Fr → Store → Option (PV × Store)} {ea eb ec : Expr} {pos : Pos}
theorem bind2 {α β γ : Type} {a : Option (α × β)} {k : α → β → Option γ} {r : γ} (h : (a.bind fun p => k p.1 p.2) = some r) : ∃ x s, a = some (x, s) ∧ k x s = some r := by
  cases a with
  | none => cases h
  | some p => exact ⟨p.1, p.2, rfl, h⟩

/-! ### names, constants -/
theorem s_var {i : Nat} {x : Str} (hN : X.N[i]? = some x) (hv : Vis X.env.scope x) (hd : (x == ("__debug__" : Str)) = false) (hcd : (x == ("__classdict__" : Str)) = false) : PE X (.Name x pos) (LE X ca fun fr st => match fr[i]? with
    | some (some v) => some (v, st)
    | _ => none) := (pe_var hN hv hd hcd).weak fun σ H Q ⟨F, mu, fr, st, v, st', G, R, e, q⟩ => by
  simp only at e
  split at e
  · rename_i u hu
    simp only [Option.some.injEq, Prod.mk.injEq] at e
    obtain ⟨rfl, rfl⟩ := e
    obtain ⟨y, a, b⟩ := R.2 i _ hu
    exact ⟨y, a, q F mu H y .refl G b⟩
  · cases e
theorem tC_LE {v : PV} {x : V} (r : ∀ K w F mu, Rep K w F mu v x) : ∀ σ H Q, LE X ca (fun _ st => some (v, st)) σ H Q → tC x σ H Q := fun σ H Q ⟨F, mu, fr, st, u, st', G, R, e, q⟩ => by
  simp only [Option.some.injEq, Prod.mk.injEq] at e
  obtain ⟨rfl, rfl⟩ := e
  exact q F mu H x .refl G (r _ _ _ _)
theorem s_int {i : Int} {j} : PE X (.Constant (.int i) j pos) (LE X ca fun _ st => some (.int i, st)) := pe_int.weak (tC_LE fun _ _ _ _ => .int i)
theorem s_bl {i : Bool} {j} : PE X (.Constant (.bool i) j pos) (LE X ca fun _ st => some (.bl i, st)) := pe_bl.weak (tC_LE fun _ _ _ _ => .bl i)
theorem s_non {j} : PE X (.Constant .none j pos) (LE X ca fun _ st => some (.non, st)) := pe_non.weak (tC_LE fun _ _ _ _ => .non)
theorem s_str {x : Str} {j} : PE X (.Constant (.str x) j pos) (LE X ca fun _ st => some (.str x, st)) := pe_str.weak (tC_LE fun _ _ _ _ => .str x)

/-! ### two at a time -/
theorem le2 {k : PV → PV → Store → Option (PV × Store)} {r : R2} {σ : L2.St} {H : Hp} {Q : VK} (h : LE X ca (fun fr st => (f fr st).bind fun p => (g fr p.2).bind fun q => k p.1 q.1 q.2) σ H Q)
    (hr : ∀ F mu st x y v st' a b H, Hold X.K X.w ca F mu H st → Rep X.K X.w F mu x a → Rep X.K X.w F mu y b → k x y st = some (v, st') → (∀ F' mu' H' z, Le F mu H F' mu' H' → Hold X.K X.w ca F' mu' H' st' → Rep X.K X.w F' mu' v z → Q z H') → r a b H Q) :
    tOp r (LE X ca f) (LE X ca g) σ H Q := by
  obtain ⟨F, mu, fr, st, v, st', G, R, e, q⟩ := h
  obtain ⟨x, s1, e1, e⟩ := bind2 (k := fun x s1 => (g fr s1).bind fun q => k x q.1 q.2) e
  obtain ⟨y, s2, e2, e⟩ := bind2 (k := fun y s2 => k x y s2) e
  refine ⟨F, mu, fr, st, x, s1, G, R, e1, fun F1 mu1 H1 a L1 G1 R1 => ⟨F1, mu1, fr, s1, y, s2, G1, R.mono L1.ext, e2, fun F2 mu2 H2 b L2 G2 R2 => ?_⟩⟩
  exact hr F2 mu2 s2 x y v st' a b H2 G2 (R1.mono L2.ext) R2 e fun F3 mu3 H3 z L3 G3 R3 => q F3 mu3 H3 z ((L1.trans L2).trans L3) G3 R3
theorem s_bin {op : Bop} (ha : PE X ea (LE X ca f)) (hb : PE X eb (LE X ca g)) : PE X (.BinOp ea (bopO op) eb pos) (LE X ca fun fr st => (f fr st).bind fun p => (g fr p.2).bind fun q => (binP op p.1 q.1 q.2).map (·, q.2)) :=
  (pe_op (op_bin (ca := ca) op) ha hb).weak fun σ H Q h => le2 (k := fun x y s => (binP op x y s).map (·, s)) h fun F mu st x y v st' a b H G R1 R2 e q => by
    obtain ⟨r, e1, e2⟩ := Option.map_eq_some_iff.mp e
    cases e2
    exact ⟨F, mu, st, x, y, _, G, R1, R2, e1, q⟩
theorem s_cmp (hu : X.A.units + 70 < cLine) {op : Cop} (ha : PE X ea (LE X ca f)) (hb : PE X eb (LE X ca g)) (hm : behindInMarks (copO op) eb = false) : PE X (.Compare ea [copO op] [eb] pos) (LE X ca fun fr st => (f fr st).bind fun p => (g fr p.2).bind fun q => (cmpP op p.1 q.1 q.2).map fun c => (.bl c, q.2)) :=
  (pe_cmpR (op_cmp (ca := ca) hu op) ha hb hm).weak fun σ H Q h => le2 (k := fun x y s => (cmpP op x y s).map fun c => (.bl c, s)) h fun F mu st x y v st' a b H G R1 R2 e q => by
    obtain ⟨r, e1, e2⟩ := Option.map_eq_some_iff.mp e
    cases e2
    exact ⟨F, mu, st, x, y, r, G, R1, R2, e1, q F mu H _ .refl G (.bl r)⟩
/-- .. as a test -/
theorem st_cmp (hu : X.A.units + 70 < cLine) {op : Cop} (ha : PE X ea (LE X ca f)) (hb : PE X eb (LE X ca g)) (hm : behindInMarks (copO op) eb = false) : PT X (.Compare ea [copO op] [eb] pos) (LT X ca fun fr st => (f fr st).bind fun p => (g fr p.2).bind fun q => (cmpP op p.1 q.1 q.2).map fun c => (c, q.2)) :=
  (pt_cmpR (op_cmp (ca := ca) hu op) ha hb hm).weak fun σ H Q ⟨F, mu, fr, st, v, st', G, R, e, q⟩ => by
    obtain ⟨x, s1, e1, e⟩ := bind2 (k := fun x s1 => (g fr s1).bind fun q => (cmpP op x q.1 q.2).map fun c => (c, q.2)) e
    obtain ⟨y, s2, e2, e⟩ := bind2 (k := fun y s2 => (cmpP op x y s2).map fun c => (c, s2)) e
    obtain ⟨c, e3, e4⟩ := Option.map_eq_some_iff.mp e
    cases e4
    refine ⟨F, mu, fr, st, x, s1, G, R, e1, fun F1 mu1 H1 a L1 G1 R1 => ⟨F1, mu1, fr, s1, y, st', G1, R.mono L1.ext, e2, fun F2 mu2 H2 b L2 G2 R2 => ?_⟩⟩
    exact ⟨F2, mu2, st', x, y, v, G2, R1.mono L2.ext, R2, e3, v, rfl, q F2 mu2 H2 (L1.trans L2) G2⟩
theorem s_cmp2 (hu : X.A.units + 70 < cLine) {o p : Cop} (ha : PE X ea (LE X ca f)) (hb : PE X eb (LE X ca g)) (hc : PE X ec (LE X ca h)) (hm : lastMarks [copO o, copO p] [eb, ec] = false) : PE X (.Compare ea [copO o, copO p] [eb, ec] pos)
    (LE X ca fun fr st => (f fr st).bind fun x => (g fr x.2).bind fun y => (cmpP o x.1 y.1 y.2).bind fun k => if k then (h fr y.2).bind fun z => (cmpP p y.1 z.1 z.2).map fun c => (.bl c, z.2) else some (.bl false, y.2)) :=
  (pe_chain (op_cmp (ca := ca) hu o) (op_cmp (ca := ca) hu p) ha hb hc hm).weak fun σ H Q ⟨F, mu, fr, st, v, st', G, R, e, q⟩ => by
    obtain ⟨x, s1, e1, e⟩ := bind2 (k := fun x s1 => (g fr s1).bind fun y => (cmpP o x y.1 y.2).bind fun k => if k then (h fr y.2).bind fun z => (cmpP p y.1 z.1 z.2).map fun c => (PV.bl c, z.2) else some (PV.bl false, y.2)) e
    obtain ⟨y, s2, e2, e⟩ := bind2 (k := fun y s2 => (cmpP o x y s2).bind fun k => if k then (h fr s2).bind fun z => (cmpP p y z.1 z.2).map fun c => (PV.bl c, z.2) else some (PV.bl false, s2)) e
    obtain ⟨k, e3, e⟩ := Option.bind_eq_some_iff.mp e
    refine ⟨F, mu, fr, st, x, s1, G, R, e1, fun F1 mu1 H1 a L1 G1 R1 => ⟨F1, mu1, fr, s1, y, s2, G1, R.mono L1.ext, e2, fun F2 mu2 H2 b L2 G2 R2 => ⟨F2, mu2, s2, x, y, k, G2, R1.mono L2.ext, R2, e3, k, rfl, ?_⟩⟩⟩
    cases k with
    | false =>
      simp only [Bool.false_eq_true, if_false, Option.some.injEq, Prod.mk.injEq] at e ⊢
      obtain ⟨rfl, rfl⟩ := e
      exact q F2 mu2 H2 _ (L1.trans L2) G2 (.bl false)
    | true =>
      simp only [if_true] at e ⊢
      obtain ⟨z, s3, e4, e⟩ := bind2 (k := fun z s3 => (cmpP p y z s3).map fun c => (PV.bl c, s3)) e
      obtain ⟨c, e5, e6⟩ := Option.map_eq_some_iff.mp e
      cases e6
      refine ⟨F2, mu2, fr, s2, z, st', G2, (R.mono L1.ext).mono L2.ext, e4, fun F3 mu3 H3 d L3 G3 R3 => ⟨F3, mu3, st', y, z, c, G3, R2.mono L3.ext, R3, e5, ?_⟩⟩
      exact q F3 mu3 H3 _ ((L1.trans L2).trans L3) G3 (.bl c)
theorem s_neg (ha : PE X ea (LE X ca f)) : PE X (.UnaryOp .USub ea pos) (LE X ca fun fr st => (f fr st).bind fun x => match x.1 with
    | .int i => some (.int (-i), x.2)
    | _ => none) := (pe_un un_neg ha).weak fun σ H Q ⟨F, mu, fr, st, v, st', G, R, e, q⟩ => by
  obtain ⟨x, s1, e1, e⟩ := bind2 (k := fun (x : PV) s1 => match x with
    | .int i => some (PV.int (-i), s1)
    | _ => none) e
  split at e
  · simp only [Option.some.injEq, Prod.mk.injEq] at e
    obtain ⟨rfl, rfl⟩ := e
    refine ⟨F, mu, fr, st, _, s1, G, R, e1, fun F1 mu1 H1 a L1 G1 R1 => ?_⟩
    cases R1
    exact ⟨_, rfl, q F1 mu1 H1 _ L1 G1 (.int _)⟩
  · cases e

/-! ### truth -/
theorem blOf_some {v : PV} {b : Bool} (h : blOf v = some b) : v = .bl b := by
  cases v <;> simp [blOf] at h
  rw [h]
def asT (f : Fr → Store → Option (PV × Store)) : Fr → Store → Option (Bool × Store) := fun fr st => (f fr st).bind fun p => (blOf p.1).map (·, p.2)
theorem asT_some {f : Fr → Store → Option (PV × Store)} {fr : Fr} {st : Store} {b : Bool} {s1 : Store} (h : asT f fr st = some (b, s1)) : f fr st = some (.bl b, s1) := by
  unfold asT at h
  obtain ⟨x, s, e1, e⟩ := bind2 (k := fun x s => (blOf x).map (·, s)) h
  obtain ⟨c, e2, e3⟩ := Option.map_eq_some_iff.mp e
  cases e3
  rw [e1, blOf_some e2]
theorem asT_of {f : Fr → Store → Option (PV × Store)} {fr : Fr} {st : Store} {b : Bool} {s1 : Store} (h : f fr st = some (.bl b, s1)) : asT f fr st = some (b, s1) := by
  unfold asT; rw [h]; rfl
/-- an expression that gives a truth value, as a test -/
theorem st_val (ha : PE X ea (LE X ca f)) (he : ∀ whole, isTrue ea X.env whole = (do let v ← whole; standAt ea.pos; holding [v] (truthy v))) : PT X ea (LT X ca (asT f)) :=
  (pt_val ha he).weak fun σ H Q ⟨F, mu, fr, st, v, st', G, R, e, q⟩ => ⟨F, mu, fr, st, .bl v, st', G, R, asT_some e, fun F1 mu1 H1 x L1 G1 R1 => by cases R1; exact ⟨v, rfl, q F1 mu1 H1 L1 G1⟩⟩
theorem s_not (ha : PE X ea (LE X ca f)) : PE X (.UnaryOp .Not ea pos) (LE X ca fun fr st => (f fr st).bind fun x => (blOf x.1).map fun c => (.bl (!c), x.2)) := (pe_not ha).weak fun σ H Q ⟨F, mu, fr, st, v, st', G, R, e, q⟩ => by
  obtain ⟨x, s1, e1, e⟩ := bind2 (k := fun x s1 => (blOf x).map fun c => (PV.bl (!c), s1)) e
  obtain ⟨c, e2, e3⟩ := Option.map_eq_some_iff.mp e
  cases e3
  obtain rfl := blOf_some e2
  exact ⟨F, mu, fr, st, _, st', G, R, e1, fun F1 mu1 H1 a L1 G1 R1 => by cases R1; exact ⟨c, rfl, q F1 mu1 H1 _ L1 G1 (.bl _)⟩⟩
theorem st_not {t : Fr → Store → Option (Bool × Store)} (ha : PT X ea (LT X ca t)) : PT X (.UnaryOp .Not ea pos) (LT X ca fun fr st => (t fr st).map fun p => (!p.1, p.2)) := (pt_not ha).weak fun σ H Q ⟨F, mu, fr, st, v, st', G, R, e, q⟩ => by
  obtain ⟨p, e1, e2⟩ := Option.map_eq_some_iff.mp e
  cases e2
  exact ⟨F, mu, fr, st, p.1, p.2, G, R, e1, q⟩
theorem s_and {rest : List Expr} (ha : PE X ea (LE X ca f)) (hb : PE X (.BoolOp .And (eb :: rest) pos) (LE X ca g)) : PE X (.BoolOp .And (ea :: eb :: rest) pos) (LE X ca fun fr st => (f fr st).bind fun x => (blOf x.1).bind fun c => if c then g fr x.2 else some (.bl false, x.2)) :=
  (pe_and ha hb).weak fun σ H Q ⟨F, mu, fr, st, v, st', G, R, e, q⟩ => by
    obtain ⟨x, s1, e1, e⟩ := bind2 (k := fun x s1 => (blOf x).bind fun c => if c then g fr s1 else some (.bl false, s1)) e
    obtain ⟨c, e2, e⟩ := Option.bind_eq_some_iff.mp e
    obtain rfl := blOf_some e2
    refine ⟨F, mu, fr, st, _, s1, G, R, e1, fun F1 mu1 H1 a L1 G1 R1 => ?_⟩
    cases R1
    refine ⟨c, rfl, ?_⟩
    cases c with
    | false =>
      simp only [Bool.false_eq_true, if_false, Option.some.injEq, Prod.mk.injEq] at e ⊢
      obtain ⟨rfl, rfl⟩ := e
      exact q F1 mu1 H1 _ L1 G1 (.bl false)
    | true =>
      simp only [if_true] at e ⊢
      exact ⟨F1, mu1, fr, s1, v, st', G1, R.mono L1.ext, e, fun F2 mu2 H2 b L2 G2 R2 => q F2 mu2 H2 b (L1.trans L2) G2 R2⟩
theorem s_or {rest : List Expr} (ha : PE X ea (LE X ca f)) (hb : PE X (.BoolOp .Or (eb :: rest) pos) (LE X ca g)) : PE X (.BoolOp .Or (ea :: eb :: rest) pos) (LE X ca fun fr st => (f fr st).bind fun x => (blOf x.1).bind fun c => if c then some (.bl true, x.2) else g fr x.2) :=
  (pe_or ha hb).weak fun σ H Q ⟨F, mu, fr, st, v, st', G, R, e, q⟩ => by
    obtain ⟨x, s1, e1, e⟩ := bind2 (k := fun x s1 => (blOf x).bind fun c => if c then some (.bl true, s1) else g fr s1) e
    obtain ⟨c, e2, e⟩ := Option.bind_eq_some_iff.mp e
    obtain rfl := blOf_some e2
    refine ⟨F, mu, fr, st, _, s1, G, R, e1, fun F1 mu1 H1 a L1 G1 R1 => ?_⟩
    cases R1
    refine ⟨c, rfl, ?_⟩
    cases c with
    | true =>
      simp only [if_true, Option.some.injEq, Prod.mk.injEq] at e ⊢
      obtain ⟨rfl, rfl⟩ := e
      exact q F1 mu1 H1 _ L1 G1 (.bl true)
    | false =>
      simp only [Bool.false_eq_true, if_false] at e ⊢
      exact ⟨F1, mu1, fr, s1, v, st', G1, R.mono L1.ext, e, fun F2 mu2 H2 b L2 G2 R2 => q F2 mu2 H2 b (L1.trans L2) G2 R2⟩
theorem st_and {rest : List Expr} {t u : Fr → Store → Option (Bool × Store)} (ha : PT X ea (LT X ca t)) (hb : PW X (.BoolOp .And (eb :: rest) pos) (LT X ca u)) : PW X (.BoolOp .And (ea :: eb :: rest) pos) (LT X ca fun fr st => (t fr st).bind fun x => if x.1 then u fr x.2 else some (false, x.2)) :=
  (pw_and ha hb).weak fun σ H Q ⟨F, mu, fr, st, v, st', G, R, e, q⟩ => by
    obtain ⟨c, s1, e1, e⟩ := bind2 (k := fun (c : Bool) s1 => if c then u fr s1 else some (false, s1)) e
    refine ⟨F, mu, fr, st, c, s1, G, R, e1, fun F1 mu1 H1 L1 G1 => ?_⟩
    cases c with
    | false =>
      simp only [Bool.false_eq_true, if_false, Option.some.injEq, Prod.mk.injEq] at e ⊢
      obtain ⟨rfl, rfl⟩ := e
      exact q F1 mu1 H1 L1 G1
    | true =>
      simp only [if_true] at e ⊢
      exact ⟨F1, mu1, fr, s1, v, st', G1, R.mono L1.ext, e, fun F2 mu2 H2 L2 G2 => q F2 mu2 H2 (L1.trans L2) G2⟩
theorem st_or {rest : List Expr} {t u : Fr → Store → Option (Bool × Store)} (ha : PT X ea (LT X ca t)) (hb : PW X (.BoolOp .Or (eb :: rest) pos) (LT X ca u)) : PW X (.BoolOp .Or (ea :: eb :: rest) pos) (LT X ca fun fr st => (t fr st).bind fun x => if x.1 then some (true, x.2) else u fr x.2) :=
  (pw_or ha hb).weak fun σ H Q ⟨F, mu, fr, st, v, st', G, R, e, q⟩ => by
    obtain ⟨c, s1, e1, e⟩ := bind2 (k := fun (c : Bool) s1 => if c then some (true, s1) else u fr s1) e
    refine ⟨F, mu, fr, st, c, s1, G, R, e1, fun F1 mu1 H1 L1 G1 => ?_⟩
    cases c with
    | true =>
      simp only [if_true, Option.some.injEq, Prod.mk.injEq] at e ⊢
      obtain ⟨rfl, rfl⟩ := e
      exact q F1 mu1 H1 L1 G1
    | false =>
      simp only [Bool.false_eq_true, if_false] at e ⊢
      exact ⟨F1, mu1, fr, s1, v, st', G1, R.mono L1.ext, e, fun F2 mu2 H2 L2 G2 => q F2 mu2 H2 (L1.trans L2) G2⟩
theorem s_ife {t : Fr → Store → Option (Bool × Store)} (hc : PT X ec (LT X ca t)) (ha : PE X ea (LE X ca f)) (hb : PE X eb (LE X ca g)) : PE X (.IfExp ec ea eb pos) (LE X ca fun fr st => (t fr st).bind fun x => if x.1 then f fr x.2 else g fr x.2) :=
  (pe_ifExp hc ha hb).weak fun σ H Q ⟨F, mu, fr, st, v, st', G, R, e, q⟩ => by
    obtain ⟨c, s1, e1, e⟩ := bind2 (k := fun (c : Bool) s1 => if c then f fr s1 else g fr s1) e
    refine ⟨F, mu, fr, st, c, s1, G, R, e1, fun F1 mu1 H1 L1 G1 => ?_⟩
    cases c with
    | true =>
      simp only [if_true] at e ⊢
      exact ⟨F1, mu1, fr, s1, v, st', G1, R.mono L1.ext, e, fun F2 mu2 H2 x L2 G2 => q F2 mu2 H2 x (L1.trans L2) G2⟩
    | false =>
      simp only [Bool.false_eq_true, if_false] at e ⊢
      exact ⟨F1, mu1, fr, s1, v, st', G1, R.mono L1.ext, e, fun F2 mu2 H2 x L2 G2 => q F2 mu2 H2 x (L1.trans L2) G2⟩

/-! ### arguments, displays -/
theorem sa_nil : PA X [] (LA X ca fun _ st => some ([], st)) := pa_nil.weak fun σ H Q ⟨F, mu, fr, st, v, st', G, R, e, q⟩ => by
  simp only [Option.some.injEq, Prod.mk.injEq] at e
  obtain ⟨rfl, rfl⟩ := e
  exact q F mu H [] .refl G .nil
theorem sa_cons {es : List Expr} {k : Fr → Store → Option (List PV × Store)} (ha : PE X ea (LE X ca f)) (hb : PA X es (LA X ca k)) (hs : starEach (ea :: es) X.env = (false, eval ea X.env) :: starEach es X.env) : PA X (ea :: es) (LA X ca fun fr st => (f fr st).bind fun p => (k fr p.2).map fun q => (p.1 :: q.1, q.2)) :=
  (pa_cons ha hb hs).weak fun σ H Q ⟨F, mu, fr, st, v, st', G, R, e, q⟩ => by
    obtain ⟨x, s1, e1, e⟩ := bind2 (k := fun x s1 => (k fr s1).map fun q => (x :: q.1, q.2)) e
    obtain ⟨p, e2, e3⟩ := Option.map_eq_some_iff.mp e
    cases e3
    refine ⟨F, mu, fr, st, x, s1, G, R, e1, fun F1 mu1 H1 a L1 G1 R1 => ⟨F1, mu1, fr, s1, p.1, p.2, G1, R.mono L1.ext, e2, fun F2 mu2 H2 xs L2 G2 R2 => ?_⟩⟩
    exact q F2 mu2 H2 _ (L1.trans L2) G2 (.cons (R1.mono L2.ext) R2)
theorem s_tup {es : List Expr} {k : Fr → Store → Option (List PV × Store)} {x1} (ha : PA X es (LA X ca k)) : PE X (.Tuple es x1 pos) (LE X ca fun fr st => (k fr st).bind fun p => (mkT p.1).map (·, p.2)) :=
  (pe_tup ha).weak fun σ H Q ⟨F, mu, fr, st, v, st', G, R, e, q⟩ => by
    obtain ⟨vs, s1, e1, e⟩ := bind2 (k := fun vs s1 => (mkT vs).map (·, s1)) e
    obtain ⟨r, e2, e3⟩ := Option.map_eq_some_iff.mp e
    cases e3
    unfold mkT at e2
    split at e2
    · rename_i hz
      simp only [Option.some.injEq] at e2; subst e2
      refine ⟨F, mu, fr, st, vs, st', G, R, e1, fun F1 mu1 H1 xs L1 G1 R1 => ⟨by rw [← R1.length, ← SZ_eq]; exact hz, fun p hp => ?_⟩⟩
      obtain ⟨G2, L2⟩ := G1.laid hp (.tup xs)
      exact q _ _ _ _ (L1.trans L2) G2 (.tup (.of upd_same) (R1.mono L2.ext))
    · cases e2
/-- a new list, as a value or as a cell -/
theorem newL {F : Hp} {mu : List Addr} {H : Hp} {st st' : Store} {c : Bool} {l : List PV} {v : PV} {xs : List V} {p : Addr} (G : Hold X.K X.w ca F mu H st) (hp : H p = none) (r : RepL X.K X.w F mu l xs) (e : mkL c l st = some (v, st')) :
    ∃ F' mu', Le F mu H F' mu' (upd H p (.lst xs)) ∧ Hold X.K X.w ca F' mu' (upd H p (.lst xs)) st' ∧ Rep X.K X.w F' mu' v (.ref p) := by
  unfold mkL at e
  split at e
  · cases c with
    | false =>
      simp only [Bool.false_eq_true, if_false, Option.some.injEq, Prod.mk.injEq] at e
      obtain ⟨rfl, rfl⟩ := e
      obtain ⟨G2, L2⟩ := G.laid hp (.lst xs)
      exact ⟨_, _, L2, G2, .lst upd_same (r.mono L2.ext)⟩
    | true =>
      simp only [if_true, Option.some.injEq, Prod.mk.injEq] at e
      obtain ⟨rfl, rfl⟩ := e
      obtain ⟨G2, L2⟩ := G.aside hp (.lst xs)
      obtain ⟨G3, E3⟩ := G2.cell (p := p) (o := .lst xs) (c := .lst l) upd_same (G.notmem hp) (G.noF hp) ⟨xs, rfl, r⟩
      refine ⟨_, _, ⟨E3, fun a o h => .inl h, fun a h => ?_, L2.keep, L2.stay⟩, G3, .loc ?_⟩
      · rcases List.mem_append.mp h with h | h
        · exact .inl h
        · simp at h; subst h; exact .inr hp
      · rw [← G.len]; simp
  · cases e
theorem s_lst {es : List Expr} {k : Fr → Store → Option (List PV × Store)} {c : Bool} (ha : PA X es (LA X ca k)) : PE X (.List es pos) (LE X ca fun fr st => (k fr st).bind fun p => mkL c p.1 p.2) :=
  (pe_lst ha).weak fun σ H Q ⟨F, mu, fr, st, v, st', G, R, e, q⟩ => by
    obtain ⟨vs, s1, e1, e⟩ := bind2 (k := fun vs s1 => mkL c vs s1) e
    have hz : vs.length ≤ SZ := by
      unfold mkL at e
      split at e
      · assumption
      · cases e
    refine ⟨F, mu, fr, st, vs, s1, G, R, e1, fun F1 mu1 H1 xs L1 G1 R1 => ⟨by rw [← R1.length, ← SZ_eq]; exact hz, fun p hp => ?_⟩⟩
    obtain ⟨F2, mu2, L2, G2, R2⟩ := newL G1 hp R1 e
    exact q F2 mu2 _ _ (L1.trans L2) G2 R2
end
end Pv
end

section
set_option Elab.async false
set_option linter.all false
set_option maxRecDepth 100000
set_option autoImplicit false
namespace Pv
open PySem PySem.Spec PyProof.Rows L2

section
variable {prog : Program} {w : World} {A : Around} {E : Value → Shared → Prop} {s : Shared}
/-- t[::-1] of a tuple: where the walk goes -/
theorem applied_rev {sl : Addr} {vl vu vs : Value} {n : Nat} {Q : Int × Int × Nat → Shared → Prop} (hs : s.heap.IsSliceOf sl vl vu vs) (pl : IsPart vl none) (pu : IsPart vu none) (ps : IsPart vs (some (-1)))
    (h : Q ((n : Int) - 1, -1, n) s) : wpAny (model prog w) A (Builtin.Slice.sliceApplied (.ref sl) (pure (n : Int))) Q E s := by
  obtain ⟨os, hos, hcs, hds⟩ := id hs
  unfold Builtin.Slice.sliceApplied Builtin.Slice.sliceFields
  refine wpAny_bind (wpAny_bind (wpAny_field hos hds (x := vl) rfl (wpAny_bind (wpAny_field hos hds (x := vu) rfl (wpAny_bind (wpAny_field hos hds (x := vs) rfl (wpAny_pure ?_)))))))
  refine wpAny_bind (HT.slicePart_ ps ?_)
  show wpAny _ _ (if ((-1 : Int) == 0) = true then _ else _) _ _ s
  rw [if_neg (by decide)]
  refine wpAny_bind (HT.slicePart_ pl (wpAny_bind (HT.slicePart_ pu (wpAny_bind (wpAny_pure ?_)))))
  show wpAny _ _ (pure (((n : Int) - 1), (-1 : Int), Builtin.Slice.slicePlaces ((n : Int) - 1) (-1) (-1))) _ _ s
  have e : Builtin.Slice.slicePlaces ((n : Int) - 1) (-1) (-1) = n := by
    unfold Builtin.Slice.slicePlaces
    have h1 : ¬ ((-1 : Int) > 0) := by decide
    simp only [h1, if_false]
    have h2 : (- (-1) : Int) = 1 := by decide
    rw [h2, Int.ediv_one]
    split <;> omega
  rw [e]
  exact wpAny_pure h
theorem fm_congr {α β : Type} {f g : α → Option β} : ∀ {l : List α}, (∀ a ∈ l, f a = g a) → l.filterMap f = l.filterMap g
  | [], _ => rfl
  | a :: r, h => by rw [List.filterMap_cons, List.filterMap_cons, h a (List.mem_cons_self ..), fm_congr fun b hb => h b (List.mem_cons_of_mem _ hb)]
theorem pick_rev (xs : Array Value) : ((List.range xs.size).filterMap fun (k : Nat) => xs[((xs.size : Int) - 1 + (k : Int) * (-1)).toNat]?) = xs.toList.reverse := by
  have e : ∀ k ∈ List.range xs.size, xs[((xs.size : Int) - 1 + (k : Int) * (-1)).toNat]? = xs[xs.size - 1 - k]? := fun k hk => by
    have := List.mem_range.mp hk
    congr 1
    omega
  rw [fm_congr e]
  have : (List.range xs.size).filterMap (fun k => xs[xs.size - 1 - k]?) = ((List.range xs.size).map fun k => xs.size - 1 - k).filterMap (xs[·]?) := by rw [List.filterMap_map]; rfl
  rw [this, PySem.W.krv_range, List.filterMap_reverse, PySem.W.krv_all]
theorem getItem_tuple_rev {t sl : Addr} {items : Array Value} {vl vu vs : Value} {Q : Value → Shared → Prop} (ht : IsTup s.heap t items) (hs : s.heap.IsSliceOf sl vl vu vs) (pl : IsPart vl none) (pu : IsPart vu none) (ps : IsPart vs (some (-1)))
    (h : Q (.ref s.heap.objs.size) { s with heap := s.heap.push { cls := .type "tuple", data := .seq items.toList.reverse.toArray } })
    (hsz : items.size ≤ sizeLine) : wpAny (model prog w) A (getItem (.ref t) (.ref sl)) Q E s := by
  have htake : sizeOk (.seq items.toList.reverse.toArray) := by
    show items.toList.reverse.toArray.size ≤ sizeLine
    rw [List.size_toArray, List.length_reverse, Array.length_toList]
    exact hsz
  obtain ⟨os, hos, hcs, hds⟩ := id hs
  have hTs : s.TypeIs (.ref sl) "slice" := ⟨os, hos, hcs⟩
  unfold getItem
  try with_reducible refine wpAny_holding ?_
  first | refine wpAny_bind (wpAny_pure ?_) | skip
  refine wpAny_bind (wpAny_sequenceKey ht.typeIs (by decide) ?_)
  refine wpAny_bind (wpAny_callSpecial?_slot (name := Str.ofString "__getitem__") ht.typeIs PyProof.Rows.slot_tuple_getitem
    (wpAny_call_entry PyProof.Rows.slot_tuple_getitem ht.typeIs entry_tuple_getitem ?_ (args_tuple_getitem _ _)))
  show wpAny _ _ (Builtin.Tuple.tupleItemsOf (.ref t) >>= _) _ _ s
  refine wpAny_bind (tupleItemsOf_ ht ?_)
  refine wpAny_bind (wpAny_typeOf hTs ?_)
  rw [if_pos (by decide)]
  refine wpAny_bind (applied_rev hs pl pu ps ?_)
  have hno : ¬ ((((items.size : Int) - 1 == 0) && ((-1 : Int) == 1) && (items.size == items.size)) = true) := by simp
  show wpAny _ _ (if (((items.size : Int) - 1 == 0) && ((-1 : Int) == 1) && (items.size == items.size)) = true then _ else _) _ _ s
  rw [if_neg hno, pick_rev]
  first
    | exact wpAny_bind (m := Builtin.Tuple.tupleExact _) (wpAny_newObj_type (wpAny_pure ⟨_, rfl, wpAny_pure h⟩) htake)
    | exact wpAny_bind (m := Builtin.Tuple.tupleExact _) (wpAny_newObj_type (wpAny_bind (wpAny_pure (wpAny_pure ⟨_, rfl, wpAny_pure h⟩))) htake)
    | exact wpAny_bind (wpAny_bind (m := Builtin.Tuple.tupleExact _) (wpAny_newObj_type (wpAny_pure (wpAny_pure ⟨_, rfl, wpAny_pure h⟩)) htake))
    | exact wpAny_bind (wpAny_bind (m := Builtin.Tuple.tupleExact _) (wpAny_newObj_type (wpAny_pure ⟨_, rfl, wpAny_pure h⟩) htake))
end

section
variable {X : Cx} {ca : Str → Option Addr} {f g h : Fr → Store → Option (PV × Store)} {ea eb ec : Expr} {pos : Pos}
/-! ### subscripts -/
theorem ixOf_atI {α : Type} {l : List α} {i : Int} : ((ixOf l.length i).bind fun k => l[k]?) = atI l i := rfl
theorem ix_any (hu : X.A.units + 70 < cLine) : IxR X (RO X ca idxP) := by
  intro value slice pins s σ H x y v u Q I rx ry h hs
  obtain ⟨F, mu, st, a, b, r, G, ra, rb, e, q⟩ := h
  unfold idxP at e
  split at e
  · rename_i t kvs hd
    split at e
    · rename_i hk
      obtain ⟨p, rfl, h1, h2, d⟩ := Rep.dx I G ra hd
      cases (show v = Value.ref p from rx)
      exact tail_any (let ⟨o, _, _, h1, h2, _⟩ := d.to; ⟨o, h1, h2.1⟩) slot_dict_getitem.lookup (dx_getItem I G (by omega) h1 d hk rb ry e fun z w' n rz pz => ⟨z, H, I.tok n, rz, q F mu H z .refl G pz⟩) hs
    · cases e
  · split at e
    · rename_i l j hl
      obtain ⟨p, xs, rfl, hq, rl⟩ := Rep.seq G ra hl
      cases rb
      rw [ixOf_atI] at e
      have e2 : ∃ z, atI xs j = some z ∧ Rep X.K X.w F mu r z := by
        unfold atI at e ⊢
        rw [rl.length] at e
        cases hi : ixN xs.length j with
        | none => rw [hi] at e; cases e
        | some k => rw [hi] at e; exact rl.get e
      obtain ⟨z, e3, rz⟩ := e2
      rcases hq with hq | hq
      · exact ix_list value slice pins s σ H _ _ v u Q I rx ry ⟨p, xs, j, z, rfl, rfl, hq, e3, q F mu H z .refl G rz⟩ hs
      · exact ix_tup value slice pins s σ H _ _ v u Q I rx ry ⟨p, xs, j, z, rfl, rfl, hq, e3, q F mu H z .refl G rz⟩ hs
    · cases e
theorem s_idx (hu : X.A.units + 70 < cLine) (ha : PE X ea (LE X ca f)) (hb : PE X eb (LE X ca g)) (hs : PlainIx eb) : PE X (.Subscript ea eb pos) (LE X ca fun fr st => (f fr st).bind fun p => (g fr p.2).bind fun q => (idxP p.1 q.1 q.2).map (·, q.2)) :=
  (pe_ix (ix_any (ca := ca) hu) ha hb hs).weak fun σ H Q h => le2 (k := fun x y s => (idxP x y s).map (·, s)) h fun F mu st x y v st' a b H G R1 R2 e q => by
    obtain ⟨r, e1, e2⟩ := Option.map_eq_some_iff.mp e
    cases e2
    exact ⟨F, mu, st, x, y, _, G, R1, R2, e1, q⟩

/-! ### slices -/
def LO (X : Cx) (ca : Str → Option Addr) (f : Fr → Store → Option (Option Int × Store)) : TO := fun σ H Q => ∃ (F : Hp) (mu : List Addr) (fr : Fr) (st : Store) (v : Option Int) (st' : Store), Hold X.K X.w ca F mu H st ∧ FrR X.K X.w F mu fr σ ∧ f fr st = some (v, st') ∧
  ∀ F' mu' H', Le F mu H F' mu' H' → Hold X.K X.w ca F' mu' H' st' → Q v H'
theorem _root_.L2.PO.weak {X : Cx} {e : Option Expr} {t t' : TO} (h : PO X e t) (k : ∀ σ H Q, t' σ H Q → t σ H Q) : PO X e t' := ⟨fun pins s σ H Q I q => h.run pins s σ H Q I (k _ _ _ q)⟩
theorem so_none : PO X none (LO X ca fun _ st => some (none, st)) := po_none.weak fun σ H Q ⟨F, mu, fr, st, v, st', G, R, e, q⟩ => by
  simp only [Option.some.injEq, Prod.mk.injEq] at e
  obtain ⟨rfl, rfl⟩ := e
  exact q F mu H .refl G
theorem sliP_some {v : PV} {o : Option Int} (h : sliP v = some o) : ∃ i, v = .int i ∧ o = some i := by
  cases v <;> simp [sliP] at h
  exact ⟨_, rfl, h.symm⟩
theorem so_some (ha : PE X ea (LE X ca f)) : PO X (some ea) (LO X ca fun fr st => (f fr st).bind fun p => (sliP p.1).map (·, p.2)) := (po_some ha).weak fun σ H Q ⟨F, mu, fr, st, v, st', G, R, e, q⟩ => by
  obtain ⟨x, s1, e1, e⟩ := bind2 (k := fun x s1 => (sliP x).map (·, s1)) e
  obtain ⟨c, e2, e3⟩ := Option.map_eq_some_iff.mp e
  cases e3
  obtain ⟨i, rfl, rfl⟩ := sliP_some e2
  exact ⟨F, mu, fr, st, _, st', G, R, e1, fun F1 mu1 H1 a L1 G1 R1 => by cases R1; exact ⟨i, rfl, q F1 mu1 H1 L1 G1⟩⟩
theorem clip_sIx (n d : Nat) (o : Option Int) : clip n d o = HT.sIx n d o := by cases o <;> rfl
theorem RepL.cut {F : Hp} {mu : List Addr} {l : List PV} {xs : List V} (r : RepL X.K X.w F mu l xs) (lo hi : Option Int) : RepL X.K X.w F mu (Pv.cut l lo hi) (cutV xs lo hi) := by
  unfold Pv.cut cutV
  rw [clip_sIx, clip_sIx, r.length]
  exact (r.drop _).take _
theorem cut_whole {α : Type} {xs : List α} {lo hi : Option Int} (h : HT.sIx xs.length 0 lo = 0 ∧ HT.sIx xs.length xs.length hi = xs.length) : Pv.cut xs lo hi = xs := by
  unfold Pv.cut
  rw [clip_sIx, clip_sIx, h.1, h.2]
  simp
def RS (X : Cx) (ca : Str → Option Addr) : V → Option Int → Option Int → Hp → VK → Prop := fun x lo hi H Q => ∃ (F : Hp) (mu : List Addr) (st : Store) (a r : PV), Hold X.K X.w ca F mu H st ∧ Rep X.K X.w F mu a x ∧ slcP a lo hi st = some r ∧
  ∀ F' mu' H' z, Le F mu H F' mu' H' → Hold X.K X.w ca F' mu' H' st → Rep X.K X.w F' mu' r z → Q z H'
theorem sl_any : SlR X (RS X ca) := by
  intro pins s σ H x v vl vu lo hi sl Q I rx hs pl pu h
  obtain ⟨F, mu, st, a, r, G, ra, e, q⟩ := h
  unfold slcP at e
  split at e
  · simp only [Option.some.injEq] at e; subst e
    cases ra with
    | tup h1 h2 =>
      refine sl_tupA pins s σ H _ v vl vu lo hi sl Q I rx hs pl pu ⟨_, _, rfl, G.sqT h1, fun hw => ?_, fun _ p hp => ?_⟩
      · rw [← h2.length] at hw
        rw [cut_whole hw] at q
        exact q F mu H _ .refl G (.tup h1 h2)
      · obtain ⟨G1, L1⟩ := G.laid hp (.tup _)
        exact q _ _ _ _ L1 G1 (.tup (.of upd_same) ((h2.cut lo hi).mono L1.ext))
  · split at e
    · rename_i l hl
      simp only [Option.some.injEq] at e; subst e
      obtain ⟨p, xs, rfl, hp, rl⟩ := Rep.list G ra hl
      refine sl_list pins s σ H _ v vl vu lo hi sl Q I rx hs pl pu ⟨_, _, rfl, .of hp, fun p' hp' => ?_⟩
      obtain ⟨G1, L1⟩ := G.laid hp' (.lst (cutV xs lo hi))
      exact q _ _ _ _ L1 G1 (.lst upd_same ((rl.cut lo hi).mono L1.ext))
    · cases e
theorem s_slc {lo hi : Option Expr} {l m : Fr → Store → Option (Option Int × Store)} {p2 : Pos} (ha : PE X ea (LE X ca f)) (hl : PO X lo (LO X ca l)) (hh : PO X hi (LO X ca m)) :
    PE X (.Subscript ea (.Slice lo hi none p2) pos) (LE X ca fun fr st => (f fr st).bind fun x => (l fr x.2).bind fun y => (m fr y.2).bind fun z => (slcP x.1 y.1 z.1 z.2).map (·, z.2)) :=
  (pe_slice (sl_any (ca := ca)) ha hl hh).weak fun σ H Q ⟨F, mu, fr, st, v, st', G, R, e, q⟩ => by
    obtain ⟨x, s1, e1, e⟩ := bind2 (k := fun x s1 => (l fr s1).bind fun y => (m fr y.2).bind fun z => (slcP x y.1 z.1 z.2).map (·, z.2)) e
    obtain ⟨y, s2, e2, e⟩ := bind2 (k := fun y s2 => (m fr s2).bind fun z => (slcP x y z.1 z.2).map (·, z.2)) e
    obtain ⟨z, s3, e3, e⟩ := bind2 (k := fun z s3 => (slcP x y z s3).map (·, s3)) e
    obtain ⟨r, e4, e5⟩ := Option.map_eq_some_iff.mp e
    cases e5
    refine ⟨F, mu, fr, st, x, s1, G, R, e1, fun F1 mu1 H1 a L1 G1 R1 => ⟨F1, mu1, fr, s1, y, s2, G1, R.mono L1.ext, e2, fun F2 mu2 H2 L2 G2 => ⟨F2, mu2, fr, s2, z, st', G2, (R.mono L1.ext).mono L2.ext, e3, fun F3 mu3 H3 L3 G3 => ?_⟩⟩⟩
    exact ⟨F3, mu3, st', x, _, G3, (R1.mono L2.ext).mono L3.ext, e4, fun F4 mu4 H4 u L4 G4 R4 => q F4 mu4 H4 u (((L1.trans L2).trans L3).trans L4) G4 R4⟩

/-! ### a[::-1] -/
def revP (x : PV) (st : Store) : Option PV := match x with
  | .tup l => some (.tup l.reverse)
  | x => (lstOf st x).map fun l => .lst l.reverse
theorem s_rev {k : Nat} {p1 p2 p3 : Pos} (ha : PE X ea (LE X ca f)) : PE X (.Subscript ea (.Slice none none (some (.UnaryOp .USub (.Constant (.int 1) k p1) p2)) p3) pos)
    (LE X ca fun fr st => (f fr st).bind fun x => (revP x.1 x.2).map (·, x.2)) := by
  refine ⟨fun pins s σ H Q I h => ?_⟩
  obtain ⟨F, mu, fr, st, v, st', G, R, e, q⟩ := h
  obtain ⟨x, s1, e1, e⟩ := bind2 (k := fun x s1 => (revP x s1).map (·, s1)) e
  obtain ⟨r, e4, e5⟩ := Option.map_eq_some_iff.mp e
  cases e5
  have hst : PO X (some (.UnaryOp .USub (.Constant (.int 1) k p1) p2)) (tPart (tUn (rU fun i => .int (-i)) (tC (.int 1)))) := po_some (pe_un un_neg pe_int)
  refine Subscript_ (thn (ha.run pins s σ H (fun y H1 => ∃ F1 mu1, Le F mu H F1 mu1 H1 ∧ Hold X.K X.w ca F1 mu1 H1 st' ∧ Rep X.K X.w F1 mu1 x y) I ⟨F, mu, fr, st, x, st', G, R, e1, fun F1 mu1 H1 a L1 G1 R1 => ⟨F1, mu1, L1, G1, R1⟩⟩) fun u sa ⟨y, Ha, Ia, ry, Fa, mua, La, Ga, Ra⟩ => ?_)
  refine wpAny_Slice (thn (po_none.run pins sa σ Ha (fun o Hb => o = none ∧ Hb = Ha) Ia ⟨rfl, rfl⟩) fun vl sb ⟨lo, Hb, Ib, pl, el, eb⟩ => ?_)
  subst el eb
  refine thn (po_none.run pins sb σ Hb (fun o Hc => o = none ∧ Hc = Hb) Ib ⟨rfl, rfl⟩) fun vu sc ⟨hi, Hc, Ic, pu, eu, ec⟩ => ?_
  subst eu ec
  refine thn (hst.run pins sc σ Hc (fun o Hd => o = some (-1) ∧ Hd = Hc) Ic ⟨1, rfl, -1, rfl, rfl, rfl⟩) fun vs sd ⟨o, Hd, Id, ps, eo, ed⟩ => ?_
  subst eo ed
  have I5 : Inv X pins σ Hd { sd with heap := sd.heap.push { cls := .type "slice", data := .fields #[vl, vu, vs] } } := Id.kept (t' := sd.toks) fun b ob q => Heap.get?_push_of_some _ q
  show wpAny (model X.prog X.w) X.A (subscriptTail ea (.Slice none none (some (.UnaryOp .USub (.Constant (.int 1) k p1) p2)) p3) u (.ref sd.heap.objs.size)) (EP X pins σ Q) X.xe { sd with heap := sd.heap.push { cls := .type "slice", data := .fields #[vl, vu, vs] } }
  have lists : ∀ l, lstOf st' x = some l → v = .lst l.reverse → wpAny (model X.prog X.w) X.A (subscriptTail ea (.Slice none none (some (.UnaryOp .USub (.Constant (.int 1) k p1) p2)) p3) u (.ref sd.heap.objs.size)) (EP X pins σ Q) X.xe { sd with heap := sd.heap.push { cls := .type "slice", data := .fields #[vl, vu, vs] } } := by
    intro l hl er
    subst er
    obtain ⟨p, xs, rfl, hp, rl⟩ := Rep.list Ga Ra hl
    cases (show u = Value.ref p from ry)
    obtain ⟨its, rv, ht, hz⟩ := I5.list (.of hp)
    have hlen := rv.length
    refine tail_any (ops := [.ref p, .ref sd.heap.objs.size]) ht.isList.typeIs (PySem.slot_list_getitem.lookup) ?_ (by with_unfolding_all rfl)
    refine wpAny_getItem_list_slice ht.isList (Heap.IsSliceOf.new _ vl vu vs) pl pu ps (by decide) ?_ (by rw [List.size_toArray]; omega)
    rw [PySem.W.krv_pick]
    have hn := I5.hok.fresh (Nat.le_refl _)
    obtain ⟨G1, L1⟩ := Ga.laid hn (.lst xs.reverse)
    refine ⟨.ref _, _, I5.laid (t' := sd.toks) (o := .lst xs.reverse) (fun b ob q => Heap.get?_push_of_some _ q) (Nat.le_refl _) ?_, rfl, q _ _ _ _ (La.trans L1) G1 (.lst upd_same (rl.reverse.mono L1.ext))⟩
    exact ⟨by rw [List.length_reverse]; exact hz, _, 0, rv.reverse, Heap.get?_push_size _ rfl⟩
  unfold revP at e4
  split at e4
  · simp only [Option.some.injEq] at e4; subst e4
    cases Ra with
    | @tup l p xs h1 h2 =>
      cases (show u = Value.ref p from ry)
      obtain ⟨its, rv, ht, hz⟩ := I5.tuple (Ga.sqT h1)
      have hlen := rv.length
      refine tail_any (ops := [.ref p, .ref sd.heap.objs.size]) ht.typeIs PyProof.Rows.slot_tuple_getitem.lookup ?_ (by with_unfolding_all rfl)
      refine getItem_tuple_rev ht (Heap.IsSliceOf.new _ vl vu vs) pl pu ps ?_ (by rw [List.size_toArray]; omega)
      have hn := I5.hok.fresh (Nat.le_refl _)
      obtain ⟨G1, L1⟩ := Ga.laid hn (.tup xs.reverse)
      refine ⟨.ref _, _, I5.laid (t' := sd.toks) (o := .tup xs.reverse) (fun b ob q => Heap.get?_push_of_some _ q) (Nat.le_refl _) ?_, rfl, q _ _ _ _ (La.trans L1) G1 (.tup (.of upd_same) (h2.reverse.mono L1.ext))⟩
      exact ⟨by rw [List.length_reverse]; exact hz, _, rv.reverse, IsTup.new _ _⟩
  · obtain ⟨l, hl, hr⟩ := Option.map_eq_some_iff.mp e4
    exact lists l hl hr.symm
end
end Pv
end

section
set_option Elab.async false
set_option linter.all false
set_option maxRecDepth 100000
set_option autoImplicit false
namespace Pv
open PySem PySem.Spec PyProof.Rows L2

/-! ### the keys of a dict -/
section
variable {K : PySem.W.Frag} {w : World} {F : Hp} {mu : List Addr}
theorem Ents.keys : ∀ {t : Bool} {kvs : List (PV × PV)} {es : List DictEntry}, Ents K w F mu t kvs es → ∃ xs, RepL K w F mu (kvs.map (·.1)) xs ∧ Vals xs (es.map (·.key))
  | _, _, _, .nil t => ⟨[], .nil, .nil⟩
  | _, _, _, .cons hk hh rk pk rv pv r => let ⟨xs, a, b⟩ := Ents.keys r; ⟨_ :: xs, .cons pk a, .cons rk b⟩
theorem Ents.len : ∀ {t : Bool} {kvs : List (PV × PV)} {es : List DictEntry}, Ents K w F mu t kvs es → kvs.length = es.length
  | _, _, _, .nil t => rfl
  | _, _, _, .cons hk hh rk pk rv pv r => by rw [List.length_cons, List.length_cons, Ents.len r]
end
theorem items_keys {es : Array DictEntry} {acc : Array Value} (h : ItemsOf (fun i v => ∃ en : DictEntry, es[i]? = some en ∧ v = en.key) acc es.size) : acc.toList = es.toList.map (·.key) := by
  apply List.ext_getElem?
  intro j
  rw [List.getElem?_map, Array.getElem?_toList, Array.getElem?_toList]
  cases e : acc[j]? with
  | some v =>
    obtain ⟨en, e1, e2⟩ := h.2 j v e
    rw [e1, e2]; rfl
  | none =>
    have : acc.size ≤ j := Array.getElem?_eq_none_iff.mp e
    rw [h.1] at this
    rw [Array.getElem?_eq_none_iff.mpr this]; rfl

/-! ### sorting -/
section
variable {X : Cx} {ca : Str → Option Addr} {pins : List (Addr × Obj)} {σ : L2.St} {H : Hp} {s : Shared} {F : Hp} {mu : List Addr} {st : Store}
theorem isDL_mem : ∀ {n : Nat} {l : List PV}, isDL n l = true → ∀ v ∈ l, isD n v = true
  | _, [], _, v, hv => by cases hv
  | n, a :: r, h, v, hv => by
    rw [isDL, Bool.and_eq_true] at h
    cases hv with
    | head => exact h.1
    | tail _ hv => exact isDL_mem h.2 v hv
theorem repL_zip {l : List PV} {xs : List V} {us : List Value} (r : RepL X.K X.w F mu l xs) (q : Vals xs us) : PySem.W.EachIs (fun (v : Value) (b : PV × V) => L2.RelV b.2 v ∧ Rep X.K X.w F mu b.1 b.2) us (l.zip xs) := by
  induction l generalizing us xs with
  | nil => cases r; cases q; exact .nil
  | cons a l ih => cases r with | cons h r => cases q with | cons q1 q2 => exact .cons ⟨q1, h⟩ (ih r q2)
theorem each_vals {us : List Value} {bs : List (PV × V)} (e : PySem.W.EachIs (fun (v : Value) (b : PV × V) => L2.RelV b.2 v ∧ Rep X.K X.w F mu b.1 b.2) us bs) : RepL X.K X.w F mu (bs.map (·.1)) (bs.map (·.2)) ∧ Vals (bs.map (·.2)) us := by
  induction e with
  | nil => exact ⟨.nil, .nil⟩
  | cons h _ ih => exact ⟨.cons h.2 ih.1, .cons h.1 ih.2⟩
theorem sort_facts (I : L2.Inv X pins σ H s) (G : Hold X.K X.w ca F mu H st) {l : List PV} {xs : List V} {us : List Value} (hs : sortable l = true) (r : RepL X.K X.w F mu l xs) (q : Vals xs us) :
    PySem.W.EachIs (fun v (b : PV × V) => ∃ as, Reads s.heap v (dat b.1) as) us (l.zip xs) ∧ PySem.W.AllAlike ((l.zip xs).map fun b => dat b.1) ∧ PySem.W.Sortable ((l.zip xs).map fun b => dat b.1) ∧
      (∀ b, b ∈ l.zip xs → (dat b.1).depth ≤ 30) ∧ ((l.zip xs).mergeSort (PySem.W.dataLe false fun b => dat b.1)).map (·.1) = sortP l := by
  unfold sortable at hs
  rw [Bool.and_eq_true, Bool.and_eq_true] at hs
  obtain ⟨⟨h1, h2⟩, h3⟩ := hs
  have hm : (l.zip xs).map (·.1) = l := by rw [List.map_fst_zip]; exact Nat.le_of_eq r.length
  have mem : ∀ b ∈ l.zip xs, b.1 ∈ l := fun b hb => by rw [← hm]; exact List.mem_map_of_mem hb
  have al : ∀ x ∈ l, ∀ y ∈ l, alk x y = true := fun x hx y hy => List.all_eq_true.mp (List.all_eq_true.mp h2 x hx) y hy
  refine ⟨?_, ?_, ?_, fun b hb => (isD_can 30 _ (isDL_mem h1 _ (mem b hb))).2, ?_⟩
  · have key : ∀ {l : List PV} {xs : List V} {us : List Value}, isDL 30 l = true → RepL X.K X.w F mu l xs → Vals xs us → PySem.W.EachIs (fun v (b : PV × V) => ∃ as, Reads s.heap v (dat b.1) as) us (l.zip xs) := by
      intro l xs us h r q
      induction l generalizing us xs with
      | nil => cases r; cases q; exact .nil
      | cons a l ih =>
        rw [isDL, Bool.and_eq_true] at h
        cases r with
        | cons h' r =>
          cases q with
          | cons q1 q2 => exact .cons (Dp.reads I _ _ _ (Rep.dp G 30 _ _ h.1 h') q1) (ih h.2 r q2)
    exact key h1 r q
  · intro d hd d' hd'
    obtain ⟨b, hb, rfl⟩ := List.mem_map.mp hd
    obtain ⟨b', hb', rfl⟩ := List.mem_map.mp hd'
    exact alk_dat _ _ (al _ (mem b hb) _ (mem b' hb'))
  · rw [Bool.or_eq_true] at h3
    rcases h3 with h3 | h3
    · refine .inl fun d hd => ?_
      obtain ⟨b, hb, rfl⟩ := List.mem_map.mp hd
      have := List.all_eq_true.mp h3 _ (mem b hb)
      revert this
      cases e : b.1 with
      | tup m => cases m with
        | nil => intro z; cases z
        | cons a r => intro _; exact ⟨_, _, rfl⟩
      | _ => intro z; cases z
    · refine .inr fun d hd => ?_
      obtain ⟨b, hb, rfl⟩ := List.mem_map.mp hd
      have hd := isDL_mem h1 _ (mem b hb)
      have := List.all_eq_true.mp h3 _ (mem b hb)
      revert this hd
      cases e : b.1 <;> intro hd z <;> simp [isD] at hd z <;> refine ⟨fun q => ?_, fun xs q => ?_⟩ <;> simp [dat] at q
  · rw [sortP, List.map_mergeSort (s := fun a b => !ltP b a), hm]
    intro a ha b hb
    show (!PySem.W.dataLt (dat b.1) (dat a.1)) = _
    rw [lt_dat 30 _ _ (isDL_mem h1 _ (mem b hb)) (isDL_mem h1 _ (mem a ha)) (al _ (mem b hb) _ (mem a ha))]
end
end Pv
end

section
set_option Elab.async false
set_option linter.all false
set_option maxRecDepth 100000
set_option autoImplicit false
namespace Pv
open PySem PySem.Spec PyProof.Rows L2

section
variable (X : Cx) (ca : Str → Option Addr)
/-- a call's result out of the arguments, the store as it was -/
def RB (f : List PV → Store → Option PV) : List V → Hp → VK → Prop := fun xs H Q => ∃ (F : Hp) (mu : List Addr) (st : Store) (vs : List PV) (r : PV), Hold X.K X.w ca F mu H st ∧ RepL X.K X.w F mu vs xs ∧ f vs st = some r ∧
  ∀ F' mu' H' z, Le F mu H F' mu' H' → Hold X.K X.w ca F' mu' H' st → Rep X.K X.w F' mu' r z → Q z H'
end
def biV : Bi → Value
  | .len => .builtin "len" | .int => .type "int" | .abs => .builtin "abs" | .max2 => .builtin "max" | .min2 => .builtin "min" | .tuple => .type "tuple" | .list => .type "list" | .sorted => .builtin "sorted" | .all => .builtin "all" | .any => .builtin "any" | .sum => .builtin "sum"
section
variable {X : Cx} {ca : Str → Option Addr}
theorem intsOf_some : ∀ {l : List PV} {ns : List Int}, intsOf l = some ns → l = ns.map .int
  | [], ns, h => by simp [intsOf] at h; subst h; rfl
  | .int i :: r, ns, h => by
    simp only [intsOf, Option.map_eq_some_iff] at h
    obtain ⟨m, h, rfl⟩ := h
    rw [intsOf_some h]; rfl
  | .non :: _, _, h => by simp [intsOf] at h
  | .bl _ :: _, _, h => by simp [intsOf] at h
  | .str _ :: _, _, h => by simp [intsOf] at h
  | .tup _ :: _, _, h => by simp [intsOf] at h
  | .lst _ :: _, _, h => by simp [intsOf] at h
  | .dct _ _ :: _, _, h => by simp [intsOf] at h
  | .loc _ :: _, _, h => by simp [intsOf] at h
  | .fz _ :: _, _, h => by simp [intsOf] at h
theorem blsOf_some : ∀ {l : List PV} {ns : List Bool}, blsOf l = some ns → l = ns.map .bl
  | [], ns, h => by simp [blsOf] at h; subst h; rfl
  | .bl i :: r, ns, h => by
    simp only [blsOf, Option.map_eq_some_iff] at h
    obtain ⟨m, h, rfl⟩ := h
    rw [blsOf_some h]; rfl
  | .non :: _, _, h => by simp [blsOf] at h
  | .int _ :: _, _, h => by simp [blsOf] at h
  | .str _ :: _, _, h => by simp [blsOf] at h
  | .tup _ :: _, _, h => by simp [blsOf] at h
  | .lst _ :: _, _, h => by simp [blsOf] at h
  | .dct _ _ :: _, _, h => by simp [blsOf] at h
  | .loc _ :: _, _, h => by simp [blsOf] at h
  | .fz _ :: _, _, h => by simp [blsOf] at h
theorem repL_ints {K : PySem.W.Frag} {w : World} {F : Hp} {mu : List Addr} : ∀ {ns : List Int} {xs : List V}, RepL K w F mu (ns.map .int) xs → xs = ns.map V.int
  | [], _, .nil => rfl
  | n :: ns, _, .cons h r => by cases h; rw [repL_ints r]; rfl
theorem repL_bls {K : PySem.W.Frag} {w : World} {F : Hp} {mu : List Addr} : ∀ {ns : List Bool} {xs : List V}, RepL K w F mu (ns.map .bl) xs → xs = ns.map V.bl
  | [], _, .nil => rfl
  | n :: ns, _, .cons h r => by cases h; rw [repL_bls r]; rfl
/-- len of a dict -/
theorem wp_len_raw {prog : Program} {w : World} {A : Around} {E : Value → Shared → Prop} {s : Shared} {d : Addr} {es : Array DictEntry} {ep : Nat} {Q : Value → Shared → Prop} (hd : (d == sysModules) = false) (hm : s.heap.DictRaw d es ep) (hfit : (es.size : Int) < 2 ^ 63)
    (h : Q (.int es.size (s.toks + 1)) { s with toks := s.toks + 1 + 1 }) : wpAny (model prog w) A (call (.builtin "len") [.ref d]) Q E s := by
  refine Calls.call_function_entry kind_len plain_len entry_len (args_len1 _) ?_
  unfold Builtin.«len»
  refine wpAny_bind (m := oneArg "len" _) (wpAny_pure ?_)
  refine wpAny_bind (m := callSpecial? (.ref d) (Str.ofString "__len__")) (wpAny_callSpecial?_slot (name := Str.ofString "__len__") hm.typeIs PySem.F.slot_dict_len (call_len_raw hd hm ?_))
  show wpAny _ _ _ _ _ { s with toks := s.toks + 1 }
  refine wpAny_bind (wpAny_holding (wpAny_pure ?_))
  refine wpAny_bind (wpAny_letGo ?_)
  show wpAny _ _ (if ((es.size : Nat) : Int) < 0 then _ else _) _ _ _
  rw [if_neg (by omega)]
  show wpAny _ _ (if ((es.size : Nat) : Int) ≥ 2 ^ 63 then _ else _) _ _ _
  rw [if_neg (by omega)]
  exact wpAny_bind (wpAny_mkInt (wpAny_pure ⟨_, rfl, h⟩))
theorem sz63 : (SZ : Nat) < 2 ^ 63 := by unfold SZ; decide
theorem cr_len : CallR X (.builtin "len") (RB X ca (biP .len)) := by
  intro pins s σ H xs us Q I rs h
  obtain ⟨F, mu, st, vs, r, G, ra, e, q⟩ := h
  unfold biP at e
  split at e <;> try contradiction
  rename_i v e1
  cases ra with
  | cons ra rb =>
    cases rb
    split at e
    · rename_i t kvs hd
      simp only [Option.some.injEq] at e; subst e
      obtain ⟨p, rfl, h1, h2, d⟩ := Rep.dx I G ra hd
      obtain ⟨u, rfl, ru⟩ := vals1 rs
      cases (show u = Value.ref p from ru)
      obtain ⟨o, es, ep, k1, k2, k3, k4⟩ := d.len
      have := sz63
      refine wp_len_raw h1 ⟨o, k1, k2, k3⟩ (by omega) ?_
      rw [k4]
      exact ⟨.int (kvs.length : Nat), H, I.tok _, ⟨_, rfl⟩, q F mu H _ .refl G (.int _)⟩
    · split at e
      · rename_i x hx
        split at e
        · rename_i hz
          simp only [Option.some.injEq] at e; subst e
          cases ra
          exact call_len_str pins s σ H _ us Q I rs ⟨x, rfl, by rw [← SZ_eq]; exact hz, q F mu H _ .refl G (.int _)⟩
        · cases e
      · obtain ⟨l, hl, e2⟩ := Option.map_eq_some_iff.mp e
        subst e2
        obtain ⟨p, ys, rfl, hq, rl⟩ := Rep.seq G ra hl
        refine call_len_seq pins s σ H _ us Q I rs ⟨p, ys, rfl, hq, ?_⟩
        rw [← rl.length]
        exact q F mu H _ .refl G (.int _)
theorem cr_list (hc : X.calm = true) : CallR X (.type "list") (RB X ca (biP .list)) := by
  intro pins s σ H xs us Q I rs h
  obtain ⟨F, mu, st, vs, r, G, ra, e, q⟩ := h
  unfold biP at e
  split at e <;> try contradiction
  rename_i v e1
  cases ra with
  | cons ra rb =>
    cases rb
    split at e
    · rename_i t kvs hd
      simp only [Option.some.injEq] at e; subst e
      obtain ⟨p, o, es, ep, rfl, hp, h1, h2, h3, h4, h5, h6⟩ := Rep.dict G ra hd
      obtain ⟨u, rfl, ru⟩ := vals1 rs
      cases (show u = Value.ref p from ru)
      obtain ⟨ks, a1, a2⟩ := h6.keys
      have hes : es.size = kvs.length := by rw [h6.len]; simp
      refine PySem.W.kdl_call (kdl_raw h3 h1 h2) (I.ok.hd hc) (Inv.dobj I hp) (by rw [hes, ← SZ_eq]; exact h4) fun h' tk acc c' kp hS hacc => ?_
      have hk := items_keys hacc
      obtain ⟨G1, L1⟩ := G.laid (I.hok.fresh (Nat.le_refl _)) (.lst ks)
      refine ⟨.ref s.heap.objs.size, _, I.laid kp (Nat.le_refl _) (show ObjOk X.prog X.w _ _ _ (.lst ks) from ⟨?_, acc.toList, c', by rw [hk]; exact a2, by rw [Array.toArray_toList]; exact hS⟩), rfl, q _ _ _ _ L1 G1 (.lst upd_same (a1.mono L1.ext))⟩
      rw [← a1.length, List.length_map, ← SZ_eq]; exact h4
    · obtain ⟨l, hl, e⟩ := Option.bind_eq_some_iff.mp e
      split at e
      · simp only [Option.some.injEq] at e; subst e
        obtain ⟨p, ys, rfl, hq, rl⟩ := Rep.seq G ra hl
        refine call_list_of pins s σ H _ us Q I rs ⟨p, ys, rfl, hq, fun a ha => ?_⟩
        obtain ⟨G1, L1⟩ := G.laid ha (.lst ys)
        exact q _ _ _ _ L1 G1 (.lst upd_same (rl.mono L1.ext))
      · cases e
theorem cr_tuple : CallR X (.type "tuple") (RB X ca (biP .tuple)) := by
  intro pins s σ H xs us Q I rs h
  obtain ⟨F, mu, st, vs, r, G, ra, e, q⟩ := h
  unfold biP at e
  split at e <;> try contradiction
  rename_i v e1
  cases ra with
  | cons ra rb =>
    cases rb
    split at e
    · simp only [Option.some.injEq] at e; subst e
      cases ra with
      | tup h1 h2 => exact call_tuple_of pins s σ H _ us Q I rs ⟨_, _, rfl, .inr ⟨G.sqT h1, q F mu H _ .refl G (.tup h1 h2)⟩⟩
    · obtain ⟨l, hl, e2⟩ := Option.map_eq_some_iff.mp e
      subst e2
      obtain ⟨p, ys, rfl, hp, rl⟩ := Rep.list G ra hl
      refine call_tuple_of pins s σ H _ us Q I rs ⟨p, ys, rfl, .inl ⟨.of hp, fun a ha => ?_⟩⟩
      obtain ⟨G1, L1⟩ := G.laid ha (.tup ys)
      exact q _ _ _ _ L1 G1 (.tup (.of upd_same) (rl.mono L1.ext))
theorem sort_pushed {prog : Program} {w : World} {A : Around} {E : Value → Shared → Prop} {Q : Value → Shared → Prop} {β : Type} {R : Value → β → Prop} {enc : β → PyData} {bs : List β} {vs : List Value} (s : Shared)
    (e : PySem.W.EachIs R vs bs) (er : PySem.W.EachIs (fun v b => ∃ as, Reads s.heap v (enc b) as) vs bs) (hal : PySem.W.AllAlike (bs.map enc)) (hk : PySem.W.Sortable (bs.map enc)) (hL : bs.length ≤ sizeLine)
    (hu : ∀ b, b ∈ bs → A.units + 1 + (enc b).depth < cLine)
    (h : ∀ out, PySem.W.EachIs R out (bs.mergeSort (PySem.W.dataLe false enc)) → Q .none { s with heap := sortedHeap (s.heap.push (seqObj "list" vs.toArray 0)) s.heap.objs.size vs (List.toArray out) }) :
    wpAny (model prog w) A (call (.builtin "list.sort") [.ref s.heap.objs.size]) Q E { s with heap := s.heap.push (seqObj "list" vs.toArray 0) } := by
  have ho : (s.heap.push (seqObj "list" vs.toArray 0)).get? s.heap.objs.size = some (seqObj "list" vs.toArray 0) := Heap.get?_push_size _ rfl
  have er' : PySem.W.EachIs (fun v b => ∃ as, Reads (PySem.W.sortingHeap (s.heap.push (seqObj "list" vs.toArray 0)) s.heap.objs.size vs) v (enc b) as) vs bs :=
    er.mono fun v b ⟨as, r⟩ => ⟨as, PyProof.Rows.Reads.keeps (fun c o eb => PySem.W.sortingHeap_old (Nat.ne_of_lt (Heap.lt_size eb)) (Heap.get?_push_of_some _ eb)) r⟩
  refine wpAny_call_entry PyProof.Rows.slot_list_sort ⟨_, ho, rfl⟩ PyProof.Rows.entry_list_sort (PySem.W.list_sort_vals (κ := PySem.W.dataKind (PySem.W.sortingHeap (s.heap.push (seqObj "list" vs.toArray 0)) s.heap.objs.size vs) (bs.map enc)) (s := { s with heap := s.heap.push (seqObj "list" vs.toArray 0) }) ho
    (PySem.W.SortsAt.data (s := { s with heap := PySem.W.sortingHeap (s.heap.push (seqObj "list" vs.toArray 0)) s.heap.objs.size vs }) (PySem.W.each_map (R := fun v d => ∃ as, Reads (PySem.W.sortingHeap (s.heap.push (seqObj "list" vs.toArray 0)) s.heap.objs.size vs) v d as) enc er') hal hk (PySem.W.bound_map hu)) (by rw [e.length]; exact hL) ⟨.none, rfl, ?_⟩) (PyProof.Rows.args_list_sort _)
  exact h _ (PySem.W.sortVals_data false e er' hal)
theorem cr_sorted (hc : X.calm = true) (hu : X.A.units + 70 < cLine) : CallR X (.builtin "sorted") (RB X ca (biP .sorted)) := by
  intro pins s σ H xs us Q I rs h
  obtain ⟨F, mu, st, vs, r, G, ra, e, q⟩ := h
  unfold biP at e
  split at e <;> try contradiction
  rename_i v e1
  cases ra with
  | cons ra rb =>
    cases rb
    split at e
    · rename_i t kvs hd
      split at e
      · rename_i hso
        simp only [Option.some.injEq] at e; subst e
        obtain ⟨p, o, es, ep, rfl, hp, h1, h2, h3, h4, h5, h6⟩ := Rep.dict G ra hd
        obtain ⟨u, rfl, ru⟩ := vals1 rs
        cases (show u = Value.ref p from ru)
        obtain ⟨ks, a1, a2⟩ := h6.keys
        have hes : es.size = kvs.length := by rw [h6.len]; simp
        refine Calls.call_function_entry PyProof.Rows.kind_sorted PyProof.Rows.plain_sorted PyProof.Rows.entry_sorted (PyProof.Rows.args_sorted1 _) ?_
        unfold Builtin.«sorted»
        refine wpAny_bind (m := checkCount "sorted" 1 1 _) (wpAny_pure ?_)
        refine wpAny_bind (PySem.W.kdu_collect (A := X.A.in1) (kdl_raw h3 h1 h2) (I.ok.hd hc) (Inv.dobj I hp) (by rw [hes, ← SZ_eq]; exact h4) fun h' tk acc kp hacc => ?_)
        have hk := items_keys hacc
        have I1 : L2.Inv X pins σ H { s with heap := h', toks := tk } := I.kept kp
        rw [hk]
        obtain ⟨f1, f2, f3, f4, f5⟩ := sort_facts I1 G hso a1 a2
        have hz : ((kvs.map (·.1)).zip ks).length ≤ sizeLine := by
          rw [List.length_zip, ← a1.length, List.length_map, Nat.min_self, ← SZ_eq]; exact h4
        have e0 := repL_zip a1 a2
        refine wpAny_bind (wpAny_newList ?_ (by rw [e0.length]; exact hz))
        refine wpAny_bind (wpAny_holding (sort_pushed { s with heap := h', toks := tk } e0 f1 f2 f3 hz (fun b hb => ?_) fun out eo => ?_))
        · have := f4 b hb
          show X.A.units + 1 + 1 + (dat b.1).depth < cLine
          omega
        obtain ⟨b1, b2⟩ := each_vals eo
        rw [f5] at b1
        obtain ⟨c', hc'⟩ := PyProof.Rows.sortedHeap_at (vs := es.toList.map (·.key)) (out := out.toArray) (h := h'.push (seqObj "list" (es.toList.map (·.key)).toArray 0)) (n := 0) (a := h'.objs.size) (Heap.get?_push_size _ rfl)
        have hn := I1.hok.fresh (Nat.le_refl _)
        obtain ⟨G1, L1⟩ := G.laid hn (.lst ((((kvs.map (·.1)).zip ks).mergeSort (PySem.W.dataLe false fun b => dat b.1)).map (·.2)))
        refine wpAny_pure ⟨_, rfl, .ref h'.objs.size, _, I1.laid (t' := tk) (fun b u eb => ?_) (Nat.le_refl _)
          (show ObjOk X.prog X.w _ _ _ (.lst _) from ⟨?_, _, c', b2, hc'⟩), rfl, q _ _ _ _ L1 G1 (.lst upd_same (b1.mono L1.ext))⟩
        · have hb := Heap.lt_size eb
          rw [PyProof.Rows.sortedHeap_old (Nat.ne_of_lt hb) (by rw [size_push']; exact Nat.lt_succ_of_lt hb)]
          exact Heap.get?_push_of_some _ eb
        · rw [List.length_map, List.length_mergeSort]; exact hz
      · cases e
    · obtain ⟨l, hl, e⟩ := Option.bind_eq_some_iff.mp e
      split at e
      · rename_i hso
        simp only [Option.some.injEq] at e; subst e
        obtain ⟨p, ys, rfl, hp, rl⟩ := Rep.list G ra hl
        obtain ⟨u, rfl, ru⟩ := vals1 rs
        cases (show u = Value.ref p from ru)
        obtain ⟨its, rv, pl, hz⟩ := I.list (.of hp)
        obtain ⟨f1, f2, f3, f4, f5⟩ := sort_facts I G hso.1 rl rv
        have e0 := repL_zip rl rv
        have hz2 : (l.zip ys).length ≤ sizeLine := by rw [List.length_zip, ← rl.length, Nat.min_self, ← SZ_eq]; exact hso.2
        refine PySem.W.sorted_data pl.isList e0 f1 f2 f3 hz2 (fun b hb => by have := f4 b hb; omega) fun out ho eo => ?_
        obtain ⟨b1, b2⟩ := each_vals eo
        rw [f5] at b1
        obtain ⟨c', hc'⟩ := PyProof.Rows.sortedAll_at s.heap its out.toArray
        have hn := I.hok.fresh (Nat.le_succ s.heap.objs.size)
        obtain ⟨G1, L1⟩ := G.laid hn (.lst (((l.zip ys).mergeSort (PySem.W.dataLe false fun b => dat b.1)).map (·.2)))
        refine ⟨.ref (s.heap.objs.size + 1), _, I.laid (t' := s.toks) (fun b u eb => PyProof.Rows.sortedAll_old eb) (Nat.le_succ _) (show ObjOk X.prog X.w _ _ _ (.lst _) from ⟨?_, _, c', b2, hc'⟩), rfl, q _ _ _ _ L1 G1 (.lst upd_same (b1.mono L1.ext))⟩
        rw [List.length_map, List.length_mergeSort]; exact hz2
      · cases e
theorem cr_bi (hc : X.calm = true) (hu : X.A.units + 70 < cLine) (b : Bi) : CallR X (biV b) (RB X ca (biP b)) := by
  cases b with
  | len => exact cr_len
  | list => exact cr_list hc
  | tuple => exact cr_tuple
  | sorted => exact cr_sorted (ca := ca) hc hu
  | int =>
    intro pins s σ H xs us Q I rs h
    obtain ⟨F, mu, st, vs, r, G, ra, e, q⟩ := h
    unfold biP at e
    split at e <;> try contradiction
    · simp only [Option.some.injEq] at e; subst e
      cases ra with | cons ra rb => cases rb; cases ra; exact call_int1 pins s σ H _ us Q I rs (.inl ⟨_, rfl, q F mu H _ .refl G (.int _)⟩)
    · simp only [Option.some.injEq] at e; subst e
      cases ra with | cons ra rb => cases rb; cases ra; exact call_int1 pins s σ H _ us Q I rs (.inr ⟨_, rfl, q F mu H _ .refl G (.int _)⟩)
  | abs =>
    intro pins s σ H xs us Q I rs h
    obtain ⟨F, mu, st, vs, r, G, ra, e, q⟩ := h
    unfold biP at e
    split at e <;> try contradiction
    simp only [Option.some.injEq] at e; subst e
    cases ra with | cons ra rb => cases rb; cases ra; exact call_abs pins s σ H _ us Q I rs ⟨_, rfl, q F mu H _ .refl G (.int _)⟩
  | max2 =>
    intro pins s σ H xs us Q I rs h
    obtain ⟨F, mu, st, vs, r, G, ra, e, q⟩ := h
    unfold biP at e
    split at e <;> try contradiction
    simp only [Option.some.injEq] at e; subst e
    cases ra with | cons ra rb => cases rb with | cons rb rc => cases rc; cases ra; cases rb; exact call_max2 hc pins s σ H _ us Q I rs ⟨_, _, rfl, q F mu H _ .refl G (.int _)⟩
  | min2 =>
    intro pins s σ H xs us Q I rs h
    obtain ⟨F, mu, st, vs, r, G, ra, e, q⟩ := h
    unfold biP at e
    split at e <;> try contradiction
    simp only [Option.some.injEq] at e; subst e
    cases ra with | cons ra rb => cases rb with | cons rb rc => cases rc; cases ra; cases rb; exact call_min2 hc pins s σ H _ us Q I rs ⟨_, _, rfl, q F mu H _ .refl G (.int _)⟩
  | all =>
    intro pins s σ H xs us Q I rs h
    obtain ⟨F, mu, st, vs, r, G, ra, e, q⟩ := h
    unfold biP at e
    split at e <;> try contradiction
    obtain ⟨l, hl, e⟩ := Option.bind_eq_some_iff.mp e
    obtain ⟨bs, hb, e⟩ := Option.map_eq_some_iff.mp e
    subst e
    obtain rfl := blsOf_some hb
    cases ra with
    | cons ra rb =>
      cases rb
      obtain ⟨p, ys, rfl, hp, rl⟩ := Rep.list G ra hl
      rw [repL_bls rl] at hp
      exact cr_all hc pins s σ H _ us Q I rs ⟨p, bs, rfl, .of hp, q F mu H _ .refl G (.bl _)⟩
  | any =>
    intro pins s σ H xs us Q I rs h
    obtain ⟨F, mu, st, vs, r, G, ra, e, q⟩ := h
    unfold biP at e
    split at e <;> try contradiction
    obtain ⟨l, hl, e⟩ := Option.bind_eq_some_iff.mp e
    obtain ⟨bs, hb, e⟩ := Option.map_eq_some_iff.mp e
    subst e
    obtain rfl := blsOf_some hb
    cases ra with
    | cons ra rb =>
      cases rb
      obtain ⟨p, ys, rfl, hp, rl⟩ := Rep.list G ra hl
      rw [repL_bls rl] at hp
      exact cr_any hc pins s σ H _ us Q I rs ⟨p, bs, rfl, .of hp, q F mu H _ .refl G (.bl _)⟩
  | sum =>
    intro pins s σ H xs us Q I rs h
    obtain ⟨F, mu, st, vs, r, G, ra, e, q⟩ := h
    unfold biP at e
    split at e <;> try contradiction
    obtain ⟨l, hl, e⟩ := Option.bind_eq_some_iff.mp e
    obtain ⟨bs, hb, e⟩ := Option.map_eq_some_iff.mp e
    subst e
    obtain rfl := intsOf_some hb
    cases ra with
    | cons ra rb =>
      cases rb
      obtain ⟨p, ys, rfl, hp, rl⟩ := Rep.list G ra hl
      rw [repL_ints rl] at hp
      exact cr_sum hc pins s σ H _ us Q I rs ⟨p, bs, rfl, .of hp, q F mu H _ .refl G (.int _)⟩
end
end Pv
end

section
set_option Elab.async false
set_option linter.all false
set_option maxRecDepth 100000
set_option autoImplicit false
namespace Pv
open PySem PySem.Spec PyProof.Rows L2

section
variable {K : PySem.W.Frag} {w : World} {ca : Str → Option Addr} {F F0 F1 F' : Hp} {mu mu0 mu1 mu' : List Addr} {H H0 H1 H2 : Hp} {st : Store} {p : Addr} {x o : HO}
theorem Hold.apart (G : Hold K w ca F mu H0 st) (hp : H0 p = none) (L : Le F mu (upd H0 p x) F1 mu1 H2) : p ∉ mu1 ∧ F1 p = none ∧ H2 p = some x := by
  have h1 := G.notmem hp
  have h2 := G.noF hp
  refine ⟨fun m => ?_, ?_, L.keep p x upd_same h1⟩
  · rcases L.newm p m with z | z
    · exact h1 z
    · rw [upd_same] at z; cases z
  · cases q : F1 p with
    | none => rfl
    | some u =>
      rcases L.new p u q with z | z | z
      · rw [h2] at z; cases z
      · rw [upd_same] at z; cases z
      · exact absurd z h1
theorem Hold.side (G : Hold K w ca F mu H st) (hm : p ∉ mu) (hF : F p = none) (o : HO) : Hold K w ca F mu (upd H p o) st := by
  have ne : ∀ a ∈ mu, a ≠ p := fun a m e => hm (e ▸ m)
  refine ⟨G.len, G.nd, fun a m => ?_, fun a u e => ?_, fun n a c e1 e2 => ?_⟩
  · rw [upd_ne (ne a m)]; exact G.there a m
  · have h : a ≠ p := fun z => by subst z; rw [hF] at e; cases e
    rw [upd_ne h]; exact G.fz a u e
  · rw [upd_ne (ne a (List.mem_of_getElem? e1))]; exact G.cl n a c e1 e2
theorem Le.side (hp : H0 p = none) (L : Le F0 mu0 (upd H0 p x) F1 mu1 H2) (hm0 : p ∉ mu0) (o : HO) : Le F0 mu0 H0 F1 mu1 (upd H2 p o) := by
  have ne : ∀ a u, H0 a = some u → a ≠ p := fun a u e z => by subst z; rw [hp] at e; cases e
  have lift : ∀ a u, H0 a = some u → upd H0 p x a = some u := fun a u e => by rw [upd_ne (ne a u e)]; exact e
  have back : ∀ a, upd H0 p x a = none → H0 a = none := fun a e => by
    cases q : H0 a with
    | none => rfl
    | some u => rw [lift a u q] at e; cases e
  refine ⟨L.ext, fun a u e => ?_, fun a e => ?_, fun a u e hn => ?_, fun a u e => ?_⟩
  · rcases L.new a u e with z | z | z
    · exact .inl z
    · exact .inr (.inl (back a z))
    · exact .inr (.inr z)
  · rcases L.newm a e with z | z
    · exact .inl z
    · exact .inr (back a z)
  · rw [upd_ne (ne a u e)]; exact L.keep a u (lift a u e) hn
  · rw [upd_ne (ne a u e)]; exact L.stay a u (lift a u e)
theorem Le.end (L : Le F0 mu0 H0 F1 mu1 H1) (hp : H0 p = none) (E : Ext F1 mu1 F' mu') (hF : ∀ a u, F' a = some u → F1 a = some u ∨ a = p) (hmu : ∀ a ∈ mu', a ∈ mu1 ∨ a = p) : Le F0 mu0 H0 F' mu' H1 := by
  refine ⟨L.ext.trans E, fun a u e => ?_, fun a e => ?_, L.keep, L.stay⟩
  · rcases hF a u e with z | z
    · exact L.new a u z
    · subst z; exact .inr (.inl hp)
  · rcases hmu a e with z | z
    · exact L.newm a z
    · subst z; exact .inr hp
theorem dOk {P : Program} {h : Heap} {ob : Obj} (e : h.get? p = some ob) : ObjOk P w H h p (dHO p ob) := ⟨e, ⟨ob, e⟩, fun h1 h2 q k => k ob q⟩
/-- a dict of one's own becomes a value or a cell -/
theorem Hold.endD (G : Hold K w ca F mu H st) {st' : Store} {v : PV} {c t : Bool} {kvs : List (PV × PV)} {ob : Obj} {es : Array DictEntry} {ep : Nat} (hp : H p = some (dHO p ob)) (hm : p ∉ mu) (hF : F p = none) (h1 : ob.ExactDict) (h2 : ob.data = .dict es ep) (h3 : (p == sysModules) = false)
    (h4 : kvs.length ≤ SZ) (h5 : (kvs.map (·.1)).Nodup) (h6 : Ents K w F mu t kvs es.toList) (e : mkD c t kvs st = (v, st')) :
    ∃ F' mu', Ext F mu F' mu' ∧ Hold K w ca F' mu' H st' ∧ Rep K w F' mu' v (.ref p) ∧ (∀ a u, F' a = some u → F a = some u ∨ a = p) ∧ ∀ a ∈ mu', a ∈ mu ∨ a = p := by
  cases c with
  | false =>
    simp only [mkD, Bool.false_eq_true, if_false, Prod.mk.injEq] at e
    obtain ⟨rfl, rfl⟩ := e
    obtain ⟨G2, E⟩ := G.frozen hp hm hF
    refine ⟨_, _, E, G2, .dct upd_same h1 h2 h3 h4 h5 (h6.mono E), fun a u e => ?_, fun a h => .inl h⟩
    by_cases z : a = p
    · exact .inr z
    · rw [upd_ne z] at e; exact .inl e
  | true =>
    simp only [mkD, if_true, Prod.mk.injEq] at e
    obtain ⟨rfl, rfl⟩ := e
    obtain ⟨G2, E⟩ := G.cell (c := .dct t kvs) hp hm hF ⟨ob, es, ep, rfl, h1, h2, h3, h4, h5, h6⟩
    refine ⟨_, _, E, G2, .loc (by rw [← G.len]; simp), fun a u e => .inl e, fun a h => ?_⟩
    rcases List.mem_append.mp h with h | h
    · exact .inl h
    · exact .inr (by simpa using h)
end

section
variable {X : Cx} {ca : Str → Option Addr} {pins : List (Addr × Obj)} {σ : L2.St} {H : Hp} {s : Shared} {F : Hp} {mu : List Addr} {st : Store}
/-- a cell that is a dict, written -/
theorem dwrite (I : L2.Inv X pins σ H s) (G : Hold X.K X.w ca F mu H st) {n : Nat} {p : Addr} {t : Bool} {kvs kvs' : List (PV × PV)} (hm : mu[n]? = some p) (hs : st[n]? = some (.dct t kvs)) {h' : Heap} (d : DX X F mu h' p t kvs') (hz : kvs'.length ≤ SZ)
    (sb : Heap.SameBut p s.heap h') (tk : Nat) : ∃ H', L2.Inv X pins σ H' { s with heap := h', toks := tk } ∧ Le F mu H F mu H' ∧ Hold X.K X.w ca F mu H' (st.set n (.dct t kvs')) := by
  obtain ⟨o, es, ep, h1, h2, h3, h4, h5⟩ := d.to
  obtain ⟨o0, e0, ob, es0, ep0, rfl, c1, c2, c3, c4⟩ := G.cl n p _ hm hs
  obtain ⟨G1, L1⟩ := G.set (c := .dct t kvs') hm (G.live hm hs rfl) ⟨o, es, ep, rfl, h2, h3, c3, hz, h5, h4⟩
  refine ⟨_, I.write (x := p) (e := p) (by rw [e0]; trivial) (.inl rfl) (fun b u hb q => (sb.2 b hb).trans q) ⟨o, h1⟩ (dOk h1), L1, G1⟩
theorem repD_at (G : Hold X.K X.w ca F mu H st) {n : Nat} {x : V} {t : Bool} {kvs : List (PV × PV)} (r : Rep X.K X.w F mu (.loc n) x) (hs : st[n]? = some (.dct t kvs)) : ∃ p, x = .ref p ∧ mu[n]? = some p ∧ kvs.length ≤ SZ := by
  cases r with
  | loc h =>
    obtain ⟨o0, e0, ob, es0, ep0, rfl, c1, c2, c3, c4, _⟩ := G.cl n _ _ h hs
    exact ⟨_, rfl, h, c4⟩

/-! ### isinstance -/
theorem kit_pv (I : L2.Inv X pins σ H s) (G : Hold X.K X.w ca F mu H st) {v : PV} {x : V} {u : Value} (r : Rep X.K X.w F mu v x) (q : L2.RelV x u) (h : tyOk st v = true) :
    ∃ (T : String) (P : Heap → Prop), PySem.W.KitX X.K u (.type T) P ∧ P s.heap ∧ u ≠ .builtin "__main__.__loader__#opaque" ∧ ∀ t : Ty, PySem.W.kitOne X.K (.type T) (.type (match t with | .int => "int" | .bool => "bool" | .str => "str" | .tup => "tuple" | .lst => "list" | .dct => "dict")) = some (tyIs st v t) := by
  have lists : ∀ p xs, x = .ref p → SqL X.K H p xs → (∀ t, tyIs st v t = decide (t = .lst)) → ∃ (T : String) (P : Heap → Prop), PySem.W.KitX X.K u (.type T) P ∧ P s.heap ∧ u ≠ .builtin "__main__.__loader__#opaque" ∧ ∀ t : Ty, PySem.W.kitOne X.K (.type T) (.type (match t with | .int => "int" | .bool => "bool" | .str => "str" | .tup => "tuple" | .lst => "list" | .dct => "dict")) = some (tyIs st v t) := by
    intro p xs e hx ht
    subst e
    cases (show u = Value.ref p from q)
    obtain ⟨its, _, pl, _⟩ := I.list hx
    obtain ⟨o, ho, hc, _⟩ := pl.isList
    refine ⟨"list", _, PySem.W.kitx_list, ⟨o, ho, hc⟩, (fun z => nomatch z), fun t => ?_⟩
    rw [ht]
    cases t <;> rfl
  have dicts : ∀ p o es ep, x = .ref p → H p = some (dHO p o) → o.ExactDict → o.data = .dict es ep → (∀ t, tyIs st v t = decide (t = .dct)) → ∃ (T : String) (P : Heap → Prop), PySem.W.KitX X.K u (.type T) P ∧ P s.heap ∧ u ≠ .builtin "__main__.__loader__#opaque" ∧ ∀ t : Ty, PySem.W.kitOne X.K (.type T) (.type (match t with | .int => "int" | .bool => "bool" | .str => "str" | .tup => "tuple" | .lst => "list" | .dct => "dict")) = some (tyIs st v t) := by
    intro p o es ep e hx h1 h2 ht
    subst e
    cases (show u = Value.ref p from q)
    refine ⟨"dict", _, PySem.W.kitx_dict, ⟨o, Inv.dobj I hx, h1.1⟩, (fun z => nomatch z), fun t => ?_⟩
    rw [ht]
    cases t <;> rfl
  cases r with
  | non => cases (show u = Value.none from q); exact ⟨"NoneType", _, PySem.W.kitx_none, trivial, (fun z => nomatch z), fun t => by cases t <;> rfl⟩
  | bl b => cases (show u = Value.bool b from q); exact ⟨"bool", _, PySem.W.kitx_bool, trivial, (fun z => nomatch z), fun t => by cases t <;> rfl⟩
  | int i => obtain ⟨t, rfl⟩ := (show ∃ t, u = Value.int i t from q); exact ⟨"int", _, PySem.W.kitx_int, trivial, (fun z => nomatch z), fun t => by cases t <;> rfl⟩
  | str y => obtain ⟨t, rfl⟩ := (show ∃ t, u = Value.str y t from q); exact ⟨"str", _, PySem.W.kitx_str, trivial, (fun z => nomatch z), fun t => by cases t <;> rfl⟩
  | @tup l p xs h1 h2 =>
    cases (show u = Value.ref p from q)
    obtain ⟨its, _, ⟨o, ho, hc, _⟩, _⟩ := I.tuple (G.sqT h1)
    exact ⟨"tuple", _, PySem.W.kitx_tuple, ⟨o, ho, hc⟩, (fun z => nomatch z), fun t => by cases t <;> rfl⟩
  | lst h1 h2 => exact lists _ _ rfl (.of (G.hF h1)) fun t => by cases t <;> rfl
  | fz h1 h2 => simp [tyOk] at h
  | dct h1 h2 h3 => exact dicts _ _ _ _ rfl (G.hF h1) h2 h3 fun t => by cases t <;> rfl
  | @loc n p h1 =>
    simp only [tyOk] at h
    split at h
    · rename_i l e
      obtain ⟨o, e1, xs, rfl, r⟩ := G.cl n _ _ h1 e
      exact lists _ _ rfl (.of e1) fun t => by cases t <;> simp [tyIs, lstOf, dctOf, e]
    · rename_i t kvs e
      obtain ⟨o, e1, ob, es, ep, rfl, c1, c2, _⟩ := G.cl n _ _ h1 e
      exact dicts _ _ _ _ rfl e1 c1 c2 fun t => by cases t <;> simp [tyIs, lstOf, dctOf, e]
    · cases h
end
def tyN : Ty → String
  | .int => "int" | .bool => "bool" | .str => "str" | .tup => "tuple" | .lst => "list" | .dct => "dict"
section
variable {X : Cx} {ca : Str → Option Addr} {f g h : Fr → Store → Option (PV × Store)} {ea eb ec : Expr} {pos : Pos}
theorem tyN_match (t : Ty) : (match t with | .int => "int" | .bool => "bool" | .str => "str" | .tup => "tuple" | .lst => "list" | .dct => "dict") = tyN t := by cases t <;> rfl
def RI (X : Cx) (ca : Str → Option Addr) (ts : List Ty) : List V → Hp → VK → Prop := fun xs H Q => ∃ (F : Hp) (mu : List Addr) (st : Store) (v : PV) (x c : V), xs = [x, c] ∧ Hold X.K X.w ca F mu H st ∧ Rep X.K X.w F mu v x ∧ tyOk st v = true ∧
  ((∃ t, ts = [t] ∧ c = .ty (tyN t)) ∨ ∃ tp, c = .ref tp ∧ H tp = some (.tup (ts.map fun t => V.ty (tyN t)))) ∧ Q (.bl (ts.any (tyIs st v))) H
theorem vals_ty : ∀ {ts : List Ty} {us : List Value}, Vals (ts.map fun t => V.ty (tyN t)) us → us = ts.map fun t => Value.type (tyN t)
  | [], us, r => by rw [List.map_nil] at r; cases r; rfl
  | t :: ts, us, r => by
    rw [List.map_cons] at r
    cases r with
    | @cons _ u _ us r1 r2 => cases (show u = Value.type (tyN t) from r1); rw [vals_ty r2]; rfl
theorem kitAny_pv {T : String} {P : Ty → Bool} (h : ∀ t : Ty, PySem.W.kitOne X.K (.type T) (.type (tyN t)) = some (P t)) : ∀ ts : List Ty, PySem.W.kitAny X.K (.type T) (ts.map fun t => Value.type (tyN t)) = some (ts.any P)
  | [] => rfl
  | t :: ts => by
    rw [List.map_cons, PySem.W.kitAny, h t, List.any_cons]
    cases P t with
    | true => simp
    | false => simp only [Bool.false_or]; exact kitAny_pv h ts
theorem cr_isi (ts : List Ty) : CallR X (.builtin "isinstance") (RI X ca ts) := by
  intro pins s σ H xs us Q I r h
  obtain ⟨F, mu, st, v, x, c, rfl, G, rv, ht, hc, q⟩ := h
  obtain ⟨u1, u2, rfl, r1, r2⟩ := vals2 r
  obtain ⟨T, P, Z, p, hx, hk⟩ := kit_pv I G rv r1 ht
  have hk' : ∀ t : Ty, PySem.W.kitOne X.K (.type T) (.type (tyN t)) = some (tyIs st v t) := fun t => by rw [← tyN_match]; exact hk t
  rcases hc with ⟨t, rfl, rfl⟩ | ⟨tp, rfl, hT⟩
  · cases (show u2 = Value.type (tyN t) from r2)
    refine PySem.W.kia_one Z I.kIn p (hk' t) hx fun tk => ⟨.bl _, H, I.tok tk, ?_, q⟩
    show Value.bool _ = Value.bool _
    simp
  · cases (show u2 = Value.ref tp from r2)
    obtain ⟨_, its, rr, o, h1, h2, n, h3⟩ := (show ObjOk X.prog X.w H s.heap tp (.tup _) from I.hok tp _ hT)
    rw [vals_ty rr] at h3
    obtain ⟨oc, od, dt, sl⟩ := o
    simp only at h2 h3
    subst h2 h3
    exact PySem.W.kia_tup Z I.kIn p h1 (kitAny_pv hk' ts) hx fun tk => ⟨.bl _, H, I.tok tk, rfl, q⟩
theorem RI_of {ts : List Ty} {x c : V} {H : Hp} {Q : VK} (F : Hp) (mu : List Addr) (st : Store) (v : PV) (G : Hold X.K X.w ca F mu H st) (r : Rep X.K X.w F mu v x) (h : tyOk st v = true)
    (hc : (∃ t, ts = [t] ∧ c = .ty (tyN t)) ∨ ∃ tp, c = .ref tp ∧ H tp = some (.tup (ts.map fun t => V.ty (tyN t)))) (q : Q (.bl (ts.any (tyIs st v))) H) : RI X ca ts [x, c] H Q := ⟨F, mu, st, v, x, c, rfl, G, r, h, hc, q⟩
/-- classes as arguments -/
def TyArgs (X : Cx) : List Expr → List Ty → Prop
  | [], [] => True
  | e :: es, t :: ts => PE X e (tC (.ty (tyN t))) ∧ starEach (e :: es) X.env = (false, eval e X.env) :: starEach es X.env ∧ TyArgs X es ts
  | _, _ => False
theorem pa_ty : ∀ {es : List Expr} {ts : List Ty}, TyArgs X es ts → PA X es (fun _ H Q => Q (ts.map fun t => V.ty (tyN t)) H)
  | [], [], _ => pa_nil
  | e :: es, t :: ts, ⟨h1, h2, h3⟩ => (pa_cons h1 (pa_ty h3) h2).weak fun σ H Q q => q
theorem s_isi {ec : Expr} {p : Pos} {ts : List Ty} (hg : Gl X "isinstance") (hm : X.mg "isinstance" = none) (ha : PE X ea (LE X ca f))
    (hc : (∃ t, ts = [t] ∧ PE X ec (tC (.ty (tyN t)))) ∨ ∃ es x1 ps, ec = .Tuple es x1 ps ∧ TyArgs X es ts ∧ ts.length ≤ 100)
    (hs : starEach [ea, ec] X.env = (false, eval ea X.env) :: starEach [ec] X.env) (hs2 : starEach [ec] X.env = (false, eval ec X.env) :: starEach [] X.env) (hpl : (backTo pos (starEach [ec] X.env)).any (·.1) = false) :
    PE X (.Call (.Name "isinstance" p) [ea, ec] [] pos) (LE X ca fun fr st => (f fr st).bind fun x => if tyOk x.2 x.1 then some (.bl (ts.any (tyIs x.2 x.1)), x.2) else none) := by
  have fin : ∀ {tc : TE} (hc : PE X ec tc), (∀ σ H Q, (∃ F mu st, Hold X.K X.w ca F mu H st) → (∀ H' c, (∀ F mu st, Hold X.K X.w ca F mu H st → Hold X.K X.w ca F mu H' st ∧ Le F mu H F mu H') → ((∃ t, ts = [t] ∧ c = V.ty (tyN t)) ∨ ∃ tp, c = .ref tp ∧ H' tp = some (.tup (ts.map fun t => V.ty (tyN t)))) → Q c H') → tc σ H Q) →
      PE X (.Call (.Name "isinstance" p) [ea, ec] [] pos) (LE X ca fun fr st => (f fr st).bind fun x => if tyOk x.2 x.1 then some (.bl (ts.any (tyIs x.2 x.1)), x.2) else none) := by
    intro tc hc hk
    refine (pe_callB (cr_isi (ca := ca) ts) hg hm boot_isinstance (pa_cons ha (pa_cons hc pa_nil hs2) hs) (by decide) (by decide) hs hpl).weak fun σ H Q ⟨F, mu, fr, st, v, st', G, R, e, q⟩ => ?_
    obtain ⟨x, s1, e1, e⟩ := bind2 (k := fun x s1 => if tyOk s1 x then some (PV.bl (ts.any (tyIs s1 x)), s1) else none) e
    split at e
    · rename_i ht
      simp only [Option.some.injEq, Prod.mk.injEq] at e
      obtain ⟨rfl, rfl⟩ := e
      refine ⟨F, mu, fr, st, x, s1, G, R, e1, fun F1 mu1 H1 a L1 G1 R1 => hk σ H1 _ ⟨F1, mu1, s1, G1⟩ fun H2 c kp hcc => ?_⟩
      obtain ⟨G2, L2⟩ := kp F1 mu1 s1 G1
      exact RI_of F1 mu1 s1 x G2 R1 ht hcc (q F1 mu1 H2 _ (L1.trans L2) G2 (.bl _))
    · cases e
  rcases hc with ⟨t, rfl, hc⟩ | ⟨es, x1, ps, rfl, ht, hl⟩
  · exact fin hc fun σ H Q _ q => q H _ (fun F mu st G => ⟨G, .refl⟩) (.inl ⟨t, rfl, rfl⟩)
  · refine fin (pe_tup (pa_ty ht)) fun σ H Q hG q => ⟨?_, fun tp hp => q _ _ (fun F mu st G => G.aside hp _) (.inr ⟨tp, rfl, upd_same⟩)⟩
    rw [List.length_map, sizeLine_eq]; omega
end
end Pv
end

section
set_option Elab.async false
set_option linter.all false
set_option maxRecDepth 100000
set_option autoImplicit false
namespace Pv
open PySem PySem.Spec PyProof.Rows L2

section
variable {X : Cx} {ca : Str → Option Addr} {f g h : Fr → Store → Option (PV × Store)} {ea eb ec : Expr} {pos : Pos}
/-! ### methods of lists and dicts -/
def bmN : Bm → Str
  | .append => "append" | .get1 => "get" | .get2 => "get" | .setd => "setdefault" | .upd => "update"
def bmId : Bm → String
  | .append => "list.append" | .get1 => "dict.get" | .get2 => "dict.get" | .setd => "dict.setdefault" | .upd => "dict.update"
theorem put_len {kvs : List (PV × PV)} {k v : PV} : (put kvs k v).length ≤ kvs.length + 1 := by
  unfold put
  split
  · rw [List.length_map]; omega
  · rw [List.length_append]; simp
theorem foldl_put_len : ∀ (more kvs : List (PV × PV)), (more.foldl (fun a p => put a p.1 p.2) kvs).length ≤ kvs.length + more.length
  | [], kvs => by simp
  | a :: r, kvs => by
    rw [List.foldl_cons]
    refine Nat.le_trans (foldl_put_len r _) ?_
    have := put_len (kvs := kvs) (k := a.1) (v := a.2)
    rw [List.length_cons]; omega
section
variable {pins : List (Addr × Obj)} {σ : L2.St} {H : Hp} {s : Shared} {F : Hp} {mu : List Addr} {st st' : Store} {o r k d v : PV} {x y z : V} {u w1 w2 : Value} {Q : VK}
theorem app_call (I : L2.Inv X pins σ H s) (G : Hold X.K X.w ca F mu H st) (ro : Rep X.K X.w F mu o x) (rx : L2.RelV x u) (r1 : Rep X.K X.w F mu v y) (q1 : L2.RelV y w1) (e : appP o v st = some (r, st'))
    (q : ∀ F' mu' H' z, Le F mu H F' mu' H' → Hold X.K X.w ca F' mu' H' st' → Rep X.K X.w F' mu' r z → Q z H') : wpAny (model X.prog X.w) X.A (call (.builtin "list.append") [u, w1]) (EP X pins σ Q) X.xe s := by
  unfold appP at e
  split at e <;> try contradiction
  rename_i n
  split at e <;> try contradiction
  rename_i l hl
  split at e <;> try contradiction
  rename_i hz
  simp only [Option.some.injEq, Prod.mk.injEq] at e
  obtain ⟨rfl, rfl⟩ := e
  cases ro with
  | @loc _ p h1 =>
    obtain ⟨o0, e0, zs, rfl, rl⟩ := G.cl n p _ h1 hl
    obtain ⟨G1, L1⟩ := G.set (c := .lst (l ++ [v])) (o := .lst (zs ++ [y])) h1 (G.live h1 hl rfl) ⟨_, rfl, rl.append (.cons r1 .nil)⟩
    exact mt_append pins s σ H _ _ u [w1] Q I rx (.cons q1 .nil) ⟨p, zs, y, rfl, rfl, e0, by rw [← rl.length, ← SZ_eq]; exact hz, q _ _ _ _ L1 G1 .non⟩
theorem get1_call (hu : X.A.units + 70 < cLine) (I : L2.Inv X pins σ H s) (G : Hold X.K X.w ca F mu H st) (ro : Rep X.K X.w F mu o x) (rx : L2.RelV x u) (r1 : Rep X.K X.w F mu k y) (q1 : L2.RelV y w1) (e : getP o k .non st = some (r, st'))
    (q : ∀ F' mu' H' z, Le F mu H F' mu' H' → Hold X.K X.w ca F' mu' H' st' → Rep X.K X.w F' mu' r z → Q z H') : wpAny (model X.prog X.w) X.A (call (.builtin "dict.get") [u, w1]) (EP X pins σ Q) X.xe s := by
  unfold getP at e
  split at e <;> try contradiction
  rename_i t kvs hd
  split at e <;> try contradiction
  rename_i hk
  simp only [Option.some.injEq, Prod.mk.injEq] at e
  obtain ⟨rfl, rfl⟩ := e
  obtain ⟨p, rfl, h1, h2, d⟩ := Rep.dx I G ro hd
  cases (show u = Value.ref p from rx)
  exact dx_get1 I G (by omega) h1 d hk r1 q1 fun z w' n rz pz => ⟨z, H, I.tok n, rz, q F mu H z .refl G pz⟩
theorem get2_call (hu : X.A.units + 70 < cLine) (I : L2.Inv X pins σ H s) (G : Hold X.K X.w ca F mu H st) (ro : Rep X.K X.w F mu o x) (rx : L2.RelV x u) (r1 : Rep X.K X.w F mu k y) (q1 : L2.RelV y w1) (r2 : Rep X.K X.w F mu d z) (q2 : L2.RelV z w2) (e : getP o k d st = some (r, st'))
    (q : ∀ F' mu' H' z, Le F mu H F' mu' H' → Hold X.K X.w ca F' mu' H' st' → Rep X.K X.w F' mu' r z → Q z H') : wpAny (model X.prog X.w) X.A (call (.builtin "dict.get") [u, w1, w2]) (EP X pins σ Q) X.xe s := by
  unfold getP at e
  split at e <;> try contradiction
  rename_i t kvs hd
  split at e <;> try contradiction
  rename_i hk
  simp only [Option.some.injEq, Prod.mk.injEq] at e
  obtain ⟨rfl, rfl⟩ := e
  obtain ⟨p, rfl, h1, h2, d⟩ := Rep.dx I G ro hd
  cases (show u = Value.ref p from rx)
  exact dx_get2 I G (by omega) h1 d hk r1 q1 r2 q2 fun z w' n rz pz => ⟨z, H, I.tok n, rz, q F mu H z .refl G pz⟩
theorem setd_call (hu : X.A.units + 70 < cLine) (I : L2.Inv X pins σ H s) (G : Hold X.K X.w ca F mu H st) (ro : Rep X.K X.w F mu o x) (rx : L2.RelV x u) (r1 : Rep X.K X.w F mu k y) (q1 : L2.RelV y w1) (r2 : Rep X.K X.w F mu d z) (q2 : L2.RelV z w2) (e : setdP o k d st = some (r, st'))
    (q : ∀ F' mu' H' z, Le F mu H F' mu' H' → Hold X.K X.w ca F' mu' H' st' → Rep X.K X.w F' mu' r z → Q z H') : wpAny (model X.prog X.w) X.A (call (.builtin "dict.setdefault") [u, w1, w2]) (EP X pins σ Q) X.xe s := by
  unfold setdP at e
  split at e <;> try contradiction
  rename_i n
  split at e <;> try contradiction
  rename_i t kvs hl
  split at e <;> try contradiction
  rename_i hk
  obtain ⟨p, rfl, h1, h2, dd⟩ := Rep.dx I G ro (t := t) (kvs := kvs) (by simp [dctOf, hl])
  cases (show u = Value.ref p from rx)
  cases ro with
  | loc hm =>
    refine dx_setd I G (by omega) h1 dd h2 hk.1 r1 q1 r2 q2 (fun v' z w' n' e1 rz pz => ?_) fun e1 h' tk d' sb => ?_
    · rw [e1] at e
      simp only [Option.some.injEq, Prod.mk.injEq] at e
      obtain ⟨rfl, rfl⟩ := e
      exact ⟨z, H, I.tok n', rz, q F mu H z .refl G pz⟩
    · rw [e1] at e
      simp only [Option.some.injEq, Prod.mk.injEq] at e
      obtain ⟨rfl, rfl⟩ := e
      obtain ⟨H', I', L', G'⟩ := dwrite I G hm hl d' (Nat.le_trans put_len hk.2) sb tk
      exact ⟨_, H', I', q2, q F mu H' _ L' G' r2⟩
theorem upd_call (hu : X.A.units + 70 < cLine) {t2 : Bool} {more : List (PV × PV)} (I : L2.Inv X pins σ H s) (G : Hold X.K X.w ca F mu H st) (ro : Rep X.K X.w F mu o x) (rx : L2.RelV x u) (r1 : Rep X.K X.w F mu (.dct t2 more) y) (q1 : L2.RelV y w1) (e : updP o t2 more st = some (r, st'))
    (q : ∀ F' mu' H' z, Le F mu H F' mu' H' → Hold X.K X.w ca F' mu' H' st' → Rep X.K X.w F' mu' r z → Q z H') : wpAny (model X.prog X.w) X.A (call (.builtin "dict.update") [u, w1]) (EP X pins σ Q) X.xe s := by
  unfold updP at e
  split at e <;> try contradiction
  rename_i n
  split at e <;> try contradiction
  rename_i t kvs hl
  split at e <;> try contradiction
  rename_i hk
  obtain ⟨rfl, hk1, hk2⟩ := hk
  simp only [Option.some.injEq, Prod.mk.injEq] at e
  obtain ⟨rfl, rfl⟩ := e
  obtain ⟨p, rfl, h1, h2, d⟩ := Rep.dx I G ro (t := t) (kvs := kvs) (by simp [dctOf, hl])
  cases (show u = Value.ref p from rx)
  cases ro with
  | loc hm =>
    obtain ⟨p2, rfl, k1, k2, m⟩ := Rep.dx I G r1 (t := t) (kvs := more) rfl
    cases (show w1 = Value.ref p2 from q1)
    have hne : p ≠ p2 := by
      intro z
      subst z
      cases r1 with
      | dct hF =>
        obtain ⟨c', e', k'⟩ := (G.fz _ _ hF).2 n hm
        rw [hl] at e'; cases e'; cases k'
    refine dx_update I G (by omega) d m hne k1 hk1 hk2 fun h' d' sb => ?_
    obtain ⟨H', I', L', G'⟩ := dwrite I G hm hl d' (Nat.le_trans (foldl_put_len more kvs) hk1) sb s.toks
    exact ⟨.non, H', I', rfl, q F mu H' _ L' G' .non⟩
theorem bm_call (hu : X.A.units + 70 < cLine) (m : Bm) {vs : List PV} {xs : List V} {us : List Value}
    (I : L2.Inv X pins σ H s) (G : Hold X.K X.w ca F mu H st) (ro : Rep X.K X.w F mu o x) (rx : L2.RelV x u) (rs : RepL X.K X.w F mu vs xs) (ru : Vals xs us) (e : bmP m o vs st = some (r, st'))
    (q : ∀ F' mu' H' z, Le F mu H F' mu' H' → Hold X.K X.w ca F' mu' H' st' → Rep X.K X.w F' mu' r z → Q z H') :
    wpAny (model X.prog X.w) X.A (call (.builtin (bmId m)) (u :: us)) (EP X pins σ Q) X.xe s := by
  cases m with
  | append =>
    match vs, rs, e with
    | [v], .cons r1 .nil, e => obtain ⟨u1, rfl, q1⟩ := vals1 ru; exact app_call I G ro rx r1 q1 e q
  | get1 =>
    match vs, rs, e with
    | [v], .cons r1 .nil, e => obtain ⟨u1, rfl, q1⟩ := vals1 ru; exact get1_call hu I G ro rx r1 q1 e q
  | get2 =>
    match vs, rs, e with
    | [v, v'], .cons r1 (.cons r2 .nil), e => obtain ⟨u1, u2, rfl, q1, q2⟩ := vals2 ru; exact get2_call hu I G ro rx r1 q1 r2 q2 e q
  | setd =>
    match vs, rs, e with
    | [v, v'], .cons r1 (.cons r2 .nil), e => obtain ⟨u1, u2, rfl, q1, q2⟩ := vals2 ru; exact setd_call hu I G ro rx r1 q1 r2 q2 e q
  | upd =>
    match vs, rs, e with
    | [.dct t2 more], .cons r1 .nil, e => obtain ⟨u1, rfl, q1⟩ := vals1 ru; exact upd_call hu I G ro rx r1 q1 e q
end
theorem s_bm (hu : X.A.units + 70 < cLine) (m : Bm) {o e : Expr} {es : List Expr} {apos cpos : Pos} {k : Fr → Store → Option (List PV × Store)} (ho : PE X o (LE X ca f)) (ha : PA X (e :: es) (LA X ca k))
    (hbase : attributeBase o (bmN m) X.env (eval o X.env) = eval o X.env)
    (hfew : ((backTo cpos (starEach (e :: es) X.env)).all (fun x => !x.1) && (backToKw cpos (keywordEach [] X.env)).all (fun x => x.1.isSome)
      && decide ((e :: es).length + ([] : List Keyword).length + (if ([] : List Keyword).isEmpty then 0 else 1) < 30)) = true)
    (hline : (apos.endLine == cpos.line) = true) (hs : starEach (e :: es) X.env = (false, eval e X.env) :: starEach es X.env) (hplain : (backTo cpos (starEach es X.env)).any (·.1) = false) :
    PE X (.Call (.Attribute o (bmN m) apos) (e :: es) [] cpos) (LE X ca fun fr st => (f fr st).bind fun x => if bmT m x.1 x.2 then (k fr x.2).bind fun y => bmP m x.1 y.1 y.2 else none) := by
  refine ⟨fun pins s σ H Q I h => ?_⟩
  obtain ⟨F, mu, fr, st, v, st', G, R, e1, q⟩ := h
  obtain ⟨x, s1, e2, e1⟩ := bind2 (k := fun x s1 => if bmT m x s1 then (k fr s1).bind fun y => bmP m x y.1 y.2 else none) e1
  split at e1
  · rename_i hT
    obtain ⟨vs, s2, e3, e1⟩ := bind2 (k := fun vs s2 => bmP m x vs s2) e1
    refine wpAny_Call_method_late hbase hfew hline rfl (thn (ho.run pins s σ H (fun y H1 => ∃ F1 mu1, Le F mu H F1 mu1 H1 ∧ Hold X.K X.w ca F1 mu1 H1 s1 ∧ Rep X.K X.w F1 mu1 x y) I ⟨F, mu, fr, st, x, s1, G, R, e2, fun F1 mu1 H1 a L1 G1 R1 => ⟨F1, mu1, L1, G1, R1⟩⟩) fun u sa ⟨y, H1, I1, ry, F1, mu1, L1, G1, R1⟩ => ?_)
    have fin : wpAny (model X.prog X.w) X.A (callWith cpos (.builtin (bmId m)) [u] (backTo cpos (starEach (e :: es) X.env)) []) (EP X pins σ Q) X.xe sa := by
      have hA := ha.run cpos pins sa σ H1 (fun xs H2 => ∃ F2 mu2, Le F1 mu1 H1 F2 mu2 H2 ∧ Hold X.K X.w ca F2 mu2 H2 s2 ∧ RepL X.K X.w F2 mu2 vs xs) I1 ⟨F1, mu1, fr, s1, vs, s2, G1, R.mono L1.ext, e3, fun F2 mu2 H2 xs L2 G2 R2 => ⟨F2, mu2, L2, G2, R2⟩⟩
      rw [hs] at hA ⊢
      refine Calls.callWith_builtin (by show (false || (backTo cpos (starEach es X.env)).any (·.1)) = false; rw [hplain] <;> rfl) (Calls.evalArgs_plain ?_)
      exact thn hA fun us sb ⟨xs, H2, I2, r2, F2, mu2, L2, G2, R2⟩ => bm_call hu m I2 G2 (R1.mono L2.ext) ry R2 r2 e1 fun F3 mu3 H3 z L3 G3 R3 => q F3 mu3 H3 z ((L1.trans L2).trans L3) G3 R3
    have dicts : (dctOf s1 x).isSome = true → sa.TypeIs u "dict" ∧ ∀ a, u = .ref a → ∃ ob, sa.heap.get? a = some ob ∧ ob.dict = none := by
      intro hd
      cases hdd : dctOf s1 x with
      | none => rw [hdd] at hd; cases hd
      | some p =>
        obtain ⟨p, o, es, ep, rfl, hp, h1, h2, _⟩ := Rep.dict G1 R1 (t := p.1) (kvs := p.2) hdd
        cases (show u = Value.ref p from ry)
        exact ⟨⟨o, Inv.dobj I1 hp, h1.1⟩, fun a ea => by cases ea; exact ⟨o, Inv.dobj I1 hp, h1.2.1⟩⟩
    cases m with
    | append =>
      have hl : ∃ l, lstOf s1 x = some l := Option.isSome_iff_exists.mp hT
      obtain ⟨l, hl⟩ := hl
      obtain ⟨p, xs, rfl, hp, rl⟩ := Rep.list G1 R1 hl
      cases (show u = Value.ref p from ry)
      obtain ⟨its, _, pl, _⟩ := I1.list (.of hp)
      refine ⟨"list", _, PySem.F.plainAttrs_list, PySem.F.slot_list_append, PySem.F.type_list_append, pl.isList.typeIs, fun a ea => ?_, fin⟩
      cases ea
      obtain ⟨o, n, e, c, hd, _⟩ := pl
      exact ⟨o, e, hd⟩
    | get1 => exact ⟨"dict", _, PySem.F.plainAttrs_dict, PySem.F.slot_dict_get, PySem.F.type_dict_get, (dicts hT).1, (dicts hT).2, fin⟩
    | get2 => exact ⟨"dict", _, PySem.F.plainAttrs_dict, PySem.F.slot_dict_get, PySem.F.type_dict_get, (dicts hT).1, (dicts hT).2, fin⟩
    | setd => exact ⟨"dict", _, PySem.F.plainAttrs_dict, PySem.F.slot_dict_setdefault, PySem.F.type_dict_setdefault, (dicts hT).1, (dicts hT).2, fin⟩
    | upd => exact ⟨"dict", _, PySem.F.plainAttrs_dict, PySem.F.slot_dict_update, PySem.F.type_dict_update, (dicts hT).1, (dicts hT).2, fin⟩
  · cases e1

/-! ### global names, attributes -/
theorem s_glb {x : Str} {v : PV} {y : V} {u : Value} (hg : Gl X x) (hm : X.mg x = some u) (rv : L2.RelV y u) (r : ∀ F mu, Rep X.K X.w F mu v y) (hd : (x == ("__debug__" : Str)) = false) : PE X (.Name x pos) (LE X ca fun _ st => some (v, st)) :=
  (pe_glob hg hm rv hd).weak fun σ H Q ⟨F, mu, fr, st, u, st', G, R, e, q⟩ => by
    simp only [Option.some.injEq, Prod.mk.injEq] at e
    obtain ⟨rfl, rfl⟩ := e
    exact q F mu H y .refl G (r _ _)
theorem repI {F : Hp} {mu : List Addr} {H : Hp} {st : Store} (G : Hold X.K X.w ca F mu H st) {v : PV} {x : V} {c : Str} {fs : List (Str × PV)} (r : Rep X.K X.w F mu v x) (h : insOf st v = some (c, fs)) :
    ∃ n p C dx gs, v = .loc n ∧ x = .ref p ∧ mu[n]? = some p ∧ st[n]? = some (.ins c fs) ∧ H p = some (.ins C dx gs) ∧ ca c = some C ∧ Flds X.K X.w F mu fs gs := by
  cases r with
  | @loc n p h1 =>
    simp only [insOf] at h
    split at h <;> try contradiction
    rename_i c' fs' e
    simp only [Option.some.injEq, Prod.mk.injEq] at h
    obtain ⟨rfl, rfl⟩ := h
    obtain ⟨o, e1, C, dx, gs, hC, rfl, hf⟩ := G.cl n p _ h1 e
    exact ⟨n, p, C, dx, gs, rfl, rfl, h1, e, e1, hC, hf⟩
  | _ => simp [insOf] at h
theorem s_fld {fn : Str} (ha : PE X ea (LE X ca f)) (hb : attributeBase ea fn X.env (eval ea X.env) = eval ea X.env) (hC : ∀ c C, ca c = some C → Cls X.K C ∧ NoAttr X.K C fn) :
    PE X (.Attribute ea fn pos) (LE X ca fun fr st => (f fr st).bind fun x => match insOf x.2 x.1 with
      | some (_, fs) => (fs.lookup fn).map (·, x.2)
      | none => none) :=
  (pe_fld ha hb).weak fun σ H Q ⟨F, mu, fr, st, v, st', G, R, e, q⟩ => by
    obtain ⟨x, s1, e1, e⟩ := bind2 (k := fun x s1 => match insOf s1 x with
      | some (_, fs) => (fs.lookup fn).map (·, s1)
      | none => none) e
    split at e <;> try contradiction
    rename_i c fs hi
    obtain ⟨y, e2, e3⟩ := Option.map_eq_some_iff.mp e
    cases e3
    refine ⟨F, mu, fr, st, x, _, G, R, e1, fun F1 mu1 H1 a L1 G1 R1 => ?_⟩
    obtain ⟨n, p, C, dx, gs, rfl, rfl, h1, h2, h3, h4, h5⟩ := repI G1 R1 hi
    obtain ⟨z, e4, rz⟩ := h5.look e2
    obtain ⟨k1, k2⟩ := hC _ _ h4
    exact ⟨p, C, dx, gs, z, rfl, h3, k1, k2, e4, q F1 mu1 H1 z L1 G1 rz⟩
end
end Pv
end

section
set_option Elab.async false
set_option linter.all false
set_option maxRecDepth 100000
set_option autoImplicit false
namespace Pv
open PySem PySem.Spec PyProof.Rows L2

def flat2 : List (V × V) → List V
  | [] => []
  | p :: r => p.1 :: p.2 :: flat2 r
/-- the pairs of a display -/
structure PD (X : Cx) (pos : Pos) (keys : List (Option Expr)) (values : List Expr) (t : TA) : Prop where
  run : ∀ (pins : List (Addr × Obj)) (s : Shared) (σ : L2.St) (H : Hp) (Q : List V → Hp → Prop), L2.Inv X pins σ H s → t σ H Q →
    wpAny (model X.prog X.w) X.A (evalPairs (pairTrees keys values X.env pos)) (fun vs s' => ∃ ps H', L2.Inv X pins σ H' s' ∧ VV ps vs ∧ Q (flat2 ps) H') X.xe s
section
variable {X : Cx} {ca : Str → Option Addr} {f g : Fr → Store → Option (PV × Store)} {ea eb : Expr} {pos : Pos}
theorem pd_nil : PD X pos [] [] (LA X ca fun _ st => some ([], st)) := ⟨fun pins s σ H Q I ⟨F, mu, fr, st, v, st', G, R, e, q⟩ => by
  simp only [Option.some.injEq, Prod.mk.injEq] at e
  obtain ⟨rfl, rfl⟩ := e
  exact pairTrees_nil_walk ⟨[], H, I, .nil, q F mu H [] .refl G .nil⟩⟩
theorem pd_cons {ks : List (Option Expr)} {vs : List Expr} {k : Fr → Store → Option (List PV × Store)} (ha : PE X ea (LE X ca f)) (hb : PE X eb (LE X ca g)) (hr : PD X pos ks vs (LA X ca k)) :
    PD X pos (some ea :: ks) (eb :: vs) (LA X ca fun fr st => (f fr st).bind fun p => ((g fr p.2).bind fun r => (k fr r.2).map fun q => (r.1 :: q.1, q.2)).map fun q => (p.1 :: q.1, q.2)) := ⟨fun pins s σ H Q I ⟨F, mu, fr, st, v, st', G, R, e, q⟩ => by
  obtain ⟨x, s1, e1, e⟩ := bind2 (k := fun x s1 => ((g fr s1).bind fun r => (k fr r.2).map fun q => (r.1 :: q.1, q.2)).map fun q => (x :: q.1, q.2)) e
  obtain ⟨p1, e', e3⟩ := Option.map_eq_some_iff.mp e
  cases e3
  obtain ⟨y, s2, e2, e4⟩ := bind2 (k := fun y s2 => (k fr s2).map fun q => (y :: q.1, q.2)) e'
  obtain ⟨p2, e5, e6⟩ := Option.map_eq_some_iff.mp e4
  subst e6
  exact pairTrees_cons_walk (thn (ha.run pins s σ H (fun a H1 => ∃ F1 mu1, Le F mu H F1 mu1 H1 ∧ Hold X.K X.w ca F1 mu1 H1 s1 ∧ Rep X.K X.w F1 mu1 x a) I ⟨F, mu, fr, st, x, s1, G, R, e1, fun F1 mu1 H1 a L1 G1 R1 => ⟨F1, mu1, L1, G1, R1⟩⟩) fun u sa ⟨a, H1, I1, ra, F1, mu1, L1, G1, R1⟩ =>
    thn (hb.run pins sa σ H1 (fun b H2 => ∃ F2 mu2, Le F1 mu1 H1 F2 mu2 H2 ∧ Hold X.K X.w ca F2 mu2 H2 s2 ∧ Rep X.K X.w F2 mu2 y b) I1 ⟨F1, mu1, fr, s1, y, s2, G1, R.mono L1.ext, e2, fun F2 mu2 H2 a L2 G2 R2 => ⟨F2, mu2, L2, G2, R2⟩⟩) fun w sb ⟨b, H2, I2, rb, F2, mu2, L2, G2, R2⟩ =>
    thn (hr.run pins sb σ H2 (fun zs H3 => ∃ F3 mu3, Le F2 mu2 H2 F3 mu3 H3 ∧ Hold X.K X.w ca F3 mu3 H3 p2.2 ∧ RepL X.K X.w F3 mu3 p2.1 zs) I2 ⟨F2, mu2, fr, s2, p2.1, p2.2, G2, (R.mono L1.ext).mono L2.ext, e5, fun F3 mu3 H3 zs L3 G3 R3 => ⟨F3, mu3, L3, G3, R3⟩⟩) fun ws sc ⟨ps, H3, I3, rel, F3, mu3, L3, G3, R3⟩ =>
      ⟨(a, b) :: ps, H3, I3, .cons ⟨ra, rb⟩ rel, q F3 mu3 H3 _ ((L1.trans L2).trans L3) G3 (.cons ((R1.mono L2.ext).mono L3.ext) (.cons (R2.mono L3.ext) R3))⟩)⟩
theorem _root_.L2.PD.weak {keys : List (Option Expr)} {values : List Expr} {t t' : TA} (h : PD X pos keys values t) (k : ∀ σ H Q, t' σ H Q → t σ H Q) : PD X pos keys values t' := ⟨fun pins s σ H Q I q => h.run pins s σ H Q I (k _ _ _ q)⟩

/-- the pairs, with keys ints and texts -/
theorem carriesP {F : Hp} {mu : List Addr} : ∀ {ps : List (V × V)} {ws : List (Value × Value)} {vs : List PV}, VV ps ws → RepL X.K X.w F mu vs (flat2 ps) → (prs vs).all (fun p => kFor false p.1) = true → ∃ rs, Carries (mixKind X.prog X.w) ws rs ∧ KVR X.K X.w F mu (prs vs) rs
  | [], _, vs, r, q, _ => by cases r; cases q; exact ⟨[], True.intro, .nil⟩
  | p :: ps, _, vs, r, q, h => by
    cases r with
    | @cons _ w _ ws r1 r2 =>
      cases q with
      | cons q1 q2 =>
        cases q2 with
        | cons q2 q3 =>
          simp only [prs, List.all_cons, Bool.and_eq_true] at h
          obtain ⟨rs, c1, c2⟩ := carriesP r2 q3 h.2
          exact ⟨(kx _, w.2) :: rs, ⟨leaf_is (kFor_leaf h.1) q1 r1.1, rfl, c1⟩, .cons ⟨kFor_leaf h.1, rfl, _, r1.2, q2⟩ c2⟩
theorem prs_len : ∀ (n : Nat) (vs : List PV), vs.length ≤ n → (prs vs).length ≤ vs.length
  | _, [], _ => by simp [prs]
  | _, [a], _ => by simp [prs]
  | 0, a :: b :: r, h => by simp at h
  | n + 1, a :: b :: r, h => by
    have := prs_len n r (by simp at h; omega)
    simp [prs]; omega
theorem dctL_len {kvs : List (PV × PV)} : (dctL kvs).length ≤ kvs.length := by
  have := foldl_put_len kvs []
  simpa [dctL] using this
theorem s_dctd {keys : List (Option Expr)} {values : List Expr} {k : Fr → Store → Option (List PV × Store)} {c : Bool} (hd : PD X pos keys values (LA X ca k)) (hall : keys.all (·.isSome) = true) (hl : keys.length = values.length) (h0 : keys ≠ [])
    (h15 : keys.length ≤ 15) : PE X (.Dict keys values pos) (LE X ca fun fr st => (k fr st).bind fun p => if (prs p.1).all (fun q => kFor false q.1) ∧ p.1.length ≤ 30 then some (mkD c false (dctL (prs p.1)) p.2) else none) := by
  refine ⟨fun pins s σ H Q I ⟨F, mu, fr, st, v, st', G, R, e, q⟩ => ?_⟩
  obtain ⟨vs, s1, e1, e⟩ := bind2 (k := fun vs s1 => if (prs vs).all (fun q => kFor false q.1) ∧ vs.length ≤ 30 then some (mkD c false (dctL (prs vs)) s1) else none) e
  split at e <;> try contradiction
  rename_i hk
  simp only [Option.some.injEq] at e
  have hn := I.hok.fresh (Nat.le_refl s.heap.objs.size)
  have hs0 : (s.heap.objs.size == sysModules) = false := beq_eq_false_iff_ne.mpr (Ne.symm (Nat.ne_of_lt I.big))
  have hob : (s.heap.push { cls := .type "dict", data := .dict #[] }).get? s.heap.objs.size = some { cls := .type "dict", data := .dict #[] } := Heap.get?_push_size _ rfl
  have I1 : L2.Inv X pins σ (upd H s.heap.objs.size (dHO s.heap.objs.size { cls := .type "dict", data := .dict #[] })) { s with heap := s.heap.push { cls := .type "dict", data := .dict #[] } } :=
    I.laid (t' := s.toks) (fun _ _ q => Heap.get?_push_of_some _ q) (Nat.le_refl _) (dOk hob)
  obtain ⟨G0, L0⟩ := G.aside hn (dHO s.heap.objs.size { cls := .type "dict", data := .dict #[] })
  refine wpAny_Dict_walk (knd := mixKind X.prog X.w) hall hl h0 h15 (thn (hd.run pins _ σ _ (fun zs H3 => ∃ F3 mu3, Le F mu (upd H s.heap.objs.size (dHO s.heap.objs.size { cls := .type "dict", data := .dict #[] })) F3 mu3 H3 ∧ Hold X.K X.w ca F3 mu3 H3 s1 ∧ RepL X.K X.w F3 mu3 vs zs) I1
    ⟨F, mu, fr, st, vs, s1, G0, R, e1, fun F3 mu3 H3 zs L3 G3 R3 => ⟨F3, mu3, L3, G3, R3⟩⟩) fun ws s2 ⟨ps, H2, I2, rel, F3, mu3, L3, G3, R3⟩ => ?_)
  obtain ⟨rs, c1, c2⟩ := carriesP rel R3 hk.1
  obtain ⟨a1, a2, a3⟩ := G.apart hn L3
  have hraw : s2.heap.get? s.heap.objs.size = some { cls := .type "dict", data := .dict #[] } := Inv.dobj I2 a3
  refine ⟨rs, c1, ⟨_, #[], 0, hraw, ⟨rfl, rfl, rfl⟩, rfl, (fun e he => absurd he (by simp)), .nil, List.nodup_nil⟩, fun h' d' hs => ?_⟩
  have dx : DX X F3 mu3 h' s.heap.objs.size false (dctL (prs vs)) := .leaf d' (KVR.merge c2 .nil)
  obtain ⟨o, es, ep, k1, k2, k3, k4, k5⟩ := dx.to
  have hz : (dctL (prs vs)).length ≤ SZ := by
    have h1 := dctL_len (kvs := prs vs)
    have h2 := prs_len _ vs (Nat.le_refl _)
    have h3 := hk.2
    unfold SZ; omega
  have I3 := I2.write (x := s.heap.objs.size) (e := s.heap.objs.size) (o := dHO s.heap.objs.size o) (t' := s2.toks + ws.length) (h' := h') (by rw [a3]; trivial) (.inl rfl) (fun b u hb q => (hs.2 b hb).trans q) ⟨o, k1⟩ (dOk k1)
  have G4 := G3.side a1 a2 (dHO s.heap.objs.size o)
  have L4 := Le.side hn L3 (G.notmem hn) (dHO s.heap.objs.size o)
  obtain ⟨F5, mu5, E5, G5, R5, n1, n2⟩ := G4.endD upd_same a1 a2 k2 k3 hs0 hz k5 k4 e
  exact ⟨.ref s.heap.objs.size, _, I3, rfl, q _ _ _ _ (L4.end hn E5 n1 n2) G5 R5⟩
theorem s_dct0 {c t : Bool} : PE X (.Dict [] [] pos) (LE X ca fun _ st => some (mkD c t [] st)) := by
  refine ⟨fun pins s σ H Q I ⟨F, mu, fr, st, v, st', G, R, e, q⟩ => ?_⟩
  simp only [Option.some.injEq] at e
  have hn := I.hok.fresh (Nat.le_refl s.heap.objs.size)
  have hs0 : (s.heap.objs.size == sysModules) = false := beq_eq_false_iff_ne.mpr (Ne.symm (Nat.ne_of_lt I.big))
  have hob : (s.heap.push { cls := .type "dict", data := .dict #[] }).get? s.heap.objs.size = some { cls := .type "dict", data := .dict #[] } := Heap.get?_push_size _ rfl
  obtain ⟨G0, L0⟩ := G.aside hn (dHO s.heap.objs.size { cls := .type "dict", data := .dict #[] })
  obtain ⟨F5, mu5, E5, G5, R5, n1, n2⟩ := G0.endD (kvs := []) (t := t) upd_same (G.notmem hn) (G.noF hn) ⟨rfl, rfl, rfl⟩ rfl hs0 (Nat.zero_le _) List.nodup_nil (.nil _) e
  refine wpAny_Dict_empty ⟨.ref s.heap.objs.size, _, I.laid (a := s.heap.objs.size) (o := dHO s.heap.objs.size { cls := .type "dict", data := .dict #[] }) (t' := s.toks) (fun _ _ q => Heap.get?_push_of_some _ q) (Nat.le_refl _) (dOk hob), rfl, q _ _ _ _ (L0.end hn E5 n1 n2) G5 R5⟩
end
end Pv
end

section
set_option Elab.async false
set_option linter.all false
set_option maxRecDepth 100000
set_option autoImplicit false
namespace Pv
open PySem PySem.Spec PyProof.Rows L2

section
variable (X : Cx) (ca : Str → Option Addr)
/-- an iterator that goes through xs, whatever happens to the cells -/
def IsIt (F : Hp) (mu : List Addr) (J : It) (xs : List PV) : Prop := ∀ F1 mu1 H1 st1, Ext F mu F1 mu1 → Hold X.K X.w ca F1 mu1 H1 st1 →
  (∀ i, i < xs.length → J.go i H1) ∧ J.stop xs.length H1 ∧ ∀ i x H', i < xs.length → J.yld i H1 x H' → ∃ F2 mu2, Le F1 mu1 H1 F2 mu2 H' ∧ Hold X.K X.w ca F2 mu2 H' st1 ∧ ∃ v, xs[i]? = some v ∧ Rep X.K X.w F2 mu2 v x
/-- the reading of what a loop goes through -/
def LI (f : Fr → Store → Option (List PV × Store)) : TI := fun σ H R => ∃ (F : Hp) (mu : List Addr) (fr : Fr) (st : Store) (xs : List PV) (st' : Store), Hold X.K X.w ca F mu H st ∧ FrR X.K X.w F mu fr σ ∧ f fr st = some (xs, st') ∧
  ∀ F' mu' H' J, Le F mu H F' mu' H' → Hold X.K X.w ca F' mu' H' st' → IsIt X ca F' mu' J xs → R J H'
end
section
variable {X : Cx} {ca : Str → Option Addr}
theorem isIt_walk {F : Hp} {mu : List Addr} {J : It} {n : Nat} {P : Hp → Prop} {Y : Nat → Hp → V → Hp → Prop} {xs : List PV} (w : Walk J n P Y) (hn : n = xs.length)
    (hP : ∀ F1 mu1 H1 st1, Ext F mu F1 mu1 → Hold X.K X.w ca F1 mu1 H1 st1 → P H1)
    (hY : ∀ F1 mu1 H1 st1 i x H', i < xs.length → Ext F mu F1 mu1 → Hold X.K X.w ca F1 mu1 H1 st1 → Y i H1 x H' → ∃ F2 mu2, Le F1 mu1 H1 F2 mu2 H' ∧ Hold X.K X.w ca F2 mu2 H' st1 ∧ ∃ v, xs[i]? = some v ∧ Rep X.K X.w F2 mu2 v x) : IsIt X ca F mu J xs :=
  fun F1 mu1 H1 st1 E G => ⟨fun i hi => w.goes i H1 (by rw [hn]; exact hi) (hP _ _ _ _ E G), by rw [← hn]; exact w.stops H1 (hP _ _ _ _ E G), fun i x H' hi y => hY _ _ _ _ i x H' hi E G (w.yields i H1 x H' (by rw [hn]; exact hi) (hP _ _ _ _ E G) y)⟩
theorem yAt {F : Hp} {mu : List Addr} {l : List PV} {ys : List V} (r : RepL X.K X.w F mu l ys) {F1 : Hp} {mu1 : List Addr} {H1 : Hp} {st1 : Store} {i : Nat} {x : V} {H' : Hp} (E : Ext F mu F1 mu1) (G : Hold X.K X.w ca F1 mu1 H1 st1) (y : YAt ys i H1 x H') :
    ∃ F2 mu2, Le F1 mu1 H1 F2 mu2 H' ∧ Hold X.K X.w ca F2 mu2 H' st1 ∧ ∃ v, l[i]? = some v ∧ Rep X.K X.w F2 mu2 v x := by
  obtain ⟨rfl, e⟩ := y
  obtain ⟨v, e1, r1⟩ := r.get' e
  exact ⟨F1, mu1, .refl, G, v, e1, r1.mono E⟩
/-- a new pair -/
theorem yPair {F1 : Hp} {mu1 : List Addr} {H1 : Hp} {st1 : Store} {T : Addr} {x y : V} {a b : PV} (G : Hold X.K X.w ca F1 mu1 H1 st1) (hT : H1 T = none) (ra : Rep X.K X.w F1 mu1 a x) (rb : Rep X.K X.w F1 mu1 b y) :
    ∃ F2 mu2, Le F1 mu1 H1 F2 mu2 (upd H1 T (.tup [x, y])) ∧ Hold X.K X.w ca F2 mu2 (upd H1 T (.tup [x, y])) st1 ∧ Rep X.K X.w F2 mu2 (.tup [a, b]) (.ref T) := by
  obtain ⟨G1, L1⟩ := G.laid hT (.tup [x, y])
  exact ⟨_, _, L1, G1, .tup (.of upd_same) (.cons (ra.mono L1.ext) (.cons (rb.mono L1.ext) .nil))⟩
theorem isIt_list {F : Hp} {mu : List Addr} {p : Addr} {l : List PV} {ys : List V} (h : SqL X.K F p ys) (r : RepL X.K X.w F mu l ys) : IsIt X ca F mu (Itl X.K p) l :=
  isIt_walk walk_list r.length.symm (fun F1 mu1 H1 st1 E G => G.sqL (E.sqL h)) fun F1 mu1 H1 st1 i x H' _ E G y => yAt r E G y
theorem isIt_tup {F : Hp} {mu : List Addr} {p : Addr} {l : List PV} {ys : List V} (h : SqT X.K F p ys) (r : RepL X.K X.w F mu l ys) : IsIt X ca F mu (Itt X.K p) l :=
  isIt_walk walk_tup r.length.symm (fun F1 mu1 H1 st1 E G => G.sqT (E.sqT h)) fun F1 mu1 H1 st1 i x H' _ E G y => yAt r E G y
theorem rngL_length (a b : Int) : (rngL a b).length = (b - a).toNat := by simp [rngL]
theorem isIt_rng {F : Hp} {mu : List Addr} {a b : Int} : IsIt X ca F mu (Itr a (b - a).toNat) (rngL a b) :=
  isIt_walk walk_range (rngL_length a b).symm (fun _ _ _ _ _ _ => trivial) fun F1 mu1 H1 st1 i x H' hi E G y => by
    obtain ⟨rfl, rfl⟩ := y
    rw [rngL_length] at hi
    exact ⟨F1, mu1, .refl, G, .int (a + (i : Nat)), by simp [rngL, hi], .int _⟩
theorem enumL_get (l : List PV) : ∀ (k i : Nat), (enumL k l)[i]? = l[i]?.map fun v => .tup [.int ((k + i : Nat) : Int), v] := by
  induction l with
  | nil => intro k i; simp [enumL]
  | cons a r ih =>
    intro k i
    cases i with
    | zero => simp [enumL]
    | succ i => simp only [enumL, List.getElem?_cons_succ]; rw [ih, Nat.add_right_comm, Nat.add_assoc]
theorem enumL_length (l : List PV) : ∀ k, (enumL k l).length = l.length := by
  induction l with
  | nil => intro k; rfl
  | cons a r ih => intro k; simp [enumL, ih]
theorem zipL_get : ∀ (l m : List PV) (i : Nat) (a b : PV), l[i]? = some a → m[i]? = some b → (zipL l m)[i]? = some (.tup [a, b])
  | [], _, _, _, _, h, _ => by simp at h
  | _ :: _, [], _, _, _, _, h => by simp at h
  | x :: l, y :: m, 0, a, b, h1, h2 => by simp at h1 h2; simp [zipL, h1, h2]
  | x :: l, y :: m, i + 1, a, b, h1, h2 => by simp only [zipL, List.getElem?_cons_succ] at h1 h2 ⊢; exact zipL_get l m i a b h1 h2
theorem zipL_length : ∀ (l m : List PV), (zipL l m).length = min l.length m.length
  | [], _ => by simp [zipL]
  | _ :: _, [] => by simp [zipL]
  | x :: l, y :: m => by simp [zipL, zipL_length l m]
theorem isIt_enumL {F : Hp} {mu : List Addr} {p : Addr} {l : List PV} {ys : List V} (h : SqL X.K F p ys) (r : RepL X.K X.w F mu l ys) : IsIt X ca F mu (Ite X.K p) (enumL 0 l) :=
  isIt_walk walk_enum (by rw [enumL_length, r.length]) (fun F1 mu1 H1 st1 E G => G.sqL (E.sqL h)) fun F1 mu1 H1 st1 i x H' _ E G ⟨T, a, b, e1, hT, e2, e3, e4⟩ => by
    subst e1 e2
    simp only [Option.some.injEq] at e3
    subst e3
    obtain ⟨v, e5, r1⟩ := r.get' e4
    obtain ⟨F2, mu2, L2, G2, R2⟩ := yPair G hT (.int (i : Nat)) (r1.mono E)
    exact ⟨F2, mu2, L2, G2, _, by rw [enumL_get, e5, Nat.zero_add]; rfl, R2⟩
theorem isIt_enumT {F : Hp} {mu : List Addr} {p : Addr} {l : List PV} {ys : List V} (h : SqT X.K F p ys) (r : RepL X.K X.w F mu l ys) : IsIt X ca F mu (ItP ys.length (enumV ys) (FHt X.K p ys)) (enumL 0 l) :=
  isIt_walk walkP (by rw [enumL_length, r.length]) (fun F1 mu1 H1 st1 E G => G.sqT (E.sqT h)) fun F1 mu1 H1 st1 i x H' _ E G ⟨T, a, b, e1, hT, e2, e3⟩ => by
    subst e1 e2
    unfold enumV at e3
    obtain ⟨c, e4, e5⟩ := Option.map_eq_some_iff.mp e3
    cases e5
    obtain ⟨v, e5, r1⟩ := r.get' e4
    obtain ⟨F2, mu2, L2, G2, R2⟩ := yPair G hT (.int (i : Nat)) (r1.mono E)
    exact ⟨F2, mu2, L2, G2, _, by rw [enumL_get, e5, Nat.zero_add]; rfl, R2⟩
theorem isIt_zipL {F : Hp} {mu : List Addr} {p q : Addr} {l m : List PV} {ys zs : List V} (h : SqL X.K F p ys) (r : RepL X.K X.w F mu l ys) (h' : SqL X.K F q zs) (r' : RepL X.K X.w F mu m zs) : IsIt X ca F mu (Itz X.K p q) (zipL l m) :=
  isIt_walk (walk_zip rfl) (by rw [zipL_length, r.length, r'.length]) (fun F1 mu1 H1 st1 E G => ⟨G.sqL (E.sqL h), G.sqL (E.sqL h')⟩) fun F1 mu1 H1 st1 i x H' _ E G ⟨T, a, b, e1, hT, e2, e3, e4⟩ => by
    subst e1 e2
    obtain ⟨v, e5, r1⟩ := r.get' e3
    obtain ⟨u, e6, r2⟩ := r'.get' e4
    obtain ⟨F2, mu2, L2, G2, R2⟩ := yPair G hT (r1.mono E) (r2.mono E)
    exact ⟨F2, mu2, L2, G2, _, zipL_get l m i _ _ e5 e6, R2⟩
theorem walk_zipTup {K : PySem.W.Frag} {a b : Addr} {xs ys : List V} : Walk (RZ.ItzT K a b) (min xs.length ys.length) (fun H => SqT K H a xs ∧ SqT K H b ys) (YPair (fun i => xs[i]?) (fun i => ys[i]?)) := by
  refine ⟨fun i H hi q => ⟨xs, ys, xs[i]'(by omega), ys[i]'(by omega), q.1, q.2, List.getElem?_eq_getElem (by omega), List.getElem?_eq_getElem (by omega)⟩, fun H q => ⟨xs, ys, q.1, q.2, by omega⟩, fun i H v H' hi q y => ?_⟩
  obtain ⟨T, x, z, h1, h2, h3, h4, h5⟩ := y
  exact ⟨T, x, z, h1, h2, h3, h4 xs q.1, h5 ys q.2⟩
theorem isIt_zipT {F : Hp} {mu : List Addr} {p q : Addr} {l m : List PV} {ys zs : List V} (h : SqT X.K F p ys) (r : RepL X.K X.w F mu l ys) (h' : SqT X.K F q zs) (r' : RepL X.K X.w F mu m zs) : IsIt X ca F mu (RZ.ItzT X.K p q) (zipL l m) :=
  isIt_walk walk_zipTup (by rw [zipL_length, r.length, r'.length]) (fun F1 mu1 H1 st1 E G => ⟨G.sqT (E.sqT h), G.sqT (E.sqT h')⟩) fun F1 mu1 H1 st1 i x H' _ E G ⟨T, a, b, e1, hT, e2, e3, e4⟩ => by
    subst e1 e2
    obtain ⟨v, e5, r1⟩ := r.get' e3
    obtain ⟨u, e6, r2⟩ := r'.get' e4
    obtain ⟨F2, mu2, L2, G2, R2⟩ := yPair G hT (r1.mono E) (r2.mono E)
    exact ⟨F2, mu2, L2, G2, _, zipL_get l m i _ _ e5 e6, R2⟩
/-! dicts -/
theorem Ents.at {K : PySem.W.Frag} {w : World} {F : Hp} {mu : List Addr} : ∀ {t : Bool} {kvs : List (PV × PV)} {es : List DictEntry} {i : Nat} {e : DictEntry}, Ents K w F mu t kvs es → es[i]? = some e → ∃ k v xk xv, kvs[i]? = some (k, v) ∧ L2.RelV xk e.key ∧ Rep K w F mu k xk ∧ L2.RelV xv e.val ∧ Rep K w F mu v xv
  | _, _, _, 0, _, .cons hk hh rk pk rv pv r, h => by simp at h; subst h; exact ⟨_, _, _, _, rfl, rk, pk, rv, pv⟩
  | _, _, _, i + 1, _, .cons hk hh rk pk rv pv r, h => by simp only [List.getElem?_cons_succ] at h ⊢; exact Ents.at r h
  | _, _, _, _, _, .nil t, h => by simp at h
theorem Ents.entsV {K : PySem.W.Frag} {w : World} {F : Hp} {mu : List Addr} {t : Bool} {kvs : List (PV × PV)} {es : Array DictEntry} (r : Ents K w F mu t kvs es.toList) : EntsV es := fun e he => by
  obtain ⟨i, hi⟩ := List.mem_iff_getElem?.mp he
  obtain ⟨k, v, xk, xv, _, a, _, b, _⟩ := r.at hi
  exact ⟨⟨xk, a⟩, xv, b⟩
theorem isIt_keys {F : Hp} {mu : List Addr} {p : Addr} {o : Obj} {es : Array DictEntry} {t : Bool} {kvs : List (PV × PV)} (h : F p = some (dHO p o)) (r : Ents X.K X.w F mu t kvs es.toList) : IsIt X ca F mu (ItS es.size (keyV es) (FHd p o)) (kvs.map (·.1)) :=
  isIt_walk walkS (by rw [List.length_map, r.len]; simp) (fun F1 mu1 H1 st1 E G => G.hF (E.sub _ _ h)) fun F1 mu1 H1 st1 i x H' _ E G ⟨e1, e2⟩ => by
    subst e1
    unfold keyV at e2
    obtain ⟨e, e3, e4⟩ := Option.bind_eq_some_iff.mp e2
    obtain ⟨k, v, xk, xv, e5, rk, pk, _⟩ := r.at (by rw [Array.getElem?_toList]; exact e3)
    rw [rk.abs] at e4
    cases e4
    exact ⟨F1, mu1, .refl, G, k, by rw [List.getElem?_map, e5]; rfl, pk.mono E⟩
theorem isIt_items {F : Hp} {mu : List Addr} {p : Addr} {o : Obj} {es : Array DictEntry} {t : Bool} {kvs : List (PV × PV)} (h : F p = some (dHO p o)) (r : Ents X.K X.w F mu t kvs es.toList) : IsIt X ca F mu (ItP es.size (itemV es) (FHd p o)) (kvs.map fun p => .tup [p.1, p.2]) :=
  isIt_walk walkP (by rw [List.length_map, r.len]; simp) (fun F1 mu1 H1 st1 E G => G.hF (E.sub _ _ h)) fun F1 mu1 H1 st1 i x H' _ E G ⟨T, a, b, e1, hT, e2, e3⟩ => by
    subst e1 e2
    unfold itemV at e3
    obtain ⟨e, e4, e3⟩ := Option.bind_eq_some_iff.mp e3
    obtain ⟨k, v, xk, xv, e5, rk, pk, rv, pv⟩ := r.at (by rw [Array.getElem?_toList]; exact e4)
    rw [rk.abs, rv.abs] at e3
    cases e3
    obtain ⟨F2, mu2, L2, G2, R2⟩ := yPair G hT (pk.mono E) (pv.mono E)
    exact ⟨F2, mu2, L2, G2, _, by rw [List.getElem?_map, e5]; rfl, R2⟩
end
end Pv
end

section
set_option Elab.async false
set_option linter.all false
set_option maxRecDepth 100000
set_option autoImplicit false
namespace Pv
open PySem PySem.Spec PyProof.Rows L2

section
variable {X : Cx} {ca : Str → Option Addr} {f g : Fr → Store → Option (PV × Store)} {ea eb tg : Expr} {pos : Pos}
/-! ### what a loop goes through -/
theorem si_seq (ha : PE X ea (LE X ca f)) : PI X tg ea (LI X ca fun fr st => (f fr st).bind fun p => match p.1 with
    | .dct _ kvs => some (kvs.map (·.1), p.2)
    | .tup l => some (l, p.2)
    | .lst l => some (l, p.2)
    | .fz l => some (l, p.2)
    | _ => none) := by
  refine ⟨fun pins s σ H R I ⟨F, mu, fr, st, xs, st', G, R0, e, q⟩ => ?_⟩
  obtain ⟨v, s1, e1, e⟩ := bind2 (k := fun (v : PV) s1 => match v with
    | .dct _ kvs => some (kvs.map (·.1), s1)
    | .tup l => some (l, s1)
    | .lst l => some (l, s1)
    | .fz l => some (l, s1)
    | _ => none) e
  split at e <;> try contradiction
  · simp only [Option.some.injEq, Prod.mk.injEq] at e
    obtain ⟨rfl, rfl⟩ := e
    refine (pi_keysD (tg := tg) ha).run pins s σ H R I ⟨F, mu, fr, st, _, s1, G, R0, e1, fun F1 mu1 H1 a L1 G1 R1 => ?_⟩
    cases R1 with
    | dct h ho hd hs hz hn r => exact ⟨_, _, _, _, rfl, G1.hF h, ho, hd, r.entsV, hs, q F1 mu1 H1 _ L1 G1 (isIt_keys h r)⟩
  · simp only [Option.some.injEq, Prod.mk.injEq] at e
    obtain ⟨rfl, rfl⟩ := e
    refine (pi_tup (tg := tg) ha).run pins s σ H R I ⟨F, mu, fr, st, _, s1, G, R0, e1, fun F1 mu1 H1 a L1 G1 R1 => ?_⟩
    cases R1 with
    | tup h r => exact ⟨_, rfl, ⟨_, G1.sqT h⟩, q F1 mu1 H1 _ L1 G1 (isIt_tup h r)⟩
  · simp only [Option.some.injEq, Prod.mk.injEq] at e
    obtain ⟨rfl, rfl⟩ := e
    refine (pi_list (tg := tg) ha).run pins s σ H R I ⟨F, mu, fr, st, _, s1, G, R0, e1, fun F1 mu1 H1 a L1 G1 R1 => ?_⟩
    cases R1 with
    | lst h r => exact ⟨_, rfl, ⟨_, .of (G1.hF h)⟩, q F1 mu1 H1 _ L1 G1 (isIt_list (.of h) r)⟩
  · simp only [Option.some.injEq, Prod.mk.injEq] at e
    obtain ⟨rfl, rfl⟩ := e
    refine (pi_list (tg := tg) ha).run pins s σ H R I ⟨F, mu, fr, st, _, s1, G, R0, e1, fun F1 mu1 H1 a L1 G1 R1 => ?_⟩
    cases R1 with
    | fz h r => exact ⟨_, rfl, ⟨_, G1.sqL h⟩, q F1 mu1 H1 _ L1 G1 (isIt_list h r)⟩
theorem rngOk_is {a b : Int} (h : rngOk a b = true) : -(2 ^ 62) ≤ a ∧ a < 2 ^ 62 ∧ -(2 ^ 62) ≤ b ∧ b < 2 ^ 62 ∧ (b - a).toNat ≤ SZ := of_decide_eq_true h
theorem si_rng1 {p : Pos} (hg : Gl X "range") (hm : X.mg "range" = none) (ha : PE X ea (LE X ca f)) (hs : starEach [ea] X.env = [(false, eval ea X.env)]) : PI X tg (.Call (.Name "range" p) [ea] [] pos)
    (LI X ca fun fr st => (f fr st).bind fun p => match p.1 with
    | .int n => if rngOk 0 n then some (rngL 0 n, p.2) else none
    | _ => none) := by
  refine ⟨fun pins s σ H R I ⟨F, mu, fr, st, xs, st', G, R0, e, q⟩ => ?_⟩
  obtain ⟨v, s1, e1, e⟩ := bind2 (k := fun (v : PV) s1 => match v with
    | .int n => if rngOk 0 n then some (rngL 0 n, s1) else none
    | _ => none) e
  split at e <;> try contradiction
  rename_i n
  split at e <;> try contradiction
  rename_i hr
  simp only [Option.some.injEq, Prod.mk.injEq] at e
  obtain ⟨rfl, rfl⟩ := e
  obtain ⟨_, _, h3, h4, _⟩ := rngOk_is hr
  refine (pi_range1 (tg := tg) hg hm (pa_cons ha pa_nil hs) hs).run pins s σ H R I ⟨F, mu, fr, st, _, s1, G, R0, e1, fun F1 mu1 H1 a L1 G1 R1 => ?_⟩
  cases R1
  refine ⟨n, rfl, h3, h4, ?_⟩
  have := q F1 mu1 H1 _ L1 G1 (isIt_rng (a := 0) (b := n))
  rw [Int.sub_zero] at this
  exact this
theorem si_rng2 {p : Pos} (hg : Gl X "range") (hm : X.mg "range" = none) (ha : PE X ea (LE X ca f)) (hb : PE X eb (LE X ca g)) (hs : starEach [ea, eb] X.env = [(false, eval ea X.env), (false, eval eb X.env)]) (hs2 : starEach [eb] X.env = [(false, eval eb X.env)]) :
    PI X tg (.Call (.Name "range" p) [ea, eb] [] pos) (LI X ca fun fr st => (f fr st).bind fun p => (g fr p.2).bind fun q => match p.1, q.1 with
    | .int m, .int n => if rngOk m n then some (rngL m n, q.2) else none
    | _, _ => none) := by
  refine ⟨fun pins s σ H R I ⟨F, mu, fr, st, xs, st', G, R0, e, q⟩ => ?_⟩
  obtain ⟨v, s1, e1, e'⟩ := bind2 (k := fun (v : PV) s1 => (g fr s1).bind fun q => match v, q.1 with
    | .int m, .int n => if rngOk m n then some (rngL m n, q.2) else none
    | _, _ => none) e
  clear e
  obtain ⟨u, s2, e2, e⟩ := bind2 (k := fun (u : PV) s2 => match v, u with
    | .int m, .int n => if rngOk m n then some (rngL m n, s2) else none
    | _, _ => none) e'
  clear e'
  split at e <;> try contradiction
  rename_i m n
  split at e <;> try contradiction
  rename_i hr
  simp only [Option.some.injEq, Prod.mk.injEq] at e
  obtain ⟨rfl, rfl⟩ := e
  obtain ⟨h1, h2, h3, h4, _⟩ := rngOk_is hr
  refine (pi_range2 (tg := tg) hg hm (pa_cons ha (pa_cons hb pa_nil hs2) (by rw [hs, hs2])) hs hs2).run pins s σ H R I ⟨F, mu, fr, st, _, s1, G, R0, e1, fun F1 mu1 H1 a L1 G1 R1 => ⟨F1, mu1, fr, s1, _, s2, G1, R0.mono L1.ext, e2, fun F2 mu2 H2 b L2 G2 R2 => ?_⟩⟩
  cases R1
  cases R2
  exact ⟨m, n, rfl, ⟨h1, h2, h3, h4⟩, q F2 mu2 H2 _ (L1.trans L2) G2 isIt_rng⟩
theorem si_enum {elts : List Expr} {kk : Nat} {tpos p : Pos} (hg : Gl X "enumerate") (hm : X.mg "enumerate" = none) (ha : PE X ea (LE X ca f)) (hs : starEach [ea] X.env = [(false, eval ea X.env)]) :
    PI X (.Tuple elts kk tpos) (.Call (.Name "enumerate" p) [ea] [] pos) (LI X ca fun fr st => (f fr st).bind fun p => match p.1 with
    | .tup l => some (enumL 0 l, p.2)
    | .lst l => some (enumL 0 l, p.2)
    | _ => none) := by
  refine ⟨fun pins s σ H R I ⟨F, mu, fr, st, xs, st', G, R0, e, q⟩ => ?_⟩
  obtain ⟨v, s1, e1, e⟩ := bind2 (k := fun (v : PV) s1 => match v with
    | .tup l => some (enumL 0 l, s1)
    | .lst l => some (enumL 0 l, s1)
    | _ => none) e
  split at e <;> try contradiction
  · simp only [Option.some.injEq, Prod.mk.injEq] at e
    obtain ⟨rfl, rfl⟩ := e
    refine (pi_enumT hg hm (pa_cons ha pa_nil hs) hs).run pins s σ H R I ⟨F, mu, fr, st, _, s1, G, R0, e1, fun F1 mu1 H1 a L1 G1 R1 => ?_⟩
    cases R1 with
    | tup h r => exact ⟨_, _, rfl, G1.sqT h, q F1 mu1 H1 _ L1 G1 (isIt_enumT h r)⟩
  · simp only [Option.some.injEq, Prod.mk.injEq] at e
    obtain ⟨rfl, rfl⟩ := e
    refine (pi_enum hg hm (pa_cons ha pa_nil hs) hs).run pins s σ H R I ⟨F, mu, fr, st, _, s1, G, R0, e1, fun F1 mu1 H1 a L1 G1 R1 => ?_⟩
    cases R1 with
    | lst h r => exact ⟨_, _, rfl, .of (G1.hF h), q F1 mu1 H1 _ L1 G1 (isIt_enumL (.of h) r)⟩
theorem si_zip {elts : List Expr} {kk : Nat} {tpos p : Pos} (hg : Gl X "zip") (hm : X.mg "zip" = none) (ha : PE X ea (LE X ca f)) (hb : PE X eb (LE X ca g)) (hs : starEach [ea, eb] X.env = (false, eval ea X.env) :: starEach [eb] X.env) (hs2 : starEach [eb] X.env = [(false, eval eb X.env)])
    (hpl : (backTo pos (starEach [eb] X.env)).any (·.1) = false) :
    PI X (.Tuple elts kk tpos) (.Call (.Name "zip" p) [ea, eb] [] pos) (LI X ca fun fr st => (f fr st).bind fun p => (g fr p.2).bind fun q => match p.1, q.1 with
    | .tup l, .tup m => some (zipL l m, q.2)
    | .lst l, .lst m => some (zipL l m, q.2)
    | _, _ => none) := by
  refine ⟨fun pins s σ H R I ⟨F, mu, fr, st, xs, st', G, R0, e, q⟩ => ?_⟩
  obtain ⟨v, s1, e1, e⟩ := bind2 (k := fun (v : PV) s1 => (g fr s1).bind fun q => match v, q.1 with
    | .tup l, .tup m => some (zipL l m, q.2)
    | .lst l, .lst m => some (zipL l m, q.2)
    | _, _ => none) e
  obtain ⟨u, s2, e2, e⟩ := bind2 (k := fun (u : PV) s2 => match v, u with
    | .tup l, .tup m => some (zipL l m, s2)
    | .lst l, .lst m => some (zipL l m, s2)
    | _, _ => none) e
  refine (RZ.pi_zipA hg hm (pa_cons ha (pa_cons hb pa_nil hs2) hs) hs hpl).run pins s σ H R I ⟨F, mu, fr, st, _, s1, G, R0, e1, fun F1 mu1 H1 a L1 G1 R1 => ⟨F1, mu1, fr, s1, _, s2, G1, R0.mono L1.ext, e2, fun F2 mu2 H2 b L2 G2 R2 => ?_⟩⟩
  have R1' := R1.mono L2.ext
  split at e <;> try contradiction
  · simp only [Option.some.injEq, Prod.mk.injEq] at e
    obtain ⟨rfl, rfl⟩ := e
    cases R1' with
    | tup h r =>
      cases R2 with
      | tup h' r' => exact ⟨_, _, _, _, rfl, .inr ⟨G2.sqT h, G2.sqT h', q F2 mu2 H2 _ (L1.trans L2) G2 (isIt_zipT h r h' r')⟩⟩
  · simp only [Option.some.injEq, Prod.mk.injEq] at e
    obtain ⟨rfl, rfl⟩ := e
    cases R1' with
    | lst h r =>
      cases R2 with
      | lst h' r' => exact ⟨_, _, _, _, rfl, .inl ⟨.of (G2.hF h), .of (G2.hF h'), q F2 mu2 H2 _ (L1.trans L2) G2 (isIt_zipL (.of h) r (.of h') r')⟩⟩
theorem si_items {elts : List Expr} {kk : Nat} {tpos apos : Pos} (ha : PE X ea (LE X ca f)) (hb : attributeBase ea "items" X.env (eval ea X.env) = eval ea X.env) (hline : (apos.endLine == pos.line) = true) :
    PI X (.Tuple elts kk tpos) (.Call (.Attribute ea "items" apos) [] [] pos) (LI X ca fun fr st => (f fr st).bind fun p => match p.1 with
    | .dct _ kvs => some (kvs.map fun p => .tup [p.1, p.2], p.2)
    | _ => none) := by
  refine ⟨fun pins s σ H R I ⟨F, mu, fr, st, xs, st', G, R0, e, q⟩ => ?_⟩
  obtain ⟨v, s1, e1, e⟩ := bind2 (k := fun (v : PV) s1 => match v with
    | .dct _ kvs => some (kvs.map fun p => PV.tup [p.1, p.2], s1)
    | _ => none) e
  split at e <;> try contradiction
  simp only [Option.some.injEq, Prod.mk.injEq] at e
  obtain ⟨rfl, rfl⟩ := e
  refine (pi_itemsD ha hb hline).run pins s σ H R I ⟨F, mu, fr, st, _, s1, G, R0, e1, fun F1 mu1 H1 a L1 G1 R1 => ?_⟩
  cases R1 with
  | dct h ho hd hs hz hn r => exact ⟨_, _, _, _, rfl, G1.hF h, ho, hd, r.entsV, hs, q F1 mu1 H1 _ L1 G1 (isIt_items h r)⟩

/-! ### targets -/
end
mutual
/-- the names that a target writes -/
def ctI : CT → List Nat
  | .nm i => [i]
  | .tp ts => ctIs ts
def ctIs : List CT → List Nat
  | [] => []
  | t :: ts => ctI t ++ ctIs ts
end
/-- σ' is σ but for these names -/
def Out (I : List Nat) (σ σ' : L2.St) : Prop := σ'.length = σ.length ∧ ∀ vs : List Nat, (∀ i ∈ I, i ∈ vs) → wipe σ' vs = wipe σ vs
theorem wipe_set {σ : L2.St} {i : Nat} {x : Option V} : ∀ {vs : List Nat}, i ∈ vs → wipe (σ.set i x) vs = wipe σ vs
  | v :: vs, h => by
    unfold wipe
    by_cases hv : i ∈ vs
    · rw [wipe_set hv]
    · have e : v = i := by
        rcases List.mem_cons.mp h with z | z
        · exact z.symm
        · exact absurd z hv
      subst e
      have key : ∀ (ws : List Nat), v ∉ ws → wipe (σ.set v x) ws = (wipe σ ws).set v x := by
        intro ws
        induction ws with
        | nil => intro _; rfl
        | cons w ws ih =>
          intro hn
          rw [List.mem_cons, not_or] at hn
          show (wipe (σ.set v x) ws).set w none = ((wipe σ ws).set w none).set v x
          rw [ih hn.2, List.set_comm _ _ hn.1]
      rw [key vs hv, List.set_set]
theorem Out.set (σ : L2.St) (i : Nat) (x : Option V) : Out [i] σ (σ.set i x) := ⟨by rw [List.length_set], fun vs h => wipe_set (h i (by simp))⟩
theorem Out.trans {I J : List Nat} {σ σ1 σ2 : L2.St} (a : Out I σ σ1) (b : Out J σ1 σ2) : Out (I ++ J) σ σ2 :=
  ⟨b.1.trans a.1, fun vs h => (b.2 vs fun i hi => h i (List.mem_append_right _ hi)).trans (a.2 vs fun i hi => h i (List.mem_append_left _ hi))⟩
theorem Out.refl (σ : L2.St) : Out [] σ σ := ⟨rfl, fun _ _ => rfl⟩
section
variable (X : Cx) (ca : Str → Option Addr)
def LG (t : CT) : TG := fun v σ H Q => ∃ (F : Hp) (mu : List Addr) (fr : Fr) (st : Store) (u : PV) (fr' : Fr), Hold X.K X.w ca F mu H st ∧ FrR X.K X.w F mu fr σ ∧ Rep X.K X.w F mu u v ∧ asgT t u fr = some fr' ∧ ∀ σ', FrR X.K X.w F mu fr' σ' → Out (ctI t) σ σ' → Q σ' H
def LGs (ts : List CT) : TGs := fun vs σ H Q => ∃ (F : Hp) (mu : List Addr) (fr : Fr) (st : Store) (us : List PV) (fr' : Fr), Hold X.K X.w ca F mu H st ∧ FrR X.K X.w F mu fr σ ∧ RepL X.K X.w F mu us vs ∧ asgTs ts us fr = some fr' ∧ ∀ σ', FrR X.K X.w F mu fr' σ' → Out (ctIs ts) σ σ' → Q σ' H
end
theorem _root_.L2.PG.weak {X : Cx} {e : Expr} {t t' : TG} (h : PG X e t) (k : ∀ v σ H Q, t' v σ H Q → t v σ H Q) : PG X e t' := ⟨fun pins s σ H v u Q I r q => h.run pins s σ H v u Q I r (k _ _ _ _ q)⟩
theorem _root_.L2.PGs.weak {X : Cx} {e : List Expr} {t t' : TGs} (h : PGs X e t) (k : ∀ v σ H Q, t' v σ H Q → t v σ H Q) : PGs X e t' := ⟨fun pins s σ H v u Q I r q => h.run pins s σ H v u Q I r (k _ _ _ _ q)⟩
section
variable {X : Cx} {ca : Str → Option Addr} {pos : Pos}
theorem sg_nm {i : Nat} {x : Str} (hN : X.N.Nodup) (hi : X.N[i]? = some x) (hx : Loc X.env.scope x) (hf : X.fn x = true ∨ X.env.scope.names.lookup x = some .local) : PG X (.Name x pos) (LG X ca (.nm i)) :=
  (pg_name hN hi hx hf).weak fun v σ H Q ⟨F, mu, fr, st, u, fr', G, R, r, e, q⟩ => by
    simp only [asgT] at e
    split at e <;> try contradiction
    simp only [Option.some.injEq] at e; subst e
    exact q _ (R.set r) (Out.set σ i _)
theorem sgs_nil : PGs X [] (LGs X ca []) := pgs_nil.weak fun v σ H Q ⟨F, mu, fr, st, us, fr', G, R, r, e, q⟩ => by
  cases us with
  | nil =>
    cases r
    simp only [asgTs, Option.some.injEq] at e; subst e
    exact ⟨rfl, q σ R (Out.refl σ)⟩
  | cons => simp [asgTs] at e
theorem sgs_cons {e : Expr} {es : List Expr} {t : CT} {ts : List CT} (h1 : PG X e (LG X ca t)) (h2 : PGs X es (LGs X ca ts)) (hs : (assignEach (e :: es) X.env).map (·.2) = assign e X.env :: (assignEach es X.env).map (·.2)) : PGs X (e :: es) (LGs X ca (t :: ts)) :=
  (pgs_cons h1 h2 hs).weak fun v σ H Q ⟨F, mu, fr, st, us, fr', G, R, r, e, q⟩ => by
    cases us with
    | nil => simp [asgTs] at e
    | cons a us =>
      simp only [asgTs] at e
      obtain ⟨fr1, e1, e2⟩ := Option.bind_eq_some_iff.mp e
      cases r with
      | cons r1 r2 => exact ⟨_, _, rfl, F, mu, fr, st, a, fr1, G, R, r1, e1, fun σ1 R1 o1 => ⟨F, mu, fr1, st, us, fr', G, R1, r2, e2, fun σ2 R2 o2 => q σ2 R2 (o1.trans o2)⟩⟩
theorem sg_tp {es : List Expr} {k : Nat} {ts : List CT} (hc : X.calm = true) (h : PGs X es (LGs X ca ts)) (hn : (assignEach es X.env).length = ts.length) (hst : (assignEach es X.env).findIdx? (·.1) = none) : PG X (.Tuple es k pos) (LG X ca (.tp ts)) :=
  (pg_tup hc h hn hst).weak fun v σ H Q ⟨F, mu, fr, st, u, fr', G, R, r, e, q⟩ => by
    cases u with
    | tup l =>
      simp only [asgT] at e
      split at e <;> try contradiction
      rename_i hl
      cases r with
      | tup h1 h2 => exact ⟨_, _, rfl, G.sqT h1, by rw [← h2.length, hl], F, mu, fr, st, l, fr', G, R, h2, e, fun σ' R' o => q σ' R' (by simpa [ctI] using o)⟩
    | _ => simp [asgT] at e
end
end Pv
end

section
set_option Elab.async false
set_option linter.all false
set_option maxRecDepth 100000
set_option autoImplicit false
namespace Pv
open PySem PySem.Spec PyProof.Rows L2

theorem wipe_get {σ : L2.St} {i : Nat} : ∀ {vs : List Nat}, (wipe σ vs)[i]? = if i ∈ vs then (σ[i]?).map (fun _ => none) else σ[i]?
  | [] => by simp [wipe]
  | v :: vs => by
    unfold wipe
    by_cases e : v = i
    · subst e
      rw [if_pos (List.mem_cons_self ..), List.getElem?_set]
      simp only [if_true]
      rw [wipe_length]
      by_cases h : v < σ.length
      · simp [h]
      · simp [h]
    · rw [List.getElem?_set_ne e, wipe_get]
      have : i ∈ v :: vs ↔ i ∈ vs := by simp [Ne.symm e]
      simp only [this]
theorem wipe_twice {σ : L2.St} {vs : List Nat} : wipe (wipe σ vs) vs = wipe σ vs := by
  apply List.ext_getElem?
  intro i
  rw [wipe_get]
  by_cases h : i ∈ vs
  · rw [if_pos h, wipe_get, if_pos h]
    cases σ[i]? <;> rfl
  · rw [if_neg h]

section
variable {F F' F0 : Hp} {mu mu' mu0 : List Addr} {H H' H1 : Hp} {D : Addr} {o : HO}
theorem Le.out (L : Le F mu H F' mu' H') (hD : H D = some o) (hm : D ∉ mu) (hF : F D = none) : D ∉ mu' ∧ F' D = none ∧ H' D = some o := by
  refine ⟨fun m => ?_, ?_, L.keep D o hD hm⟩
  · rcases L.newm D m with z | z
    · exact hm z
    · rw [hD] at z; cases z
  · cases q : F' D with
    | none => rfl
    | some u =>
      rcases L.new D u q with z | z | z
      · rw [hF] at z; cases z
      · rw [hD] at z; cases z
      · exact absurd z hm
theorem Le.updD (L : Le F0 mu0 H1 F mu H) (h : H1 D = none) (o : HO) : Le F0 mu0 H1 F mu (upd H D o) := by
  refine ⟨L.ext, L.new, L.newm, fun a u e hn => ?_, fun a u e => ?_⟩
  · rw [upd_ne (ne_of_none e h)]; exact L.keep a u e hn
  · rw [upd_ne (ne_of_none e h)]; exact L.stay a u e
end

section
variable {α : Type} (X : Cx) (ca : Str → Option Addr) (AR : Hp → List Addr → List α → HO → Prop) (F0 : Hp) (mu0 : List Addr) (H1 : Hp) (D : Addr) (step : PV → Store → Option (List α × Store)) (xs : List PV) (total : List α) (stE : Store)
/-- what stands ahead of turn i; the new object at D -/
def LInv (i : Nat) (H : Hp) : Prop := ∃ F mu st o accP rest, D ∉ mu ∧ F D = none ∧ Le F0 mu0 H1 F mu H ∧ Hold X.K X.w ca F mu H st ∧ H D = some o ∧ AR F mu accP o ∧ clL step (xs.drop i) st = some (rest, stE) ∧ accP ++ rest = total
end
section
variable {α : Type} {X : Cx} {ca : Str → Option Addr} {AR : Hp → List Addr → List α → HO → Prop} {F0 : Hp} {mu0 : List Addr} {H1 : Hp} {D : Addr} {step : PV → Store → Option (List α × Store)} {xs : List PV} {total : List α} {stE : Store} {J : It} {i : Nat} {H : Hp}
theorem LInv.turn (am : ∀ F mu F' mu' l o, Ext F mu F' mu' → AR F mu l o → AR F' mu' l o) (h : LInv X ca AR F0 mu0 H1 D step xs total stE i H) (hi : i < xs.length) (it : IsIt X ca F0 mu0 J xs) :
    J.go i H ∧ ∀ x H', J.yld i H x H' → ∃ F mu st o accP v a s3 b, D ∉ mu ∧ F D = none ∧ Le F0 mu0 H1 F mu H' ∧ Hold X.K X.w ca F mu H' st ∧ H' D = some o ∧ AR F mu accP o ∧ Rep X.K X.w F mu v x ∧ step v st = some (a, s3) ∧
      clL step (xs.drop (i + 1)) s3 = some (b, stE) ∧ accP ++ (a ++ b) = total := by
  obtain ⟨F, mu, st, o, accP, rest, d1, d2, L, G, hD, ra, ec, et⟩ := h
  obtain ⟨go, stop, yld⟩ := it F mu H st L.ext G
  refine ⟨go i hi, fun x H' y => ?_⟩
  obtain ⟨F2, mu2, L2, G2, v, hv, rv⟩ := yld i x H' hi y
  have hv' : xs[i] = v := by
    rw [List.getElem?_eq_getElem hi] at hv; exact Option.some.inj hv
  rw [List.drop_eq_getElem_cons hi, hv', clL] at ec
  obtain ⟨a, s3, e1, ec⟩ := bind2 (k := fun a s3 => (clL step (xs.drop (i + 1)) s3).map fun q => (a ++ q.1, q.2)) ec
  obtain ⟨b, e2, e3⟩ := Option.map_eq_some_iff.mp ec
  obtain ⟨b, s4⟩ := b
  simp only [Prod.mk.injEq] at e3
  obtain ⟨rfl, rfl⟩ := e3
  obtain ⟨k1, k2, k3⟩ := L2.out hD d1 d2
  exact ⟨F2, mu2, st, o, accP, v, a, s3, b, k1, k2, L.trans L2, G2, k3, am _ _ _ _ _ _ L2.ext ra, rv, e1, e2, et⟩
theorem LInv.next {F : Hp} {mu : List Addr} {o : HO} {accP a b : List α} {s3 : Store} (d1 : D ∉ mu) (d2 : F D = none) (L : Le F0 mu0 H1 F mu H) (G : Hold X.K X.w ca F mu H s3) (hD : H D = some o) (ra : AR F mu (accP ++ a) o) (ec : clL step (xs.drop (i + 1)) s3 = some (b, stE)) (et : accP ++ (a ++ b) = total) :
    LInv X ca AR F0 mu0 H1 D step xs total stE (i + 1) H := ⟨F, mu, s3, o, accP ++ a, b, d1, d2, L, G, hD, ra, ec, by rw [List.append_assoc]; exact et⟩
theorem LInv.stop (h : LInv X ca AR F0 mu0 H1 D step xs total stE i H) (hi : i = xs.length) (it : IsIt X ca F0 mu0 J xs) :
    J.stop i H ∧ ∃ F mu o, D ∉ mu ∧ F D = none ∧ Le F0 mu0 H1 F mu H ∧ Hold X.K X.w ca F mu H stE ∧ H D = some o ∧ AR F mu total o := by
  obtain ⟨F, mu, st, o, accP, rest, d1, d2, L, G, hD, ra, ec, et⟩ := h
  obtain ⟨go, stop, yld⟩ := it F mu H st L.ext G
  subst hi
  rw [List.drop_length, clL] at ec
  simp only [Option.some.injEq, Prod.mk.injEq] at ec
  obtain ⟨rfl, rfl⟩ := ec
  rw [List.append_nil] at et
  exact ⟨stop, F, mu, o, d1, d2, L, G, hD, et ▸ ra⟩
end

def ARL (X : Cx) : Hp → List Addr → List PV → HO → Prop := fun F mu l o => ∃ xs, o = .lst xs ∧ RepL X.K X.w F mu l xs
theorem ARL.mono {X : Cx} : ∀ F mu F' mu' l o, Ext F mu F' mu' → ARL X F mu l o → ARL X F' mu' l o := fun _ _ _ _ _ _ E ⟨xs, e, r⟩ => ⟨xs, e, r.mono E⟩
section
variable {X : Cx} {ca : Str → Option Addr}
/-- a list of one's own becomes a value or a cell -/
theorem Hold.endL {F : Hp} {mu : List Addr} {H : Hp} {st st' : Store} {p : Addr} {v : PV} {c : Bool} {l : List PV} {ys : List V} (G : Hold X.K X.w ca F mu H st) (hp : H p = some (.lst ys)) (hm : p ∉ mu) (hF : F p = none) (r : RepL X.K X.w F mu l ys) (e : mkL c l st = some (v, st')) :
    ∃ F' mu', Ext F mu F' mu' ∧ Hold X.K X.w ca F' mu' H st' ∧ Rep X.K X.w F' mu' v (.ref p) ∧ (∀ a u, F' a = some u → F a = some u ∨ a = p) ∧ ∀ a ∈ mu', a ∈ mu ∨ a = p := by
  unfold mkL at e
  split at e <;> try contradiction
  cases c with
  | false =>
    simp only [Bool.false_eq_true, if_false, Option.some.injEq, Prod.mk.injEq] at e
    obtain ⟨rfl, rfl⟩ := e
    obtain ⟨G2, E⟩ := G.frozen hp hm hF
    refine ⟨_, _, E, G2, .lst upd_same (r.mono E), fun a u e => ?_, fun a h => .inl h⟩
    by_cases z : a = p
    · exact .inr z
    · rw [upd_ne z] at e; exact .inl e
  | true =>
    simp only [if_true, Option.some.injEq, Prod.mk.injEq] at e
    obtain ⟨rfl, rfl⟩ := e
    obtain ⟨G2, E⟩ := G.cell (c := .lst l) hp hm hF ⟨_, rfl, r⟩
    refine ⟨_, _, E, G2, .loc (by rw [← G.len]; simp), fun a u e => .inl e, fun a h => ?_⟩
    rcases List.mem_append.mp h with h | h
    · exact .inl h
    · exact .inr (by simpa using h)
theorem mkL_len {c : Bool} {l : List PV} {st : Store} {r : PV × Store} (h : mkL c l st = some r) : l.length ≤ SZ := by
  unfold mkL at h
  split at h
  · assumption
  · cases h

def lcS {α : Type} (own : List Nat) (t : CT) (ff : Fr → Store → Option (Bool × Store)) (fb : Fr → Store → Option (List α × Store)) (fr : Fr) : PV → Store → Option (List α × Store) :=
  fun x s => (asgT t x (wipeF fr own)).bind fun fr1 => (ff fr1 s).bind fun p => if p.1 then fb fr1 p.2 else some ([], p.2)
theorem lcS_some {α : Type} {own : List Nat} {t : CT} {ff : Fr → Store → Option (Bool × Store)} {fb : Fr → Store → Option (List α × Store)} {fr : Fr} {x : PV} {s : Store} {a : List α} {s3 : Store} (h : lcS own t ff fb fr x s = some (a, s3)) :
    ∃ fr1 b s2, asgT t x (wipeF fr own) = some fr1 ∧ ff fr1 s = some (b, s2) ∧ ((b = true ∧ fb fr1 s2 = some (a, s3)) ∨ (b = false ∧ a = [] ∧ s2 = s3)) := by
  unfold lcS at h
  obtain ⟨fr1, h1, h⟩ := Option.bind_eq_some_iff.mp h
  obtain ⟨b, s2, h2, h⟩ := bind2 (k := fun (b : Bool) s2 => if b then fb fr1 s2 else some ([], s2)) h
  refine ⟨fr1, b, s2, h1, h2, ?_⟩
  cases b with
  | true => exact .inl ⟨rfl, h⟩
  | false =>
    simp only [Bool.false_eq_true, if_false, Option.some.injEq, Prod.mk.injEq] at h
    exact .inr ⟨rfl, h.1.symm, h.2⟩
/-- one item -/
def one (fe : Fr → Store → Option (PV × Store)) : Fr → Store → Option (List PV × Store) := fun fr s => (fe fr s).map fun q => ([q.1], q.2)
theorem one_some {fe : Fr → Store → Option (PV × Store)} {fr : Fr} {s : Store} {a : List PV} {s3 : Store} (h : one fe fr s = some (a, s3)) : ∃ v, fe fr s = some (v, s3) ∧ a = [v] := by
  unfold one at h
  obtain ⟨q, e1, e2⟩ := Option.map_eq_some_iff.mp h
  obtain ⟨v, s4⟩ := q
  simp only [Prod.mk.injEq] at e2
  obtain ⟨rfl, rfl⟩ := e2
  exact ⟨v, e1, rfl⟩

variable {elt tg iter tg1 iter1 : Expr} {ifs ifs1 : List Expr} {scope : Scope} {own : List (Str × Nat)} {pos : Pos} {fi fi1 : Fr → Store → Option (List PV × Store)} {ff ff1 : Fr → Store → Option (Bool × Store)} {fe : Fr → Store → Option (PV × Store)} {t t1 : CT} {c : Bool} {own1 : List Nat}
/-- the reading of a list comprehension -/
theorem lc_read (hown : ∀ i ∈ ctI t, i ∈ own.map (·.2)) : ∀ σ H Q, LE X ca (fun fr st => (fi fr st).bind fun xs => (clL (lcS (own.map (·.2)) t ff (one fe) fr) xs.1 xs.2).bind fun vs => mkL c vs.1 vs.2) σ H Q → tLc (LI X ca fi) (LG X ca t) (LT X ca ff) (LE X ca fe) (own.map (·.2)) σ H Q := by
  rintro σ H Q ⟨F, mu, fr, st, v, st', G, R, e, q⟩
  obtain ⟨xs, s1, e1, e⟩ := bind2 (k := fun xs s1 => (clL (lcS (own.map (·.2)) t ff (one fe) fr) xs s1).bind fun vs => mkL c vs.1 vs.2) e
  obtain ⟨vs, s2, e2, e⟩ := bind2 (k := fun vs s2 => mkL c vs s2) e
  have hz := mkL_len e
  refine ⟨F, mu, fr, st, xs, s1, G, R, e1, fun F1 mu1 H1 J L1 G1 it D hD => ?_⟩
  have m1 := G1.notmem hD
  have f1 := G1.noF hD
  obtain ⟨G1', _⟩ := G1.aside hD (.lst [])
  refine ⟨fun i m H' => m = xs.length - i ∧ i ≤ xs.length ∧ LInv X ca (ARL X) F1 mu1 H1 D (lcS (own.map (·.2)) t ff (one fe) fr) xs vs s2 i H', ⟨xs.length, by simp, Nat.zero_le _, F1, mu1, s1, _, [], vs, m1, f1, Le.refl.updD hD _, G1', upd_same, ⟨[], rfl, .nil⟩, e2, rfl⟩, ?_⟩
  rintro i m H2 ⟨rfl, hi, inv⟩
  by_cases hlt : i < xs.length
  · obtain ⟨go, yld⟩ := inv.turn ARL.mono hlt it
    refine .inr ⟨go, LInv X ca (ARL X) F1 mu1 H1 D (lcS (own.map (·.2)) t ff (one fe) fr) xs vs s2 (i + 1), fun H' p => ⟨xs.length - (i + 1), by omega, rfl, hlt, p⟩, fun x H3 y => ?_⟩
    obtain ⟨F3, mu3, st3, o, accP, w, a, s4, b, d1, d2, L3, G3, hD3, ⟨acc, rfl, ra⟩, rw', es, ec, et⟩ := yld x H3 y
    obtain ⟨fr1, k, s5, ea, ef, hb⟩ := lcS_some es
    refine ⟨F3, mu3, _, st3, w, fr1, G3, (R.mono (L1.ext.trans L3.ext)).wipe _, rw', ea, fun σ' R' o' => ⟨(o'.2 _ hown).trans wipe_twice, F3, mu3, fr1, st3, k, s5, G3, R', ef, fun F4 mu4 H4 L4 G4 => ?_⟩⟩
    obtain ⟨d3, d4, hD4⟩ := L4.out hD3 d1 d2
    rcases hb with ⟨rfl, eb⟩ | ⟨rfl, rfl, rfl⟩
    · simp only [if_true]
      obtain ⟨u, eu, rfl⟩ := one_some eb
      refine ⟨F4, mu4, fr1, s5, u, s4, G4, R'.mono L4.ext, eu, fun F5 mu5 H5 z L5 G5 rz => ?_⟩
      obtain ⟨d5, d6, hD5⟩ := L5.out hD4 d3 d4
      refine ⟨acc, hD5, ?_, ?_⟩
      · rw [← ra.length, ← SZ_eq]
        have := congrArg List.length et
        simp only [List.length_append, List.length_cons, List.length_nil] at this
        omega
      · exact LInv.next d5 d6 (((L3.trans L4).trans L5).updD hD _) (G5.side d5 d6 _) upd_same ⟨_, rfl, ((ra.mono L4.ext).mono L5.ext).append (.cons rz .nil)⟩ ec et
    · simp only [Bool.false_eq_true, if_false]
      exact LInv.next d3 d4 (L3.trans L4) G4 hD4 ⟨acc, rfl, by rw [List.append_nil]; exact ra.mono L4.ext⟩ ec et
  · have hi' : i = xs.length := by omega
    obtain ⟨stop, F3, mu3, o, d1, d2, L3, G3, hD3, acc, rfl, ra⟩ := inv.stop hi' it
    obtain ⟨F4, mu4, E4, G4, R4, n1, n2⟩ := G3.endL hD3 d1 d2 ra e
    exact .inl ⟨stop, q _ _ _ _ (L1.trans (L3.end hD E4 n1 n2)) G4 R4⟩
/-- .. of one with two clauses -/
def inS {α : Type} (fi1 : Fr → Store → Option (List PV × Store)) (own1 : List Nat) (t1 : CT) (ff1 : Fr → Store → Option (Bool × Store)) (fb : Fr → Store → Option (List α × Store)) : Fr → Store → Option (List α × Store) :=
  fun fr s => (fi1 fr s).bind fun ys => clL (lcS own1 t1 ff1 fb fr) ys.1 ys.2
theorem lc2_read (hown : ∀ i ∈ ctI t, i ∈ own.map (·.2)) (hown1 : ∀ i ∈ ctI t1, i ∈ own1) : ∀ σ H Q, LE X ca (fun fr st => (fi fr st).bind fun xs => (clL (lcS (own.map (·.2)) t ff (inS fi1 own1 t1 ff1 (one fe)) fr) xs.1 xs.2).bind fun vs => mkL c vs.1 vs.2) σ H Q →
    tLc2 (LI X ca fi) (LG X ca t) (LT X ca ff) (LI X ca fi1) (LG X ca t1) (LT X ca ff1) (LE X ca fe) (own.map (·.2)) own1 σ H Q := by
  rintro σ H Q ⟨F, mu, fr, st, v, st', G, R, e, q⟩
  obtain ⟨xs, s1, e1, e⟩ := bind2 (k := fun xs s1 => (clL (lcS (own.map (·.2)) t ff (inS fi1 own1 t1 ff1 (one fe)) fr) xs s1).bind fun vs => mkL c vs.1 vs.2) e
  obtain ⟨vs, s2, e2, e⟩ := bind2 (k := fun vs s2 => mkL c vs s2) e
  have hz := mkL_len e
  refine ⟨F, mu, fr, st, xs, s1, G, R, e1, fun F1 mu1 H1 J L1 G1 it D hD => ?_⟩
  have m1 := G1.notmem hD
  have f1 := G1.noF hD
  obtain ⟨G1', _⟩ := G1.aside hD (.lst [])
  refine ⟨fun i m H' => m = xs.length - i ∧ i ≤ xs.length ∧ LInv X ca (ARL X) F1 mu1 H1 D (lcS (own.map (·.2)) t ff (inS fi1 own1 t1 ff1 (one fe)) fr) xs vs s2 i H', ⟨xs.length, by simp, Nat.zero_le _, F1, mu1, s1, _, [], vs, m1, f1, Le.refl.updD hD _, G1', upd_same, ⟨[], rfl, .nil⟩, e2, rfl⟩, ?_⟩
  rintro i m H2 ⟨rfl, hi, inv⟩
  by_cases hlt : i < xs.length
  · obtain ⟨go, yld⟩ := inv.turn ARL.mono hlt it
    refine .inr ⟨go, LInv X ca (ARL X) F1 mu1 H1 D (lcS (own.map (·.2)) t ff (inS fi1 own1 t1 ff1 (one fe)) fr) xs vs s2 (i + 1), fun H' p => ⟨xs.length - (i + 1), by omega, rfl, hlt, p⟩, fun x H3 y => ?_⟩
    obtain ⟨F3, mu3, st3, o, accP, w, a, s4, b, d1, d2, L3, G3, hD3, ⟨acc, rfl, ra⟩, rw', es, ec, et⟩ := yld x H3 y
    obtain ⟨fr1, k, s5, ea, ef, hb⟩ := lcS_some es
    refine ⟨F3, mu3, _, st3, w, fr1, G3, (R.mono (L1.ext.trans L3.ext)).wipe _, rw', ea, fun σ' R' o' => ⟨(o'.2 _ hown).trans wipe_twice, F3, mu3, fr1, st3, k, s5, G3, R', ef, fun F4 mu4 H4 L4 G4 => ?_⟩⟩
    obtain ⟨d3, d4, hD4⟩ := L4.out hD3 d1 d2
    rcases hb with ⟨rfl, eb⟩ | ⟨rfl, rfl, rfl⟩
    · simp only [if_true]
      unfold inS at eb
      obtain ⟨ys, s6, e6, eb⟩ := bind2 (k := fun ys s6 => clL (lcS own1 t1 ff1 (one fe) fr1) ys s6) eb
      refine ⟨F4, mu4, fr1, s5, ys, s6, G4, R'.mono L4.ext, e6, fun F5 mu5 H5 J1 L5 G5 it1 => ?_⟩
      obtain ⟨d5, d6, hD5⟩ := L5.out hD4 d3 d4
      -- the inner loop: the list has accP already
      refine ⟨fun j m H' => m = ys.length - j ∧ j ≤ ys.length ∧ ∃ F mu st o acc2 rest, D ∉ mu ∧ F D = none ∧ Le F5 mu5 (upd H5 D (.own D)) F mu (upd H' D (.own D)) ∧ Le F1 mu1 H1 F mu H' ∧ Hold X.K X.w ca F mu H' st ∧ H' D = some o ∧ ARL X F mu (accP ++ acc2) o ∧ clL (lcS own1 t1 ff1 (one fe) fr1) (ys.drop j) st = some (rest, s4) ∧ acc2 ++ rest = a,
        ⟨ys.length, by simp, Nat.zero_le _, F5, mu5, s6, _, [], a, d5, d6, .refl, (L3.trans L4).trans L5, G5, hD5, ⟨acc, rfl, by rw [List.append_nil]; exact (ra.mono L4.ext).mono L5.ext⟩, eb, rfl⟩, ?_⟩
      rintro j m H6 ⟨rfl, hj, F6, mu6, st6, o6, acc2, rest, d7, d8, L6, L6', G6, hD6, ⟨zs, rfl, rz⟩, ec6, et6⟩
      have E6 : Ext F5 mu5 F6 mu6 := L6.ext
      obtain ⟨go1, stop1, yld1⟩ := it1 F6 mu6 H6 st6 E6 G6
      by_cases hlt1 : j < ys.length
      · refine .inr ⟨go1 j hlt1, fun H' => ∃ F mu st o acc2 rest, D ∉ mu ∧ F D = none ∧ Le F5 mu5 (upd H5 D (.own D)) F mu (upd H' D (.own D)) ∧ Le F1 mu1 H1 F mu H' ∧ Hold X.K X.w ca F mu H' st ∧ H' D = some o ∧ ARL X F mu (accP ++ acc2) o ∧ clL (lcS own1 t1 ff1 (one fe) fr1) (ys.drop (j + 1)) st = some (rest, s4) ∧ acc2 ++ rest = a, fun H' p => ⟨ys.length - (j + 1), by omega, rfl, hlt1, p⟩, fun x1 H7 y1 => ?_⟩
        obtain ⟨F7, mu7, L7, G7, w1, hw1, rw1⟩ := yld1 j x1 H7 hlt1 y1
        have hw1' : ys[j] = w1 := by rw [List.getElem?_eq_getElem hlt1] at hw1; exact Option.some.inj hw1
        rw [List.drop_eq_getElem_cons hlt1, hw1', clL] at ec6
        obtain ⟨a7, s7, e7, ec6⟩ := bind2 (k := fun a s3 => (clL (lcS own1 t1 ff1 (one fe) fr1) (ys.drop (j + 1)) s3).map fun q => (a ++ q.1, q.2)) ec6
        obtain ⟨⟨b7, s8⟩, e8, e9⟩ := Option.map_eq_some_iff.mp ec6
        simp only [Prod.mk.injEq] at e9
        obtain ⟨rfl, rfl⟩ := e9
        obtain ⟨d9, d10, hD7⟩ := L7.out hD6 d7 d8
        obtain ⟨fr2, k2, s9, ea2, ef2, hb2⟩ := lcS_some e7
        have lift : ∀ {Fa Fb : Hp} {ma mb : List Addr} {Ha Hb : Hp}, D ∉ ma → Le Fa ma Ha Fb mb Hb → Ha D ≠ none → Le Fa ma (upd Ha D (.own D)) Fb mb (upd Hb D (.own D)) := fun {Fa Fb ma mb Ha Hb} hma L hne => by
          have z : ∀ a, upd Ha D (.own D) a = none → Ha a = none := fun a e => by
            by_cases h : a = D
            · subst h; rw [upd_same] at e; cases e
            · rw [upd_ne h] at e; exact e
          have z' : ∀ a, Ha a = none → upd Ha D (.own D) a = none := fun a e => by
            by_cases h : a = D
            · subst h; exact absurd e hne
            · rw [upd_ne h]; exact e
          refine ⟨L.ext, fun a u e => ?_, fun a e => ?_, fun a u e hn => ?_, fun a u e => ?_⟩
          · rcases L.new a u e with q | q | q
            · exact .inl q
            · exact .inr (.inl (z' a q))
            · exact .inr (.inr q)
          · rcases L.newm a e with q | q
            · exact .inl q
            · exact .inr (z' a q)
          · by_cases h : a = D
            · subst h; rw [upd_same] at e ⊢; exact e
            · rw [upd_ne h] at e ⊢; exact L.keep a u e hn
          · by_cases h : a = D
            · subst h; exact ⟨_, upd_same⟩
            · rw [upd_ne h] at e ⊢; exact L.stay a u e
        refine ⟨F7, mu7, _, st6, w1, fr2, G7, ((R'.mono (L4.ext.trans L5.ext)).mono (E6.trans L7.ext)).wipe _, rw1, ea2, fun σ2 R2 o2 => ⟨(o2.2 _ hown1).trans wipe_twice, F7, mu7, fr2, st6, k2, s9, G7, R2, ef2, fun F8 mu8 H8 L8 G8 => ?_⟩⟩
        obtain ⟨d11, d12, hD8⟩ := L8.out hD7 d9 d10
        have L68 := L6.trans (lift d7 (L7.trans L8) (by rw [hD6]; exact fun z => nomatch z))
        rcases hb2 with ⟨rfl, eb2⟩ | ⟨rfl, rfl, rfl⟩
        · simp only [if_true]
          obtain ⟨u, eu, rfl⟩ := one_some eb2
          refine ⟨F8, mu8, fr2, s9, u, s7, G8, R2.mono L8.ext, eu, fun F9 mu9 H9 z L9 G9 rz9 => ?_⟩
          obtain ⟨d13, d14, hD9⟩ := L9.out hD8 d11 d12
          refine ⟨zs, hD9, ?_, ?_⟩
          · rw [← rz.length, ← SZ_eq]
            have h1 := congrArg List.length et
            have h2 := congrArg List.length et6
            simp only [List.length_append, List.length_cons, List.length_nil] at h1 h2 ⊢
            omega
          · refine ⟨F9, mu9, s7, _, acc2 ++ [u], b7, d13, d14, ?_, ((((L6'.trans L7).trans L8).trans L9)).updD hD _, G9.side d13 d14 _, upd_same, ⟨_, rfl, ?_⟩, e8, by rw [List.append_assoc]; exact et6⟩
            · rw [upd_upd]
              exact L68.trans (lift d11 L9 (by rw [hD8]; exact fun z => nomatch z))
            · rw [← List.append_assoc]
              exact ((rz.mono (L7.ext.trans L8.ext)).mono L9.ext).append (.cons rz9 .nil)
        · simp only [Bool.false_eq_true, if_false]
          exact ⟨F8, mu8, s9, _, acc2, b7, d11, d12, L68, (L6'.trans L7).trans L8, G8, hD8, ⟨zs, rfl, rz.mono (L7.ext.trans L8.ext)⟩, e8, et6⟩
      · have hj' : j = ys.length := by omega
        subst hj'
        rw [List.drop_length, clL] at ec6
        simp only [Option.some.injEq, Prod.mk.injEq] at ec6
        obtain ⟨rfl, rfl⟩ := ec6
        rw [List.append_nil] at et6
        subst et6
        exact .inl ⟨stop1, LInv.next d7 d8 L6' G6 hD6 ⟨zs, rfl, rz⟩ ec et⟩
    · simp only [Bool.false_eq_true, if_false]
      exact LInv.next d3 d4 (L3.trans L4) G4 hD4 ⟨acc, rfl, by rw [List.append_nil]; exact ra.mono L4.ext⟩ ec et
  · have hi' : i = xs.length := by omega
    obtain ⟨stop, F3, mu3, o, d1, d2, L3, G3, hD3, acc, rfl, ra⟩ := inv.stop hi' it
    obtain ⟨F4, mu4, E4, G4, R4, n1, n2⟩ := G3.endL hD3 d1 d2 ra e
    exact .inl ⟨stop, q _ _ _ _ (L1.trans (L3.end hD E4 n1 n2)) G4 R4⟩
end
end Pv
end

section
set_option Elab.async false
set_option linter.all false
set_option maxRecDepth 100000
set_option autoImplicit false
namespace Pv
open PySem PySem.Spec PyProof.Rows L2

section
variable {K : PySem.W.Frag} {w : World} {ca : Str → Option Addr} {F F' : Hp} {mu : List Addr} {H : Hp} {st : Store} {p : Addr} {ob : Obj}
/-! values without dicts do not need the locked object -/
mutual
theorem Rep.unlock (hp : F p = some (dHO p ob)) (hF : ∀ a, a ≠ p → F' a = F a) : ∀ {v : PV} {x : V}, noD v = true → Rep K w F mu v x → Rep K w F' mu v x
  | _, _, _, .non => .non
  | _, _, _, .bl b => .bl b
  | _, _, _, .int i => .int i
  | _, _, _, .str x => .str x
  | _, _, h, .tup (p := q) e r => by
    refine .tup ?_ (RepL.unlock hp hF (by simpa [noD] using h) r)
    rcases e with (e | ⟨o, e⟩) | e
    · exact .inl (.inl (by rw [hF q (fun z => by subst z; rw [hp] at e; cases e)]; exact e))
    · exact .inl (.inr ⟨o, by rw [hF q (fun z => by subst z; rw [hp] at e; cases e)]; exact e⟩)
    · exact .inr e
  | _, _, h, .lst (p := q) e r => by
    refine .lst ?_ (RepL.unlock hp hF (by simpa [noD] using h) r)
    rw [hF q (fun z => by subst z; rw [hp] at e; cases e)]; exact e
  | _, _, h, .fz (p := q) e r => by
    refine .fz ?_ (RepL.unlock hp hF (by simpa [noD] using h) r)
    rcases e with (e | ⟨o, e⟩) | e
    · exact .inl (.inl (by rw [hF q (fun z => by subst z; rw [hp] at e; cases e)]; exact e))
    · exact .inl (.inr ⟨o, by rw [hF q (fun z => by subst z; rw [hp] at e; cases e)]; exact e⟩)
    · exact .inr e
  | _, _, h, .dct _ _ _ _ _ _ _ => by simp [noD] at h
  | _, _, _, .loc h => .loc h
theorem RepL.unlock (hp : F p = some (dHO p ob)) (hF : ∀ a, a ≠ p → F' a = F a) : ∀ {v : List PV} {x : List V}, noDL v = true → RepL K w F mu v x → RepL K w F' mu v x
  | _, _, _, .nil => .nil
  | _, _, h, .cons e r => by
    simp only [noDL, Bool.and_eq_true] at h
    exact .cons (Rep.unlock hp hF h.1 e) (RepL.unlock hp hF h.2 r)
end
theorem Ents.unlock (hp : F p = some (dHO p ob)) (hF : ∀ a, a ≠ p → F' a = F a) : ∀ {t : Bool} {kvs : List (PV × PV)} {es : List DictEntry}, noDL (kvs.map (·.1)) = true → noDL (kvs.map (·.2)) = true → Ents K w F mu t kvs es → Ents K w F' mu t kvs es
  | _, _, _, _, _, .nil t => .nil t
  | _, _, _, h, h', .cons hk hh rk pk rv pv r => by
    simp only [List.map_cons, noDL, Bool.and_eq_true] at h h'
    exact .cons hk hh rk (pk.unlock hp hF h.1) rv (pv.unlock hp hF h'.1) (Ents.unlock hp hF h.2 h'.2 r)
theorem Flds.unlock (hp : F p = some (dHO p ob)) (hF : ∀ a, a ≠ p → F' a = F a) : ∀ {l : List (Str × PV)} {xs : List (Str × V)}, noDL (l.map (·.2)) = true → Flds K w F mu l xs → Flds K w F' mu l xs
  | _, _, _, .nil => .nil
  | _, _, h, .cons e r => by
    simp only [List.map_cons, noDL, Bool.and_eq_true] at h
    exact .cons (e.unlock hp hF h.1) (Flds.unlock hp hF h.2 r)
theorem CellR.unlock (hp : F p = some (dHO p ob)) (hF : ∀ a, a ≠ p → F' a = F a) {a : Addr} {c : Cell} {o : HO} (hc : noDC c = true) (h : CellR K w ca F mu a c o) : CellR K w ca F' mu a c o := by
  cases c with
  | dead => trivial
  | lst l => obtain ⟨xs, e1, r⟩ := h; exact ⟨xs, e1, r.unlock hp hF hc⟩
  | dct t kvs =>
    obtain ⟨ob, es, ep, e1, e2, e3, e4, e5, e6, r⟩ := h
    simp only [noDC, Bool.and_eq_true] at hc
    exact ⟨ob, es, ep, e1, e2, e3, e4, e5, e6, r.unlock hp hF hc.1 hc.2⟩
  | lck t kvs =>
    obtain ⟨ob, es, ep, e1, e2, e3, e4, e5, e6, r⟩ := h
    simp only [noDC, Bool.and_eq_true] at hc
    exact ⟨ob, es, ep, e1, e2, e3, e4, e5, e6, r.unlock hp hF hc.1 hc.2⟩
  | ins c fs => obtain ⟨C, dx, gs, e1, e2, r⟩ := h; exact ⟨C, dx, gs, e1, e2, r.unlock hp hF hc⟩
theorem Hold.inj (G : Hold K w ca F mu H st) {n m : Nat} {a : Addr} (h : mu[n]? = some a) (h' : mu[m]? = some a) : n = m := by
  obtain ⟨k1, k2⟩ := List.getElem?_eq_some_iff.mp h
  obtain ⟨k3, k4⟩ := List.getElem?_eq_some_iff.mp h'
  exact (List.getElem_inj G.nd).mp (k2.trans k4.symm)
/-- a dict's cell is locked -/
theorem Hold.lock (G : Hold K w ca F mu H st) {n : Nat} {t : Bool} {kvs : List (PV × PV)} (hm : mu[n]? = some p) (hs : st[n]? = some (.dct t kvs)) (hu : H p = some (dHO p ob)) (hF : F p = none) : Hold K w ca (upd F p (dHO p ob)) mu H (st.set n (.lck t kvs)) ∧ Ext F mu (upd F p (dHO p ob)) mu := by
  have ex : Ext F mu (upd F p (dHO p ob)) mu := ⟨fun b v e => by rw [upd_ne (ne_of_none e hF)]; exact e, fun _ _ e => e⟩
  have hn : n < st.length := (List.getElem?_eq_some_iff.mp hs).1
  refine ⟨⟨by rw [List.length_set]; exact G.len, G.nd, G.there, fun b v e => ?_, fun m b c e1 e2 => ?_⟩, ex⟩
  · by_cases z : b = p
    · subst z
      rw [upd_same] at e; cases e
      refine ⟨hu, fun m hm' => ?_⟩
      have := G.inj hm hm'
      subst this
      exact ⟨_, List.getElem?_set_self hn, rfl⟩
    · rw [upd_ne z] at e
      obtain ⟨k1, k2⟩ := G.fz b v e
      refine ⟨k1, fun m hm' => ?_⟩
      by_cases z2 : n = m
      · subst z2; exact ⟨_, List.getElem?_set_self hn, rfl⟩
      · rw [List.getElem?_set_ne z2]; exact k2 m hm'
  · by_cases z : n = m
    · subst z
      rw [List.getElem?_set_self hn] at e2; cases e2
      obtain ⟨o, k1, k2⟩ := G.cl n b _ e1 hs
      exact ⟨o, k1, CellR.mono ex (c := .lck t kvs) k2⟩
    · rw [List.getElem?_set_ne z] at e2
      obtain ⟨o, k1, k2⟩ := G.cl m b c e1 e2
      exact ⟨o, k1, k2.mono ex⟩
/-- .. and freed -/
theorem Hold.unlock {n : Nat} {t : Bool} {kvs : List (PV × PV)} (hs : st[n]? = some (.dct t kvs)) (G : Hold K w ca F mu H (st.set n (.lck t kvs))) (hm : mu[n]? = some p) (hp : F p = some (dHO p ob)) (hF : ∀ a, a ≠ p → F' a = F a) (h0 : F' p = none) (hc : st.all noDC = true) : Hold K w ca F' mu H st := by
  have hn : n < st.length := (List.getElem?_eq_some_iff.mp hs).1
  refine ⟨by have := G.len; rwa [List.length_set] at this, G.nd, G.there, fun b v e => ?_, fun m b c e1 e2 => ?_⟩
  · have z : b ≠ p := fun z => by subst z; rw [h0] at e; cases e
    rw [hF b z] at e
    obtain ⟨k1, k2⟩ := G.fz b v e
    refine ⟨k1, fun m hm' => ?_⟩
    have z2 : n ≠ m := fun q => by subst q; rw [hm] at hm'; cases hm'; exact z rfl
    have := k2 m hm'
    rwa [List.getElem?_set_ne z2] at this
  · have hcc : noDC c = true := List.all_eq_true.mp hc c (List.mem_of_getElem? e2)
    by_cases z : n = m
    · subst z
      rw [hs] at e2; cases e2
      obtain ⟨o, k1, k2⟩ := G.cl n b _ e1 (List.getElem?_set_self hn)
      exact ⟨o, k1, CellR.unlock hp hF (c := .dct t kvs) hcc k2⟩
    · obtain ⟨o, k1, k2⟩ := G.cl m b c e1 (by rw [List.getElem?_set_ne z]; exact e2)
      exact ⟨o, k1, k2.unlock hp hF hcc⟩
end

section
variable {X : Cx} {ca : Str → Option Addr} {own : List (Str × Nat)} {fd fe : Fr → Store → Option (PV × Store)} {ff : Fr → Store → Option (Bool × Store)} {t : CT}
/-- a loop over a dict that is a cell -/
def lclS (own : List Nat) (t : CT) (fd : Fr → Store → Option (PV × Store)) (ff : Fr → Store → Option (Bool × Store)) (fe : Fr → Store → Option (PV × Store)) : Fr → Store → Option (PV × Store) := fun fr st => (fd fr st).bind fun p => match p.1 with
  | .loc n => match p.2[n]? with
    | some (.dct b kvs) => if p.2.all noDC then
        (clL (lcS own t ff (one fe) fr) (kvs.map (·.1)) (p.2.set n (.lck b kvs))).bind fun q => if q.2 = p.2.set n (.lck b kvs) ∧ noDL q.1 = true ∧ q.1.length ≤ SZ then some (PV.lst q.1, p.2) else none
      else none
    | _ => none
  | _ => none
theorem lcl_read (hown : ∀ i ∈ ctI t, i ∈ own.map (·.2)) : ∀ σ H Q, LE X ca (lclS (own.map (·.2)) t fd ff fe) σ H Q → tLc (iKeysD (LE X ca fd)) (LG X ca t) (LT X ca ff) (LE X ca fe) (own.map (·.2)) σ H Q := by
  rintro σ H Q ⟨F, mu, fr, st, v, st', G, R, e, q⟩
  unfold lclS at e
  obtain ⟨x, s1, e1, e⟩ := bind2 (k := fun (x : PV) (s1 : Store) => match x with
    | .loc n => match s1[n]? with
      | some (.dct b kvs) => if s1.all noDC then
          (clL (lcS (own.map (·.2)) t ff (one fe) fr) (kvs.map (·.1)) (s1.set n (.lck b kvs))).bind fun q => if q.2 = s1.set n (.lck b kvs) ∧ noDL q.1 = true ∧ q.1.length ≤ SZ then some (PV.lst q.1, s1) else none
        else none
      | _ => none
    | _ => none) e
  split at e <;> try contradiction
  rename_i n
  split at e <;> try contradiction
  rename_i b kvs hs
  split at e <;> try contradiction
  rename_i hnd
  obtain ⟨vs, s2, e2, e⟩ := bind2 (k := fun (vs : List PV) (s2 : Store) => if s2 = s1.set n (.lck b kvs) ∧ noDL vs = true ∧ vs.length ≤ SZ then some (PV.lst vs, s1) else none) e
  split at e <;> try contradiction
  rename_i hcond
  obtain ⟨rfl, hvs, hz⟩ := hcond
  simp only [Option.some.injEq, Prod.mk.injEq] at e
  obtain ⟨rfl, rfl⟩ := e
  refine ⟨F, mu, fr, st, _, s1, G, R, e1, fun F0 mu1 H1 a L1 G0 R1 => ?_⟩
  cases R1 with
  | @loc _ p hm =>
    obtain ⟨o, k1, ob, es, ep, rfl, k2, k3, k4, k5, k6, k7⟩ := G0.cl n p _ hm hs
    have hF := G0.live hm hs rfl
    obtain ⟨G1, E1⟩ := G0.lock hm hs k1 hF
    have it : IsIt X ca (upd F0 p (dHO p ob)) mu1 (ItS es.size (keyV es) (FHd p ob)) (kvs.map (·.1)) := isIt_keys upd_same (k7.mono E1)
    refine ⟨p, ob, es, ep, rfl, k1, k2, k3, k7.entsV, k4, fun D hD => ?_⟩
    have m1 := G1.notmem hD
    have f1 := G1.noF hD
    obtain ⟨G1', _⟩ := G1.aside hD (.lst [])
    refine ⟨fun i m H' => m = (kvs.map (·.1)).length - i ∧ i ≤ (kvs.map (·.1)).length ∧ LInv X ca (ARL X) (upd F0 p (dHO p ob)) mu1 H1 D (lcS (own.map (·.2)) t ff (one fe) fr) (kvs.map (·.1)) vs (s1.set n (.lck b kvs)) i H', ⟨_, rfl, Nat.zero_le _, _, mu1, s1.set n (.lck b kvs), _, [], vs, m1, f1, Le.refl.updD hD _, G1', upd_same, ⟨[], rfl, .nil⟩, e2, rfl⟩, ?_⟩
    rintro i m H2 ⟨rfl, hi, inv⟩
    by_cases hlt : i < (kvs.map (·.1)).length
    · obtain ⟨go, yld⟩ := inv.turn ARL.mono hlt it
      refine .inr ⟨go, LInv X ca (ARL X) (upd F0 p (dHO p ob)) mu1 H1 D (lcS (own.map (·.2)) t ff (one fe) fr) (kvs.map (·.1)) vs (s1.set n (.lck b kvs)) (i + 1), fun H' p => ⟨(kvs.map (·.1)).length - (i + 1), by omega, rfl, hlt, p⟩, fun x H3 y => ?_⟩
      obtain ⟨F3, mu3, st3, o, accP, w, a, s4, b', d1, d2, L3, G3, hD3, ⟨acc, rfl, ra⟩, rw', es', ec, et⟩ := yld x H3 y
      obtain ⟨fr1, k, s5, ea, ef, hb⟩ := lcS_some es'
      refine ⟨F3, mu3, _, st3, w, fr1, G3, (R.mono (L1.ext.trans (E1.trans L3.ext))).wipe _, rw', ea, fun σ' R' o' => ⟨(o'.2 _ hown).trans wipe_twice, F3, mu3, fr1, st3, k, s5, G3, R', ef, fun F4 mu4 H4 L4 G4 => ?_⟩⟩
      obtain ⟨d3, d4, hD4⟩ := L4.out hD3 d1 d2
      rcases hb with ⟨rfl, eb⟩ | ⟨rfl, rfl, rfl⟩
      · simp only [if_true]
        obtain ⟨u, eu, rfl⟩ := one_some eb
        refine ⟨F4, mu4, fr1, s5, u, s4, G4, R'.mono L4.ext, eu, fun F5 mu5 H5 z L5 G5 rz => ?_⟩
        obtain ⟨d5, d6, hD5⟩ := L5.out hD4 d3 d4
        refine ⟨acc, hD5, ?_, ?_⟩
        · rw [← ra.length, ← SZ_eq]
          have := congrArg List.length et
          simp only [List.length_append, List.length_cons, List.length_nil] at this
          omega
        · exact LInv.next d5 d6 (((L3.trans L4).trans L5).updD hD _) (G5.side d5 d6 _) upd_same ⟨_, rfl, ((ra.mono L4.ext).mono L5.ext).append (.cons rz .nil)⟩ ec et
      · simp only [Bool.false_eq_true, if_false]
        exact LInv.next d3 d4 (L3.trans L4) G4 hD4 ⟨acc, rfl, by rw [List.append_nil]; exact ra.mono L4.ext⟩ ec et
    · have hi' : i = (kvs.map (·.1)).length := by omega
      obtain ⟨stop, F3, mu3, o, d1, d2, L3, G3, hD3, acc, rfl, ra⟩ := inv.stop hi' it
      obtain ⟨F4, mu4, E4, G4, R4, n1, n2⟩ := G3.endL (c := false) hD3 d1 d2 ra (by unfold mkL; rw [if_pos hz]; rfl)
      have L4 := L3.end hD E4 n1 n2
      have hm4 : mu4[n]? = some p := L4.ext.pre _ _ hm
      have hp4 : F4 p = some (dHO p ob) := L4.ext.sub _ _ upd_same
      have hof : ∀ a, a ≠ p → (fun a => if a = p then none else F4 a) a = F4 a := fun a z => if_neg z
      have G5 : Hold X.K X.w ca (fun a => if a = p then none else F4 a) mu4 H2 s1 := Hold.unlock hs G4 hm4 hp4 hof (if_pos rfl) hnd
      have R5 := R4.unlock hp4 hof (by simpa [noD] using hvs)
      refine .inl ⟨stop, q _ _ _ _ (L1.trans ⟨⟨fun a u h => ?_, L4.ext.pre⟩, fun a u h => ?_, L4.newm, L4.keep, L4.stay⟩) G5 R5⟩
      · have z : a ≠ p := fun z => by subst z; rw [hF] at h; cases h
        refine (if_neg z).trans ?_
        exact L4.ext.sub _ _ (by rw [upd_ne z]; exact h)
      · have z : a ≠ p := fun z => by subst z; simp at h
        have h := (if_neg z).symm.trans h
        rcases L4.new a u h with h | h
        · rw [upd_ne z] at h; exact .inl h
        · exact .inr h
end
end Pv
end

section
set_option Elab.async false
set_option linter.all false
set_option maxRecDepth 100000
set_option autoImplicit false
namespace Pv
open PySem PySem.Spec PyProof.Rows L2

abbrev ob0 : Obj := { cls := .type "dict", data := .dict #[] }
section
variable {X : Cx} {pins : List (Addr × Obj)} {σ : L2.St} {H : Hp} {s : Shared} {Q : VK} {kx vx tg iter : Expr} {ifs : List Expr} {more : List Comprehension} {scope : Scope} {own : List (Str × Nat)} {pos pos' : Pos} {wi : TI} {use : Option (Value → Sem Unit)} {Qf : Value → Shared → Prop}
/-- in a block: the iterator's objects are untouched -/
theorem blk_fps {s3 : Shared} {H3 : Hp} {ce : Env} {fps : List Addr} {pl : List (Addr × Obj)} {σ' : L2.St} {H' : Hp} {s' : Shared} (Ib : L2.Inv (X.blk s3 H3 scope ce fps) pl σ' H' s') (hpl : pl = []) (hn : ∀ b ∈ fps, H' b = none) : ∀ b ∈ fps, FpOk (X.blk s3 H3 scope ce fps) pl H' b := by
  subst hpl
  intro b hb
  have ex := Ib.ok.exf b hb
  exact ⟨hn b hb, ex.1, Ib.ok.exfs b hb, Or.inl hb, fun x c e => ex.2 x c e, fun p hp => absurd (show p ∈ ([] : List (Addr × Obj)) from hp) List.not_mem_nil⟩
/-- a dict comprehension up to its first loop -/
theorem dc_open {R : It → Hp → Addr → Prop} (hc : X.calm = true) (hN : X.N.Nodup) (I : L2.Inv X pins σ H s) (hi : PI X tg iter wi) (ok : BlkOk X.N X.env.scope scope own) (hs : ∀ x, foldedSetIterable iter X.env x = pure x)
    (h : wi σ H fun J H1 => ∀ D, H1 D = none → (D == sysModules) = false → R J H1 D)
    (hRR : ∀ D C s' m H', L2.Inv X pins σ H' s' → Q (.ref D) H' → s'.heap.Ns C m → FpOk X pins H' C → compPost (model X.prog X.w) X.A X.xe use Qf (.ref D) C (.ok .next) s')
    (hl : ∀ (s3 s4 : Shared) (H2 : Hp) (C D : Addr) (cl : List (Str × Addr)) (fps : List Addr) (itr : Addr) (tn : Nat → Heap → Prop) (J : It), R J H2 D → Turn X.prog X.w X.K tg J fps itr tn → tn 0 s4.heap → (∀ b ∈ fps, upd H2 D (dHO D ob0) b = none) →
      L2.Inv (X.blk s3 (upd H2 D (dHO D ob0)) scope (compEnvC scope cl C X.env) fps) [] (wipe σ (own.map (·.2))) (upd H2 D (dHO D ob0)) s4 →
      (∀ (σ5 : L2.St) (H5 : Hp) (s6 : Shared), L2.Inv (X.blk s3 (upd H2 D (dHO D ob0)) scope (compEnvC scope cl C X.env) fps) [] σ5 H5 s6 → Q (.ref D) H5 → compPost (model X.prog X.w) X.A X.xe use Qf (.ref D) C (.ok .next) s6) →
      codeAny (model X.prog X.w) X.A (.compLoop (.DictComp kx vx (⟨tg, iter, ifs, 0⟩ :: more) scope pos) 0 (.ref itr) (.ref D) (compEnvC scope cl C X.env)) (compPost (model X.prog X.w) X.A X.xe use Qf (.ref D) C) s4) :
    wpAny (model X.prog X.w) X.A (comprehension (.DictComp kx vx (⟨tg, iter, ifs, 0⟩ :: more) scope pos) scope X.env pos' newDict false (eval iter X.env) use) Qf X.xe s := by
  have frees : ∀ y ∈ scope.names, y.2 = .free → ∃ c, X.env.cells.lookup y.1 = some c := fun y hy e => (ok.free y hy e).elim (fun k => I.ok.has _ (.inl k)) fun k => I.ok.has _ (.inr k)
  have locs : ∀ x ∈ scope.names, x.2 = .local → scope.names.lookup x.1 = some .local := fun y hy e => e ▸ ok.uniq y hy
  refine wpAny_comprehension_free (use := use) rfl hs (closure_ok frees) ok.kind locs (thn (hi.run pins s σ H _ I h) fun xv s1 hx => thn hx fun itv s2 ⟨itr, fps, tn, J, H2, ei, I2, T, st2, f2, q⟩ => ?_)
  subst ei
  refine wpAny_newObj_type (newEnv_comp ?_)
  have hDn : H2 s2.heap.objs.size = none := I2.hok.fresh (Nat.le_refl _)
  have hDs : (s2.heap.objs.size == sysModules) = false := beq_eq_false_iff_ne.mpr (Ne.symm (Nat.ne_of_lt I2.big))
  have old : ∀ b ∈ fps, b < s2.heap.objs.size := fun b hb => let ⟨o, e, _⟩ := T.obj _ _ st2 b hb; Heap.lt_size e
  have I3 : L2.Inv X pins σ (upd H2 s2.heap.objs.size (dHO s2.heap.objs.size ob0)) { s2 with heap := s2.heap.push ob0 } := I2.laid (t' := s2.toks) (fun b o e => Heap.get?_push_of_some _ e) (Nat.le_refl _) (dOk (Heap.get?_push_size _ rfl))
  have f3 : ∀ b ∈ fps, FpOk X pins (upd H2 s2.heap.objs.size (dHO s2.heap.objs.size ob0)) b ∧ b < (s2.heap.push ob0).objs.size := fun b hb => by
    refine ⟨⟨?_, (f2 b hb).2⟩, ?_⟩
    · rw [upd_ne (Nat.ne_of_lt (old b hb))]; exact (f2 b hb).1
    · rw [Heap.size_push]; exact Nat.lt_succ_of_lt (old b hb)
  have I4 := block_start I3 ok hN f3
  have st4 := T.keep _ _ _ st2 fun b _ o (e : s2.heap.get? b = some o) => pushCells_keeps scope.names ((s2.heap.push ob0).push { cls := .type "dict", data := .dict #[] }) b o (Heap.get?_push_of_some _ (Heap.get?_push_of_some _ e))
  have loop := hl { s2 with heap := s2.heap.push ob0 } _ H2 (s2.heap.push ob0).objs.size s2.heap.objs.size _ fps itr tn J (q _ hDn hDs) T st4 (fun b hb => (f3 b hb).1.1) I4 fun σ5 H5 s6 I6 q5 => by
    have I7 : L2.Inv X pins σ H5 s6 := I3.call' (ch := fps) I6.os I6.base I6.hok I6.bare fun b hb => let z := (f3 b hb).1.2; ⟨z.2.2.1, z.1, z.2.2.2.1, z.2.2.2.2⟩
    obtain ⟨m, hn, _⟩ := I6.loc
    exact hRR _ _ s6 m H5 I7 q5 hn (I3.fpOk (Nat.le_refl _) I6.free)
  exact codeAny_compStart_dict loop (T.self X.A 0 _ _ _ st4 loop)
end

/-! ### a new entry -/
section
variable (X : Cx) (ca : Str → Option Addr)
def DS (D : Addr) (y z : V) (H : Hp) (Nx : Hp → Prop) : Prop := ∃ (F : Hp) (mu : List Addr) (st : Store) (t : Bool) (kvs : List (PV × PV)) (k v : PV) (o : Obj) (es : Array DictEntry) (ep : Nat), Hold X.K X.w ca F mu H st ∧ H D = some (dHO D o) ∧ o.ExactDict ∧ o.data = .dict es ep ∧ Ents X.K X.w F mu t kvs es.toList ∧
  (kvs.map (·.1)).Nodup ∧ kvs.length < SZ ∧ kFor t k = true ∧ Rep X.K X.w F mu k y ∧ Rep X.K X.w F mu v z ∧
  ∀ (o' : Obj) (es' : Array DictEntry) (ep' : Nat), o'.ExactDict → o'.data = .dict es' ep' → Ents X.K X.w F mu t (put kvs k v) es'.toList → ((put kvs k v).map (·.1)).Nodup → Nx (upd H D (dHO D o'))
end
section
variable {X : Cx} {ca : Str → Option Addr}
theorem ds_set {pins : List (Addr × Obj)} {σ : L2.St} {H : Hp} {s : Shared} {D : Addr} {y z : V} {u r : Value} {Nx : Hp → Prop} {E : Value → Shared → Prop} (hu : X.A.units + 70 < cLine) (I : L2.Inv X pins σ H s) (ry : L2.RelV y u) (rz : L2.RelV z r) (h : DS X ca D y z H Nx) :
    wpAny (model X.prog X.w) X.A (dictSet D u r) (fun _ s' => ∃ H', L2.Inv X pins σ H' s' ∧ Nx H') E s := by
  obtain ⟨F, mu, st, t, kvs, k, v, o, es, ep, G, hD, h1, h2, h3, h4, hz, hk, rk, rv, q⟩ := h
  have d : DX X F mu s.heap D t kvs := DX.of I G (Inv.dobj I hD) h1 h2 h3 h4
  refine dx_dictSet I G (by omega) d (Nat.le_of_lt hz) hk rk ry rv rz fun h' tk d' sb => ?_
  obtain ⟨o', es', ep', e1, e2, e3, e4, e5⟩ := d'.to
  exact ⟨_, I.write (x := D) (e := D) (by rw [hD]; trivial) (.inl rfl) (fun b u hb q => (sb.2 b hb).trans q) ⟨o', e1⟩ (dOk e1), q o' es' ep' e2 e3 e4 e5⟩
/-- {k: v for target in iter if ..} -/
def tDcP (X : Cx) (ca : Str → Option Addr) (wi : TI) (g : TG) (tt : TT) (tk tv : TE) (vs : List Nat) : TE := fun σ H Q => wi σ H fun J H1 => ∀ D, H1 D = none → (D == sysModules) = false → ∃ W : Nat → Nat → Hp → Prop, (∃ m, W 0 m (upd H1 D (dHO D ob0))) ∧ ∀ i m H, W i m H →
  (J.stop i H ∧ Q (.ref D) H) ∨ (J.go i H ∧ ∃ Nx : Hp → Prop, (∀ H', Nx H' → ∃ m', m' < m ∧ W (i + 1) m' H') ∧ ∀ x H', J.yld i H x H' → g x (wipe σ vs) H' fun σ2 H2 => wipe σ2 vs = wipe σ vs ∧ tt σ2 H2 fun b H3 =>
    if b = true then tk σ2 H3 fun y H4 => tv σ2 H4 fun z H5 => DS X ca D y z H5 Nx else Nx H3)
section
variable {pins : List (Addr × Obj)} {σ : L2.St} {H : Hp} {s : Shared} {Q : VK} {kx vx tg iter tg1 iter1 : Expr} {ifs ifs1 : List Expr} {scope : Scope} {own : List (Str × Nat)} {vs1 : List Nat} {pos pos' : Pos} {wi wi1 : TI} {g g1 : TG} {tt tt1 : TT} {tk tv : TE} {use : Option (Value → Sem Unit)} {Qf : Value → Shared → Prop}
/-- what holds between the turns of a loop over J in a block -/
def Mid (Y : Cx) (pl : List (Addr × Obj)) (τ : L2.St) (tn : Nat → Heap → Prop) (fps : List Addr) (W : Nat → Nat → Hp → Prop) (n : Nat) (s' : Shared) : Prop := ∃ i H', L2.Inv Y pl τ H' s' ∧ tn i s'.heap ∧ (∀ b ∈ fps, H' b = none) ∧ W i n H'
theorem Mid.next {Y : Cx} {pl : List (Addr × Obj)} {τ τ' : L2.St} {tn : Nat → Heap → Prop} {fps : List Addr} {W : Nat → Nat → Hp → Prop} {Nx : Hp → Prop} {J : It} {itr : Addr} {i n : Nat} {h7 : Heap} (T : Turn Y.prog Y.w Y.K tg J fps itr tn) (st7 : tn (i + 1) h7) (hNx : ∀ H', Nx H' → ∃ m', m' < n ∧ W (i + 1) m' H')
    (hl : τ.length = τ'.length) (hw : ∀ (j : Nat) v, τ[j]? = some (some v) → τ'[j]? = some (some v)) {s' : Shared} {H' : Hp} (I' : L2.Inv Y (pl ++ pinsAt fps h7) τ' H' s') (nx : Nx H') : ∃ m, m < n ∧ Mid Y pl τ tn fps W m s' := by
  obtain ⟨m', hm, w'⟩ := hNx H' nx
  have still : ∀ b ∈ fps, ∀ o, h7.get? b = some o → s'.heap.get? b = some o ∧ H' b = none := fun b hb o e =>
    have z := I'.pin (b, o) (List.mem_append_right _ (List.mem_append_right _ (mem_pinsAt hb e)))
    And.intro z.1 z.2.1
  refine ⟨m', hm, i + 1, H', (I'.unpinned (pins := pl)).weak hl hw, T.keep _ _ _ st7 (fun b hb o e => (still b hb o e).1), (fun b hb => ?_), w'⟩
  have ⟨o, e, _⟩ := T.obj _ _ st7 b hb
  exact (still b hb o e).2
theorem wiped_slots {a b : L2.St} {vs : List Nat} (hw : wipe b vs = wipe a vs) : (wipe a vs).length = b.length ∧ ∀ (j : Nat) v, (wipe a vs)[j]? = some (some v) → b[j]? = some (some v) := by
  rw [← hw]
  exact ⟨wipe_length _ _, fun j v e => (wipe_some e).1⟩
theorem dcP_core (hu : X.A.units + 70 < cLine) (hc : X.calm = true) (hN : X.N.Nodup) (I : L2.Inv X pins σ H s) (hi : PI X tg iter wi) (ok : BlkOk X.N X.env.scope scope own)
    (hg : ∀ (s : Shared) (H : Hp) (C : Addr) (cl : List (Str × Addr)) (fps : List Addr), PG (X.blk s H scope (compEnvC scope cl C X.env) fps) tg g)
    (ht : ∀ (s : Shared) (H : Hp) (C : Addr) (cl : List (Str × Addr)) (fps : List Addr), PTs (X.blk s H scope (compEnvC scope cl C X.env) fps) ifs tt)
    (hk : ∀ (s : Shared) (H : Hp) (C : Addr) (cl : List (Str × Addr)) (fps : List Addr), PE (X.blk s H scope (compEnvC scope cl C X.env) fps) kx tk)
    (hv : ∀ (s : Shared) (H : Hp) (C : Addr) (cl : List (Str × Addr)) (fps : List Addr), PE (X.blk s H scope (compEnvC scope cl C X.env) fps) vx tv) (hs : ∀ x, foldedSetIterable iter X.env x = pure x)
    (h : tDcP X ca wi g tt tk tv (own.map (·.2)) σ H Q)
    (hRR : ∀ D C s' m H', L2.Inv X pins σ H' s' → Q (.ref D) H' → s'.heap.Ns C m → FpOk X pins H' C → compPost (model X.prog X.w) X.A X.xe use Qf (.ref D) C (.ok .next) s') :
    wpAny (model X.prog X.w) X.A (comprehension (.DictComp kx vx [⟨tg, iter, ifs, 0⟩] scope pos) scope X.env pos' newDict false (eval iter X.env) use) Qf X.xe s := by
  refine dc_open (use := use) hc hN I hi ok hs h hRR fun s3 s4 H2 C D cl fps itr tn J ⟨W, ⟨m0, w0⟩, turn⟩ T st4 nfp I4 fin => ?_
  refine compLoop_anyD (Mid (X.blk s3 (upd H2 D (dHO D ob0)) scope (compEnvC scope cl C X.env) fps) [] (wipe σ (own.map (·.2))) tn fps W) ?_ m0 ⟨0, _, I4, st4, nfp, w0⟩
  rintro n s5 ⟨i, H5, I5, st5, n5, w5⟩
  have fp5 := blk_fps I5 rfl n5
  rcases turn i n H5 w5 with ⟨stop, qq⟩ | ⟨go, Nx, hNx, step⟩
  · refine thnF (T.done (X.blk s3 _ scope (compEnvC scope cl C X.env) fps) rfl rfl rfl hc i [] s5 _ H5 (fun _ _ => False) I5 fp5 st5 stop) fun r s6 ⟨hr, I6⟩ => ?_
    subst hr
    exact fin _ H5 s6 I6 qq
  · refine thnF (T.item (X.blk s3 _ scope (compEnvC scope cl C X.env) fps) rfl rfl rfl hc i [] s5 _ H5 (fun _ _ => False) I5 fp5 st5 go) fun r s6 ⟨u, hr, h6⟩ => ?_
    subst hr
    refine thnF h6 fun _ s7 ⟨x, H7, I7, r7, y7, st7, n7⟩ => ?_
    have I7' := I7.pinned (blk_fps I7 rfl n7) (T.obj _ _ st7)
    refine thnF ((hg s3 _ C cl fps).run _ s7 _ H7 x u _ I7' r7 (step x H7 y7)) fun _ s8 ⟨σ8, H8, I8, hw8, q8⟩ => ?_
    have sl := wiped_slots hw8
    refine thnF ((ht s3 _ C cl fps).run _ s8 σ8 H8 _ I8 q8) fun b s9 ⟨H9, I9, q9⟩ => ?_
    cases b with
    | false =>
      rw [if_neg Bool.false_ne_true] at q9 ⊢
      exact Mid.next (Y := X.blk s3 _ scope (compEnvC scope cl C X.env) fps) T st7 hNx sl.1 sl.2 I9 q9
    | true =>
      rw [if_pos rfl] at q9 ⊢
      refine thnF ((hk s3 _ C cl fps).run _ s9 σ8 H9 _ I9 q9) fun kv s10 ⟨yk, H10, I10, r10, q10⟩ => ?_
      refine thnF ((hv s3 _ C cl fps).run _ s10 σ8 H10 _ I10 q10) fun vv s11 ⟨yv, H11, I11, r11, q11⟩ => ?_
      refine thnF (ds_set (X := X.blk s3 _ scope (compEnvC scope cl C X.env) fps) (ca := ca) (E := fun _ _ => False) hu I11 r10 r11 q11) fun _ s12 ⟨H12, I12, nx⟩ => ?_
      exact Mid.next (Y := X.blk s3 _ scope (compEnvC scope cl C X.env) fps) T st7 hNx sl.1 sl.2 I12 nx
end
end
end Pv
end

section
set_option Elab.async false
set_option linter.all false
set_option maxRecDepth 100000
set_option autoImplicit false
namespace Pv
open PySem PySem.Spec PyProof.Rows L2

section
variable {X : Cx} {ca : Str → Option Addr} {pins : List (Addr × Obj)} {σ : L2.St}
/-- the pairs of a display are stored one by one, keys of any kind -/
theorem storeAll_ok (hu : X.A.units + 70 < cLine) {D : Addr} {t : Bool} {F0 F : Hp} {mu0 mu : List Addr} {H0 : Hp} {st : Store} (d1 : D ∉ mu) (d2 : F D = none) (h0 : H0 D = none) : ∀ (ps : List (V × V)) (ws : List (Value × Value)) (vs : List PV) (acc : List (PV × PV)) (H : Hp) (s : Shared) (o : Obj) (es : Array DictEntry) (ep : Nat),
    VV ps ws → RepL X.K X.w F mu vs (flat2 ps) → (prs vs).all (fun p => kFor t p.1) = true → L2.Inv X pins σ H s → Hold X.K X.w ca F mu H st → Le F0 mu0 H0 F mu H → H D = some (dHO D o) → o.ExactDict → o.data = .dict es ep → Ents X.K X.w F mu t acc es.toList → (acc.map (·.1)).Nodup → acc.length + (prs vs).length ≤ SZ →
    wpAny (model X.prog X.w) X.A (storeAll D ws) (fun _ s' => ∃ (H' : Hp) (o' : Obj) (es' : Array DictEntry) (ep' : Nat), L2.Inv X pins σ H' s' ∧ Hold X.K X.w ca F mu H' st ∧ Le F0 mu0 H0 F mu H' ∧ H' D = some (dHO D o') ∧ o'.ExactDict ∧ o'.data = .dict es' ep' ∧ Ents X.K X.w F mu t ((prs vs).foldl (fun a p => put a p.1 p.2) acc) es'.toList ∧ (((prs vs).foldl (fun a p => put a p.1 p.2) acc).map (·.1)).Nodup) X.xe s
  | [], _, vs, acc, H, s, o, es, ep, r, q, hk, I, G, L, hD, h1, h2, h3, h4, hz => by
    cases r; cases q
    unfold storeAll
    rw [List.forIn_nil]
    exact wpAny_pure ⟨H, o, es, ep, I, G, L, hD, h1, h2, h3, h4⟩
  | p :: ps, _, vs, acc, H, s, o, es, ep, r, q, hk, I, G, L, hD, h1, h2, h3, h4, hz => by
    cases r with
    | @cons _ w _ ws r1 r2 =>
      cases q with
      | cons q1 q2 =>
        cases q2 with
        | @cons _ _ vs0 _ q2 q3 =>
          simp only [prs, List.all_cons, Bool.and_eq_true, List.length_cons] at hk hz
          unfold storeAll
          rw [List.forIn_cons]
          have d : DX X F mu s.heap D t acc := DX.of I G (Inv.dobj I hD) h1 h2 h3 h4
          refine wpAny_bind (wpAny_bind (dx_dictSet I G (by omega) d (by omega) hk.1 q1 r1.1 q2 r1.2 fun h' tk d' sb => wpAny_pure ?_))
          obtain ⟨o', es', ep', e1, e2, e3, e4, e5⟩ := d'.to
          have I' := I.write (x := D) (e := D) (t' := tk) (by rw [hD]; trivial) (.inl rfl) (fun b u hb q => (sb.2 b hb).trans q) ⟨o', e1⟩ (dOk e1)
          exact storeAll_ok hu d1 d2 h0 ps ws vs0 _ _ _ o' es' ep' r2 q3 hk.2 I' (G.side d1 d2 _) (L.updD h0 _) upd_same e2 e3 e4 e5 (Nat.le_trans (Nat.add_le_add_right put_len _) (by omega))
theorem s_dctdA {pos : Pos} {keys : List (Option Expr)} {values : List Expr} {k : Fr → Store → Option (List PV × Store)} {c t : Bool} (hu : X.A.units + 70 < cLine) (hd : PD X pos keys values (LA X ca k)) (hall : keys.all (·.isSome) = true) (hl : keys.length = values.length) (h0 : keys ≠ [])
    (h15 : keys.length ≤ 15) : PE X (.Dict keys values pos) (LE X ca fun fr st => (k fr st).bind fun p => if (prs p.1).all (fun q => kFor t q.1) ∧ p.1.length ≤ 30 then some (mkD c t (dctL (prs p.1)) p.2) else none) := by
  refine ⟨fun pins s σ H Q I ⟨F, mu, fr, st, v, st', G, R, e, q⟩ => ?_⟩
  obtain ⟨vs, s1, e1, e⟩ := bind2 (k := fun vs s1 => if (prs vs).all (fun q => kFor t q.1) ∧ vs.length ≤ 30 then some (mkD c t (dctL (prs vs)) s1) else none) e
  split at e <;> try contradiction
  rename_i hk
  simp only [Option.some.injEq] at e
  have hn := I.hok.fresh (Nat.le_refl s.heap.objs.size)
  have hs0 : (s.heap.objs.size == sysModules) = false := beq_eq_false_iff_ne.mpr (Ne.symm (Nat.ne_of_lt I.big))
  have hob : (s.heap.push { cls := .type "dict", data := .dict #[] }).get? s.heap.objs.size = some { cls := .type "dict", data := .dict #[] } := Heap.get?_push_size _ rfl
  have I1 : L2.Inv X pins σ (upd H s.heap.objs.size (dHO s.heap.objs.size { cls := .type "dict", data := .dict #[] })) { s with heap := s.heap.push { cls := .type "dict", data := .dict #[] } } :=
    I.laid (t' := s.toks) (fun _ _ q => Heap.get?_push_of_some _ q) (Nat.le_refl _) (dOk hob)
  obtain ⟨G0, L0⟩ := G.aside hn (dHO s.heap.objs.size { cls := .type "dict", data := .dict #[] })
  refine wpAny_Dict_any hall hl h0 h15 (thn (hd.run pins _ σ _ (fun zs H3 => ∃ F3 mu3, Le F mu (upd H s.heap.objs.size (dHO s.heap.objs.size { cls := .type "dict", data := .dict #[] })) F3 mu3 H3 ∧ Hold X.K X.w ca F3 mu3 H3 s1 ∧ RepL X.K X.w F3 mu3 vs zs) I1
    ⟨F, mu, fr, st, vs, s1, G0, R, e1, fun F3 mu3 H3 zs L3 G3 R3 => ⟨F3, mu3, L3, G3, R3⟩⟩) fun ws s2 ⟨ps, H2, I2, rel, F3, mu3, L3, G3, R3⟩ => ?_)
  obtain ⟨a1, a2, a3⟩ := G.apart hn L3
  have hp := prs_len _ vs (Nat.le_refl _)
  have hv := hk.2
  have L3' : Le F mu H F3 mu3 H2 := L0.trans L3
  refine thn (storeAll_ok hu a1 a2 hn ps ws vs [] H2 s2 _ #[] 0 rel R3 hk.1 I2 G3 L3' a3 ⟨rfl, rfl, rfl⟩ rfl (.nil t) List.nodup_nil (by simp only [List.length_nil]; unfold SZ; omega)) fun _ s3 ⟨H3, o', es', ep', I3, G4, L4, k1, k2, k3, k4, k5⟩ => ?_
  have hz : (dctL (prs vs)).length ≤ SZ := by
    have h1 := dctL_len (kvs := prs vs)
    unfold SZ; omega
  obtain ⟨F5, mu5, E5, G5, R5, n1, n2⟩ := G4.endD k1 a1 a2 k2 k3 hs0 hz k5 k4 e
  exact ⟨.ref s.heap.objs.size, _, I3, rfl, q _ _ _ _ (L4.end hn E5 n1 n2) G5 R5⟩
end
end Pv
end

section
set_option Elab.async false
set_option linter.all false
set_option maxRecDepth 100000
set_option autoImplicit false
namespace Pv
open PySem PySem.Spec PyProof.Rows L2

section
variable {prog : Program} {w : World} {A : Around} {R : Result → Shared → Prop} {s : Shared} {kx vx t0 i0 t1 i1 : Expr} {ifs0 ifs1 : List Expr} {scope : Scope} {pos : Pos} {itr : Value} {D : Addr} {env : Env}
/-- {kx: vx for t0 in i0 if .. for t1 in i1 if ..} -/
abbrev dc2E (kx vx t0 i0 t1 i1 : Expr) (ifs0 ifs1 : List Expr) (scope : Scope) (pos : Pos) : Expr := .DictComp kx vx [⟨t0, i0, ifs0, 0⟩, ⟨t1, i1, ifs1, 0⟩] scope pos
abbrev testsOf (ifs : List Expr) (env : Env) : Sem Bool := forIn ifs true fun c r => if r = true then do let ok ← isTrue c env (eval c env); pure (ForInStep.yield ok) else pure (ForInStep.yield r)
theorem turn_outer (acc : Value) : compTurn (dc2E kx vx t0 i0 t1 i1 ifs0 ifs1 scope pos) 0 itr acc env = (do
      standAt i0.pos
      match ← pyNext itr with
      | none => pure (.done .next)
      | some v => do
        letOwnedTupleGo t0 itr v
        assign t0 env v
        let ok ← testsOf ifs0 env
        if ok then
          let x ← eval i1 env
          standAt i1.pos
          let x ← foldedSetIterable i1 env x
          let _ ← runOwn (.compStart (dc2E kx vx t0 i0 t1 i1 ifs0 ifs1 scope pos) 1 (← holding [x] (pyIter x)) acc env) env
        again (.compLoop (dc2E kx vx t0 i0 t1 i1 ifs0 ifs1 scope pos) 0 itr acc env)) := by rfl
theorem turn_inner : compTurn (dc2E kx vx t0 i0 t1 i1 ifs0 ifs1 scope pos) 1 itr (.ref D) env = (do
      standAt i1.pos
      match ← pyNext itr with
      | none => pure (.done .next)
      | some v => do
        letOwnedTupleGo t1 itr v
        assign t1 env v
        let ok ← testsOf ifs1 env
        if ok then
          (do
            let kv ← eval kx env
            let vv ← holding [kv] (eval vx env)
            standAt { kx.pos with endLine := vx.pos.endLine, endCol := vx.pos.endCol }
            holding [kv, vv] (dictSet D kv vv))
        again (.compLoop (dc2E kx vx t0 i0 t1 i1 ifs0 ifs1 scope pos) 1 itr (.ref D) env)) := by rfl
/-- an error of the block -/
abbrev NB (prog : Program) (w : World) (A : Around) (env : Env) (R : Result → Shared → Prop) : Value → Shared → Prop := notedBy (model prog w) A env fun e s' => R (.error e) s'
theorem loop_outer (acc : Value) (hs : ∀ x, foldedSetIterable i1 env x = pure x) (I : Nat → Shared → Prop)
    (turn : ∀ n s, I n s → wpAny (model prog w) A (pyNext itr) (fun r sa => match r with
      | none => R (.ok .next) sa
      | some v => wpAny (model prog w) A (letOwnedTupleGo t0 itr v) (fun _ sb => wpAny (model prog w) A (assign t0 env v) (fun _ sc => wpAny (model prog w) A (testsOf ifs0 env) (fun ok sd =>
            if ok = true then wpAny (model prog w) A (eval i1 env) (fun x se => wpAny (model prog w) A (pyIter x) (fun itr1 sf =>
              codeAny (model prog w) A (.compStart (dc2E kx vx t0 i0 t1 i1 ifs0 ifs1 scope pos) 1 itr1 acc env) (fun r s' => match r with
                | .ok _ => ∃ m, m < n ∧ I m s'
                | .error _ => False) sf) (NB prog w A env R) se) (NB prog w A env R) sd
            else ∃ m, m < n ∧ I m sd) (NB prog w A env R) sc) (NB prog w A env R) sb) (NB prog w A env R) sa) (NB prog w A env R) s)
    (n : Nat) (h : I n s) : codeAny (model prog w) A (.compLoop (dc2E kx vx t0 i0 t1 i1 ifs0 ifs1 scope pos) 0 itr acc env) R s := by
  refine codeAny_loop rfl I (fun n s hI => ?_) n h
  show wpAny _ A ((compTurn (dc2E kx vx t0 i0 t1 i1 ifs0 ifs1 scope pos) 0 itr acc env).onRaise (fun x => do noteFrame x env; theTreesLotGoes x)) _ _ s
  refine wpAny_noted ?_
  rw [turn_outer]
  refine wpAny_bind (wpAny_standAt (wpAny_bind (wpAny_mono (turn n s hI) (fun r sa ha => ?_) fun _ _ z => z)))
  cases r with
  | none => exact wpAny_pure ha
  | some v =>
    refine wpAny_bind (wpAny_mono ha (fun _ sb hb => wpAny_bind (wpAny_mono hb (fun _ sc hcc => wpAny_bind (wpAny_mono hcc (fun ok sd hd => ?_) fun _ _ z => z)) fun _ _ z => z)) fun _ _ z => z)
    cases ok with
    | false => exact wpAny_pure ⟨rfl, hd⟩
    | true =>
      refine wpAny_bind (wpAny_mono hd (fun x se he => ?_) fun _ _ z => z)
      refine wpAny_bind (wpAny_standAt (wpAny_bind (wpAny_of_eq (hs x) (wpAny_bind (wpAny_holding (wpAny_mono he (fun itr1 sf hf => wpAny_bind (wpAny_runOwn ?_)) fun _ _ z => z))))))
      rw [Around.mark_none]
      refine codeAny_mono hf fun r s' hr => ?_
      cases r with
      | error e => exact False.elim hr
      | ok f =>
        first
          | exact wpAny_pure ⟨rfl, hr⟩
          | exact wpAny_bind (wpAny_pure (wpAny_pure ⟨rfl, hr⟩))
theorem loop_inner (I : Nat → Shared → Prop)
    (turn : ∀ n s, I n s → wpAny (model prog w) A (pyNext itr) (fun r sa => match r with
      | none => R (.ok .next) sa
      | some v => wpAny (model prog w) A (letOwnedTupleGo t1 itr v) (fun _ sb => wpAny (model prog w) A (assign t1 env v) (fun _ sc => wpAny (model prog w) A (testsOf ifs1 env) (fun ok sd =>
            if ok = true then wpAny (model prog w) A (eval kx env) (fun kv se => wpAny (model prog w) A (eval vx env) (fun vv sf =>
              wpAny (model prog w) A (dictSet D kv vv) (fun _ sg => ∃ m, m < n ∧ I m sg) (NB prog w A env R) sf) (NB prog w A env R) se) (NB prog w A env R) sd
            else ∃ m, m < n ∧ I m sd) (NB prog w A env R) sc) (NB prog w A env R) sb) (NB prog w A env R) sa) (NB prog w A env R) s)
    (n : Nat) (h : I n s) : codeAny (model prog w) A (.compLoop (dc2E kx vx t0 i0 t1 i1 ifs0 ifs1 scope pos) 1 itr (.ref D) env) R s := by
  refine codeAny_loop rfl I (fun n s hI => ?_) n h
  show wpAny _ A ((compTurn (dc2E kx vx t0 i0 t1 i1 ifs0 ifs1 scope pos) 1 itr (.ref D) env).onRaise (fun x => do noteFrame x env; theTreesLotGoes x)) _ _ s
  refine wpAny_noted ?_
  rw [turn_inner]
  refine wpAny_bind (wpAny_standAt (wpAny_bind (wpAny_mono (turn n s hI) (fun r sa ha => ?_) fun _ _ z => z)))
  cases r with
  | none => exact wpAny_pure ha
  | some v =>
    refine wpAny_bind (wpAny_mono ha (fun _ sb hb => wpAny_bind (wpAny_mono hb (fun _ sc hcc => wpAny_bind (wpAny_mono hcc (fun ok sd hd => ?_) fun _ _ z => z)) fun _ _ z => z)) fun _ _ z => z)
    cases ok with
    | false => exact wpAny_pure ⟨rfl, hd⟩
    | true =>
      have key : wpAny (model prog w) A (do
            let kv ← eval kx env
            let vv ← holding [kv] (eval vx env)
            standAt { kx.pos with endLine := vx.pos.endLine, endCol := vx.pos.endCol }
            holding [kv, vv] (dictSet D kv vv)) (fun _ sg => ∃ m, m < n ∧ I m sg) (NB prog w A env R) sd :=
        wpAny_bind (wpAny_mono hd (fun kv se he => wpAny_bind (wpAny_holding (wpAny_mono he (fun vv sf hf => wpAny_bind (wpAny_standAt (wpAny_holding hf))) fun _ _ z => z))) fun _ _ z => z)
      refine wpAny_bind ?_
      exact wpAny_mono key (fun _ sg hg => wpAny_pure ⟨rfl, hg⟩) fun _ _ z => z
/-- the second clause begins -/
theorem start_inner (h0 : codeAny (model prog w) A (.compLoop (dc2E kx vx t0 i0 t1 i1 ifs0 ifs1 scope pos) 1 itr (.ref D) env) R s)
    (h : wpAny (model prog w) A (pyIter itr) (fun it' s' => codeAny (model prog w) A (.compLoop (dc2E kx vx t0 i0 t1 i1 ifs0 ifs1 scope pos) 1 it' (.ref D) env) R s') (NB prog w A env R) s) :
    codeAny (model prog w) A (.compStart (dc2E kx vx t0 i0 t1 i1 ifs0 ifs1 scope pos) 1 itr (.ref D) env) R s := by
  refine codeAny_of_tree ?_
  show wpAny _ A ((compStart (dc2E kx vx t0 i0 t1 i1 ifs0 ifs1 scope pos) 1 itr (.ref D) env).onRaise (fun x => do noteFrame x env; standAt theWindowsPlace)) _ _ s
  refine wpAny_notedAt ?_
  unfold compStart
  show wpAny _ A (ask >>= _) _ _ s
  refine wpAny_bind (wpAny_askSetting (wpAny_ite ?_))
  split
  · first
      | exact wpAny_pure ⟨rfl, h0⟩
      | exact wpAny_bind (wpAny_pure (wpAny_pure ⟨rfl, h0⟩))
  · refine wpAny_bind (wpAny_rule ?_)
    show wpAny _ A (standAt i1.pos >>= _) _ _ s
    exact wpAny_bind (wpAny_standAt (wpAny_bind (wpAny_mono h (fun it' s' z => wpAny_pure ⟨rfl, z⟩) fun _ _ z => z)))
end

section
variable {X : Cx} {ca : Str → Option Addr}
/-- its reading: behind the first clause's tests the second source's own loop -/
def tDcP2 (X : Cx) (ca : Str → Option Addr) (wi : TI) (g : TG) (tt : TT) (wi1 : TI) (g1 : TG) (tt1 : TT) (tk tv : TE) (vs vs1 : List Nat) : TE := fun σ H Q => wi σ H fun J H1 => ∀ D, H1 D = none → (D == sysModules) = false → ∃ W : Nat → Nat → Hp → Prop, (∃ m, W 0 m (upd H1 D (dHO D ob0))) ∧ ∀ i m H, W i m H →
  (J.stop i H ∧ Q (.ref D) H) ∨ (J.go i H ∧ ∃ Nx : Hp → Prop, (∀ H', Nx H' → ∃ m', m' < m ∧ W (i + 1) m' H') ∧ ∀ x H', J.yld i H x H' → g x (wipe σ vs) H' fun σ2 H2 => wipe σ2 vs = wipe σ vs ∧ tt σ2 H2 fun b H3 =>
    if b = true then wi1 σ2 H3 fun J1 H4 => ∃ W1 : Nat → Nat → Hp → Prop, (∃ m, W1 0 m H4) ∧ ∀ j k H, W1 j k H →
      (J1.stop j H ∧ Nx H) ∨ (J1.go j H ∧ ∃ Ny : Hp → Prop, (∀ H', Ny H' → ∃ k', k' < k ∧ W1 (j + 1) k' H') ∧ ∀ x H', J1.yld j H x H' → g1 x (wipe σ2 vs1) H' fun σ3 H5 => wipe σ3 vs1 = wipe σ2 vs1 ∧ tt1 σ3 H5 fun b H6 =>
        if b = true then tk σ3 H6 fun y H7 => tv σ3 H7 fun z H8 => DS X ca D y z H8 Ny else Ny H6)
    else Nx H3)
variable {pins : List (Addr × Obj)} {σ : L2.St} {H : Hp} {s : Shared} {Q : VK} {kx vx tg iter tg1 iter1 : Expr} {ifs ifs1 : List Expr} {scope : Scope} {own : List (Str × Nat)} {vs1 : List Nat} {pos pos' : Pos} {wi wi1 : TI} {g g1 : TG} {tt tt1 : TT} {tk tv : TE} {use : Option (Value → Sem Unit)} {Qf : Value → Shared → Prop}
theorem dcP2_core (hu : X.A.units + 70 < cLine) (hc : X.calm = true) (hN : X.N.Nodup) (I : L2.Inv X pins σ H s) (hi : PI X tg iter wi) (ok : BlkOk X.N X.env.scope scope own) (hv1 : ∀ i ∈ vs1, i ∈ own.map (·.2))
    (hg : ∀ (s : Shared) (H : Hp) (C : Addr) (cl : List (Str × Addr)) (fps : List Addr), PG (X.blk s H scope (compEnvC scope cl C X.env) fps) tg g)
    (ht : ∀ (s : Shared) (H : Hp) (C : Addr) (cl : List (Str × Addr)) (fps : List Addr), PTs (X.blk s H scope (compEnvC scope cl C X.env) fps) ifs tt)
    (hi1 : ∀ (s : Shared) (H : Hp) (C : Addr) (cl : List (Str × Addr)) (fps : List Addr), PI (X.blk s H scope (compEnvC scope cl C X.env) fps) tg1 iter1 wi1)
    (hg1 : ∀ (s : Shared) (H : Hp) (C : Addr) (cl : List (Str × Addr)) (fps : List Addr), PG (X.blk s H scope (compEnvC scope cl C X.env) fps) tg1 g1)
    (ht1 : ∀ (s : Shared) (H : Hp) (C : Addr) (cl : List (Str × Addr)) (fps : List Addr), PTs (X.blk s H scope (compEnvC scope cl C X.env) fps) ifs1 tt1)
    (hk : ∀ (s : Shared) (H : Hp) (C : Addr) (cl : List (Str × Addr)) (fps : List Addr), PE (X.blk s H scope (compEnvC scope cl C X.env) fps) kx tk)
    (hv : ∀ (s : Shared) (H : Hp) (C : Addr) (cl : List (Str × Addr)) (fps : List Addr), PE (X.blk s H scope (compEnvC scope cl C X.env) fps) vx tv) (hs : ∀ x, foldedSetIterable iter X.env x = pure x) (hs1 : ∀ env x, foldedSetIterable iter1 env x = pure x)
    (h : tDcP2 X ca wi g tt wi1 g1 tt1 tk tv (own.map (·.2)) vs1 σ H Q)
    (hRR : ∀ D C s' m H', L2.Inv X pins σ H' s' → Q (.ref D) H' → s'.heap.Ns C m → FpOk X pins H' C → compPost (model X.prog X.w) X.A X.xe use Qf (.ref D) C (.ok .next) s') :
    wpAny (model X.prog X.w) X.A (comprehension (.DictComp kx vx [⟨tg, iter, ifs, 0⟩, ⟨tg1, iter1, ifs1, 0⟩] scope pos) scope X.env pos' newDict false (eval iter X.env) use) Qf X.xe s := by
  refine dc_open (use := use) hc hN I hi ok hs h hRR fun s3 s4 H2 C D cl fps itr tn J ⟨W, ⟨m0, w0⟩, turn⟩ T st4 nfp I4 fin => ?_
  refine loop_outer (.ref D) (hs1 _) (Mid (X.blk s3 (upd H2 D (dHO D ob0)) scope (compEnvC scope cl C X.env) fps) [] (wipe σ (own.map (·.2))) tn fps W) ?_ m0 ⟨0, _, I4, st4, nfp, w0⟩
  rintro n s5 ⟨i, H5, I5, st5, n5, w5⟩
  have fp5 := blk_fps I5 rfl n5
  rcases turn i n H5 w5 with ⟨stop, qq⟩ | ⟨go, Nx, hNx, step⟩
  · refine thnF (T.done (X.blk s3 _ scope (compEnvC scope cl C X.env) fps) rfl rfl rfl hc i [] s5 _ H5 (fun _ _ => False) I5 fp5 st5 stop) fun r s6 ⟨hr, I6⟩ => ?_
    subst hr
    exact fin _ H5 s6 I6 qq
  · refine thnF (T.item (X.blk s3 _ scope (compEnvC scope cl C X.env) fps) rfl rfl rfl hc i [] s5 _ H5 (fun _ _ => False) I5 fp5 st5 go) fun r s6 ⟨u, hr, h6⟩ => ?_
    subst hr
    refine thnF h6 fun _ s7 ⟨x, H7, I7, r7, y7, st7, n7⟩ => ?_
    have I7' := I7.pinned (blk_fps I7 rfl n7) (T.obj _ _ st7)
    refine thnF ((hg s3 _ C cl fps).run _ s7 _ H7 x u _ I7' r7 (step x H7 y7)) fun _ s8 ⟨σ8, H8, I8, hw8, q8⟩ => ?_
    have sl := wiped_slots hw8
    refine thnF ((ht s3 _ C cl fps).run _ s8 σ8 H8 _ I8 q8) fun b s9 ⟨H9, I9, q9⟩ => ?_
    cases b with
    | false =>
      rw [if_neg Bool.false_ne_true] at q9 ⊢
      exact Mid.next (Y := X.blk s3 _ scope (compEnvC scope cl C X.env) fps) T st7 hNx sl.1 sl.2 I9 q9
    | true =>
      rw [if_pos rfl] at q9 ⊢
      refine thnF ((hi1 s3 _ C cl fps).run _ s9 σ8 H9 _ I9 q9) fun xv s10 hx => thnF hx fun itv s11 ⟨itr1, fps1, tn1, J1, H11, e11, I11, T1, st11, f11, W1, ⟨m1, w1⟩, turn1⟩ => ?_
      subst e11
      have sl1 : ∀ (j : Nat) v, (wipe σ (own.map (·.2)))[j]? = some (some v) → (wipe σ8 vs1)[j]? = some (some v) := fun j v e => by
        rw [wipe_get, if_neg fun hj => (wipe_some e).2 (hv1 j hj)]
        exact sl.2 j v e
      have fpk : ∀ {H' : Hp}, (∀ b ∈ fps1, H' b = none) → ∀ b ∈ fps1, FpOk (X.blk s3 (upd H2 D (dHO D ob0)) scope (compEnvC scope cl C X.env) fps) ([] ++ pinsAt fps s7.heap) H' b := fun hn b hb => ⟨hn b hb, (f11 b hb).2⟩
      have inner : codeAny (model X.prog X.w) X.A (.compLoop (.DictComp kx vx [⟨tg, iter, ifs, 0⟩, ⟨tg1, iter1, ifs1, 0⟩] scope pos) 1 (.ref itr1) (.ref D) (compEnvC scope cl C X.env))
          (fun r s' => match r with
            | .ok _ => ∃ m, m < n ∧ Mid (X.blk s3 (upd H2 D (dHO D ob0)) scope (compEnvC scope cl C X.env) fps) [] (wipe σ (own.map (·.2))) tn fps W m s'
            | .error _ => False) s11 := by
        refine loop_inner (Mid (X.blk s3 (upd H2 D (dHO D ob0)) scope (compEnvC scope cl C X.env) fps) ([] ++ pinsAt fps s7.heap) (wipe σ8 vs1) tn1 fps1 W1) ?_ m1 ⟨0, H11, I11.weak (wipe_length _ _) (fun j v e => (wipe_some e).1), st11, fun b hb => (f11 b hb).1, w1⟩
        rintro k s12 ⟨j, H12, I12, st12, n12, w12⟩
        rcases turn1 j k H12 w12 with ⟨stop1, nx1⟩ | ⟨go1, Ny, hNy, step1⟩
        · refine thnF (T1.done (X.blk s3 _ scope (compEnvC scope cl C X.env) fps) rfl rfl rfl hc j _ s12 (wipe σ8 vs1) H12 (fun _ _ => False) I12 (fpk n12) st12 stop1) fun r s13 ⟨hr, I13⟩ => ?_
          subst hr
          exact Mid.next (Y := X.blk s3 _ scope (compEnvC scope cl C X.env) fps) T st7 hNx (sl.1.trans (wipe_length σ8 vs1).symm) sl1 I13 nx1
        · refine thnF (T1.item (X.blk s3 _ scope (compEnvC scope cl C X.env) fps) rfl rfl rfl hc j _ s12 (wipe σ8 vs1) H12 (fun _ _ => False) I12 (fpk n12) st12 go1) fun r s13 ⟨u1, hr, h13⟩ => ?_
          subst hr
          refine thnF h13 fun _ s14 ⟨x1, H14, I14, r14, y14, st14, n14⟩ => ?_
          have I14' := I14.pinned (fpk n14) (T1.obj _ _ st14)
          refine thnF ((hg1 s3 _ C cl fps).run _ s14 (wipe σ8 vs1) H14 x1 u1 _ I14' r14 (step1 x1 H14 y14)) fun _ s15 ⟨σ15, H15, I15, hw15, q15⟩ => ?_
          have sl15 := wiped_slots hw15
          refine thnF ((ht1 s3 _ C cl fps).run _ s15 σ15 H15 _ I15 q15) fun b1 s16 ⟨H16, I16, q16⟩ => ?_
          cases b1 with
          | false =>
            rw [if_neg Bool.false_ne_true] at q16 ⊢
            exact Mid.next (Y := X.blk s3 _ scope (compEnvC scope cl C X.env) fps) T1 st14 hNy sl15.1 sl15.2 I16 q16
          | true =>
            rw [if_pos rfl] at q16 ⊢
            refine thnF ((hk s3 _ C cl fps).run _ s16 σ15 H16 _ I16 q16) fun kv s17 ⟨yk, H17, I17, r17, q17⟩ => ?_
            refine thnF ((hv s3 _ C cl fps).run _ s17 σ15 H17 _ I17 q17) fun vv s18 ⟨yv, H18, I18, r18, q18⟩ => ?_
            refine thnF (ds_set (X := X.blk s3 _ scope (compEnvC scope cl C X.env) fps) (ca := ca) (E := fun _ _ => False) hu I18 r17 r18 q18) fun _ s19 ⟨H19, I19, nx⟩ => ?_
            exact Mid.next (Y := X.blk s3 _ scope (compEnvC scope cl C X.env) fps) T1 st14 hNy sl15.1 sl15.2 I19 nx
      exact start_inner inner (T1.self X.A 0 _ _ _ st11 inner)
end
end Pv
end

section
set_option Elab.async false
set_option linter.all false
set_option maxRecDepth 100000
set_option autoImplicit false
namespace Pv
open PySem PySem.Spec PyProof.Rows L2

def ARD (X : Cx) (D : Addr) (b : Bool) : Hp → List Addr → List (PV × PV) → HO → Prop := fun F mu l o => ∃ (ob : Obj) (es : Array DictEntry) (ep : Nat), o = dHO D ob ∧ ob.ExactDict ∧ ob.data = .dict es ep ∧ Ents X.K X.w F mu b (dctL l) es.toList ∧ ((dctL l).map (·.1)).Nodup
theorem ARD.mono {X : Cx} {D : Addr} {b : Bool} : ∀ F mu F' mu' l o, Ext F mu F' mu' → ARD X D b F mu l o → ARD X D b F' mu' l o := fun _ _ _ _ _ _ E ⟨ob, es, ep, h1, h2, h3, h4, h5⟩ => ⟨ob, es, ep, h1, h2, h3, h4.mono E, h5⟩
theorem dctL_snoc (l : List (PV × PV)) (a b : PV) : dctL (l ++ [(a, b)]) = put (dctL l) a b := by simp [dctL]
/-- an entry -/
def pr (d : Bool) (fk fv : Fr → Store → Option (PV × Store)) : Fr → Store → Option (List (PV × PV) × Store) := fun fr s => (fk fr s).bind fun p => (fv fr p.2).bind fun q => if kFor d p.1 then some ([(p.1, q.1)], q.2) else none
theorem pr_some {d : Bool} {fk fv : Fr → Store → Option (PV × Store)} {fr : Fr} {s : Store} {a : List (PV × PV)} {s3 : Store} (h : pr d fk fv fr s = some (a, s3)) : ∃ k v s1, fk fr s = some (k, s1) ∧ fv fr s1 = some (v, s3) ∧ kFor d k = true ∧ a = [(k, v)] := by
  unfold pr at h
  obtain ⟨k, s1, e1, h⟩ := bind2 (k := fun k s1 => (fv fr s1).bind fun q => if kFor d k then some ([(k, q.1)], q.2) else none) h
  obtain ⟨v, s2, e2, h⟩ := bind2 (k := fun v s2 => if kFor d k then some ([(k, v)], s2) else none) h
  split at h <;> try contradiction
  rename_i hk
  simp only [Option.some.injEq, Prod.mk.injEq] at h
  obtain ⟨rfl, rfl⟩ := h
  exact ⟨k, v, s1, e1, e2, hk, rfl⟩
section
variable {X : Cx} {ca : Str → Option Addr}
variable {elt tg iter tg1 iter1 : Expr} {ifs ifs1 : List Expr} {scope : Scope} {own : List (Str × Nat)} {pos : Pos} {fi fi1 : Fr → Store → Option (List PV × Store)} {ff ff1 : Fr → Store → Option (Bool × Store)} {fk fv : Fr → Store → Option (PV × Store)} {t t1 : CT} {c d : Bool} {own1 : List Nat}
/-- the store of an entry -/
theorem ds_of {F : Hp} {mu : List Addr} {H : Hp} {st : Store} {D : Addr} {o : HO} {l : List (PV × PV)} {k v : PV} {y z : V} {Nx : Hp → Prop} (G : Hold X.K X.w ca F mu H st) (hD : H D = some o) (ra : ARD X D d F mu l o) (hz : l.length < SZ) (hk : kFor d k = true) (rk : Rep X.K X.w F mu k y) (rv : Rep X.K X.w F mu v z)
    (q : ∀ o', ARD X D d F mu (l ++ [(k, v)]) o' → Nx (upd H D o')) : DS X ca D y z H Nx := by
  obtain ⟨ob, es, ep, rfl, h1, h2, h3, h4⟩ := ra
  exact ⟨F, mu, st, d, dctL l, k, v, ob, es, ep, G, hD, h1, h2, h3, h4, Nat.lt_of_le_of_lt dctL_len hz, hk, rk, rv, fun o' es' ep' a1 a2 a3 a4 => q _ ⟨o', es', ep', rfl, a1, a2, by rw [dctL_snoc]; exact a3, by rw [dctL_snoc]; exact a4⟩⟩
theorem dc_read (hown : ∀ i ∈ ctI t, i ∈ own.map (·.2)) : ∀ σ H Q, LE X ca (fun fr st => (fi fr st).bind fun xs => (clL (lcS (own.map (·.2)) t ff (pr d fk fv) fr) xs.1 xs.2).bind fun vs => if vs.1.length ≤ SZ then some (mkD c d (dctL vs.1) vs.2) else none) σ H Q →
    tDcP X ca (LI X ca fi) (LG X ca t) (LT X ca ff) (LE X ca fk) (LE X ca fv) (own.map (·.2)) σ H Q := by
  rintro σ H Q ⟨F, mu, fr, st, v, st', G, R, e, q⟩
  obtain ⟨xs, s1, e1, e⟩ := bind2 (k := fun xs s1 => (clL (lcS (own.map (·.2)) t ff (pr d fk fv) fr) xs s1).bind fun vs => if vs.1.length ≤ SZ then some (mkD c d (dctL vs.1) vs.2) else none) e
  obtain ⟨vs, s2, e2, e⟩ := bind2 (k := fun (vs : List (PV × PV)) s2 => if vs.length ≤ SZ then some (mkD c d (dctL vs) s2) else none) e
  split at e <;> try contradiction
  rename_i hz
  simp only [Option.some.injEq] at e
  refine ⟨F, mu, fr, st, xs, s1, G, R, e1, fun F1 mu1 H1 J L1 G1 it D hD hDs => ?_⟩
  have m1 := G1.notmem hD
  have f1 := G1.noF hD
  obtain ⟨G1', _⟩ := G1.aside hD (dHO D ob0)
  refine ⟨fun i m H' => m = xs.length - i ∧ i ≤ xs.length ∧ LInv X ca (ARD X D d) F1 mu1 H1 D (lcS (own.map (·.2)) t ff (pr d fk fv) fr) xs vs s2 i H', ⟨xs.length, by simp, Nat.zero_le _, F1, mu1, s1, _, [], vs, m1, f1, Le.refl.updD hD _, G1', upd_same, ⟨ob0, #[], 0, rfl, ⟨rfl, rfl, rfl⟩, rfl, .nil _, List.nodup_nil⟩, e2, rfl⟩, ?_⟩
  rintro i m H2 ⟨rfl, hi, inv⟩
  by_cases hlt : i < xs.length
  · obtain ⟨go, yld⟩ := inv.turn ARD.mono hlt it
    refine .inr ⟨go, LInv X ca (ARD X D d) F1 mu1 H1 D (lcS (own.map (·.2)) t ff (pr d fk fv) fr) xs vs s2 (i + 1), fun H' p => ⟨xs.length - (i + 1), by omega, rfl, hlt, p⟩, fun x H3 y => ?_⟩
    obtain ⟨F3, mu3, st3, o, accP, w, a, s4, b, d1, d2, L3, G3, hD3, ra, rw', es, ec, et⟩ := yld x H3 y
    obtain ⟨fr1, k, s5, ea, ef, hb⟩ := lcS_some es
    refine ⟨F3, mu3, _, st3, w, fr1, G3, (R.mono (L1.ext.trans L3.ext)).wipe _, rw', ea, fun σ' R' o' => ⟨(o'.2 _ hown).trans wipe_twice, F3, mu3, fr1, st3, k, s5, G3, R', ef, fun F4 mu4 H4 L4 G4 => ?_⟩⟩
    obtain ⟨d3, d4, hD4⟩ := L4.out hD3 d1 d2
    rcases hb with ⟨rfl, eb⟩ | ⟨rfl, rfl, rfl⟩
    · simp only [if_true]
      obtain ⟨ku, vu, s6, eu, ev', hk, rfl⟩ := pr_some eb
      refine ⟨F4, mu4, fr1, s5, ku, s6, G4, R'.mono L4.ext, eu, fun F5 mu5 H5 z L5 G5 rz => ?_⟩
      obtain ⟨d5, d6, hD5⟩ := L5.out hD4 d3 d4
      refine ⟨F5, mu5, fr1, s6, vu, s4, G5, (R'.mono L4.ext).mono L5.ext, ev', fun F6 mu6 H6 z2 L6 G6 rz2 => ?_⟩
      obtain ⟨d7, d8, hD6⟩ := L6.out hD5 d5 d6
      refine ds_of G6 hD6 (ARD.mono _ _ _ _ _ _ ((L4.ext.trans L5.ext).trans L6.ext) ra) ?_ hk (rz.mono L6.ext) rz2 fun o' ra' => ?_
      · have := congrArg List.length et
        simp only [List.length_append, List.length_cons, List.length_nil] at this
        omega
      · exact LInv.next d7 d8 ((((L3.trans L4).trans L5).trans L6).updD hD _) (G6.side d7 d8 _) upd_same ra' ec et
    · simp only [Bool.false_eq_true, if_false]
      exact LInv.next d3 d4 (L3.trans L4) G4 hD4 (by rw [List.append_nil]; exact ARD.mono _ _ _ _ _ _ L4.ext ra) ec et
  · have hi' : i = xs.length := by omega
    obtain ⟨stop, F3, mu3, o, d1, d2, L3, G3, hD3, ob, es, ep, rfl, h1, h2, h3, h4⟩ := inv.stop hi' it
    obtain ⟨F4, mu4, E4, G4, R4, n1, n2⟩ := G3.endD hD3 d1 d2 h1 h2 hDs (Nat.le_trans dctL_len hz) h4 h3 e
    exact .inl ⟨stop, q _ _ _ _ (L1.trans (L3.end hD E4 n1 n2)) G4 R4⟩
theorem dc2_read (hown : ∀ i ∈ ctI t, i ∈ own.map (·.2)) (hown1 : ∀ i ∈ ctI t1, i ∈ own1) : ∀ σ H Q, LE X ca (fun fr st => (fi fr st).bind fun xs => (clL (lcS (own.map (·.2)) t ff (inS fi1 own1 t1 ff1 (pr d fk fv)) fr) xs.1 xs.2).bind fun vs => if vs.1.length ≤ SZ then some (mkD c d (dctL vs.1) vs.2) else none) σ H Q →
    tDcP2 X ca (LI X ca fi) (LG X ca t) (LT X ca ff) (LI X ca fi1) (LG X ca t1) (LT X ca ff1) (LE X ca fk) (LE X ca fv) (own.map (·.2)) own1 σ H Q := by
  rintro σ H Q ⟨F, mu, fr, st, v, st', G, R, e, q⟩
  obtain ⟨xs, s1, e1, e⟩ := bind2 (k := fun xs s1 => (clL (lcS (own.map (·.2)) t ff (inS fi1 own1 t1 ff1 (pr d fk fv)) fr) xs s1).bind fun vs => if vs.1.length ≤ SZ then some (mkD c d (dctL vs.1) vs.2) else none) e
  obtain ⟨vs, s2, e2, e⟩ := bind2 (k := fun (vs : List (PV × PV)) s2 => if vs.length ≤ SZ then some (mkD c d (dctL vs) s2) else none) e
  split at e <;> try contradiction
  rename_i hz
  simp only [Option.some.injEq] at e
  refine ⟨F, mu, fr, st, xs, s1, G, R, e1, fun F1 mu1 H1 J L1 G1 it D hD hDs => ?_⟩
  have m1 := G1.notmem hD
  have f1 := G1.noF hD
  obtain ⟨G1', _⟩ := G1.aside hD (dHO D ob0)
  refine ⟨fun i m H' => m = xs.length - i ∧ i ≤ xs.length ∧ LInv X ca (ARD X D d) F1 mu1 H1 D (lcS (own.map (·.2)) t ff (inS fi1 own1 t1 ff1 (pr d fk fv)) fr) xs vs s2 i H', ⟨xs.length, by simp, Nat.zero_le _, F1, mu1, s1, _, [], vs, m1, f1, Le.refl.updD hD _, G1', upd_same, ⟨ob0, #[], 0, rfl, ⟨rfl, rfl, rfl⟩, rfl, .nil _, List.nodup_nil⟩, e2, rfl⟩, ?_⟩
  rintro i m H2 ⟨rfl, hi, inv⟩
  by_cases hlt : i < xs.length
  · obtain ⟨go, yld⟩ := inv.turn ARD.mono hlt it
    refine .inr ⟨go, LInv X ca (ARD X D d) F1 mu1 H1 D (lcS (own.map (·.2)) t ff (inS fi1 own1 t1 ff1 (pr d fk fv)) fr) xs vs s2 (i + 1), fun H' p => ⟨xs.length - (i + 1), by omega, rfl, hlt, p⟩, fun x H3 y => ?_⟩
    obtain ⟨F3, mu3, st3, o, accP, w, a, s4, b, d1, d2, L3, G3, hD3, ra, rw', es, ec, et⟩ := yld x H3 y
    obtain ⟨fr1, k, s5, ea, ef, hb⟩ := lcS_some es
    refine ⟨F3, mu3, _, st3, w, fr1, G3, (R.mono (L1.ext.trans L3.ext)).wipe _, rw', ea, fun σ' R' o' => ⟨(o'.2 _ hown).trans wipe_twice, F3, mu3, fr1, st3, k, s5, G3, R', ef, fun F4 mu4 H4 L4 G4 => ?_⟩⟩
    obtain ⟨d3, d4, hD4⟩ := L4.out hD3 d1 d2
    rcases hb with ⟨rfl, eb⟩ | ⟨rfl, rfl, rfl⟩
    · simp only [if_true]
      unfold inS at eb
      obtain ⟨ys, s6, e6, eb⟩ := bind2 (k := fun ys s6 => clL (lcS own1 t1 ff1 (pr d fk fv) fr1) ys s6) eb
      refine ⟨F4, mu4, fr1, s5, ys, s6, G4, R'.mono L4.ext, e6, fun F5 mu5 H5 J1 L5 G5 it1 => ?_⟩
      obtain ⟨d5, d6, hD5⟩ := L5.out hD4 d3 d4
      -- the inner loop: the dict has accP already
      refine ⟨fun j m H' => m = ys.length - j ∧ j ≤ ys.length ∧ ∃ F mu st o acc2 rest, D ∉ mu ∧ F D = none ∧ Ext F5 mu5 F mu ∧ Le F1 mu1 H1 F mu H' ∧ Hold X.K X.w ca F mu H' st ∧ H' D = some o ∧ ARD X D d F mu (accP ++ acc2) o ∧ clL (lcS own1 t1 ff1 (pr d fk fv) fr1) (ys.drop j) st = some (rest, s4) ∧ acc2 ++ rest = a,
        ⟨ys.length, by simp, Nat.zero_le _, F5, mu5, s6, _, [], a, d5, d6, .refl, (L3.trans L4).trans L5, G5, hD5, by rw [List.append_nil]; exact ARD.mono _ _ _ _ _ _ (L4.ext.trans L5.ext) ra, eb, rfl⟩, ?_⟩
      rintro j m H6 ⟨rfl, hj, F6, mu6, st6, o6, acc2, rest, d7, d8, E6, L6', G6, hD6, rz, ec6, et6⟩
      obtain ⟨go1, stop1, yld1⟩ := it1 F6 mu6 H6 st6 E6 G6
      by_cases hlt1 : j < ys.length
      · refine .inr ⟨go1 j hlt1, fun H' => ∃ F mu st o acc2 rest, D ∉ mu ∧ F D = none ∧ Ext F5 mu5 F mu ∧ Le F1 mu1 H1 F mu H' ∧ Hold X.K X.w ca F mu H' st ∧ H' D = some o ∧ ARD X D d F mu (accP ++ acc2) o ∧ clL (lcS own1 t1 ff1 (pr d fk fv) fr1) (ys.drop (j + 1)) st = some (rest, s4) ∧ acc2 ++ rest = a, fun H' p => ⟨ys.length - (j + 1), by omega, rfl, hlt1, p⟩, fun x1 H7 y1 => ?_⟩
        obtain ⟨F7, mu7, L7, G7, w1, hw1, rw1⟩ := yld1 j x1 H7 hlt1 y1
        have hw1' : ys[j] = w1 := by rw [List.getElem?_eq_getElem hlt1] at hw1; exact Option.some.inj hw1
        rw [List.drop_eq_getElem_cons hlt1, hw1', clL] at ec6
        obtain ⟨a7, s7, e7, ec6⟩ := bind2 (k := fun a s3 => (clL (lcS own1 t1 ff1 (pr d fk fv) fr1) (ys.drop (j + 1)) s3).map fun q => (a ++ q.1, q.2)) ec6
        obtain ⟨⟨b7, s8⟩, e8, e9⟩ := Option.map_eq_some_iff.mp ec6
        simp only [Prod.mk.injEq] at e9
        obtain ⟨rfl, rfl⟩ := e9
        obtain ⟨d9, d10, hD7⟩ := L7.out hD6 d7 d8
        obtain ⟨fr2, k2, s9, ea2, ef2, hb2⟩ := lcS_some e7
        refine ⟨F7, mu7, _, st6, w1, fr2, G7, ((R'.mono (L4.ext.trans L5.ext)).mono (E6.trans L7.ext)).wipe _, rw1, ea2, fun σ2 R2 o2 => ⟨(o2.2 _ hown1).trans wipe_twice, F7, mu7, fr2, st6, k2, s9, G7, R2, ef2, fun F8 mu8 H8 L8 G8 => ?_⟩⟩
        obtain ⟨d11, d12, hD8⟩ := L8.out hD7 d9 d10
        rcases hb2 with ⟨rfl, eb2⟩ | ⟨rfl, rfl, rfl⟩
        · simp only [if_true]
          obtain ⟨ku, vu, s10, eu, ev', hk, rfl⟩ := pr_some eb2
          refine ⟨F8, mu8, fr2, s9, ku, s10, G8, R2.mono L8.ext, eu, fun F9 mu9 H9 z L9 G9 rz9 => ?_⟩
          obtain ⟨d13, d14, hD9⟩ := L9.out hD8 d11 d12
          refine ⟨F9, mu9, fr2, s10, vu, s7, G9, (R2.mono L8.ext).mono L9.ext, ev', fun F10 mu10 H10 z2 L10 G10 rz10 => ?_⟩
          obtain ⟨d15, d16, hD10⟩ := L10.out hD9 d13 d14
          refine ds_of G10 hD10 (ARD.mono _ _ _ _ _ _ (((L7.ext.trans L8.ext).trans L9.ext).trans L10.ext) rz) ?_ hk (rz9.mono L10.ext) rz10 fun o' ra' => ?_
          · have h1 := congrArg List.length et
            have h2 := congrArg List.length et6
            simp only [List.length_append, List.length_cons, List.length_nil] at h1 h2 ⊢
            omega
          · exact ⟨F10, mu10, s7, _, acc2 ++ [(ku, vu)], b7, d15, d16, E6.trans (((L7.ext.trans L8.ext).trans L9.ext).trans L10.ext), (((((L6'.trans L7).trans L8).trans L9)).trans L10).updD hD _, G10.side d15 d16 _, upd_same, by rw [← List.append_assoc]; exact ra', e8, by rw [List.append_assoc]; exact et6⟩
        · simp only [Bool.false_eq_true, if_false]
          exact ⟨F8, mu8, s9, _, acc2, b7, d11, d12, E6.trans (L7.ext.trans L8.ext), (L6'.trans L7).trans L8, G8, hD8, ARD.mono _ _ _ _ _ _ (L7.ext.trans L8.ext) rz, e8, et6⟩
      · have hj' : j = ys.length := by omega
        subst hj'
        rw [List.drop_length, clL] at ec6
        simp only [Option.some.injEq, Prod.mk.injEq] at ec6
        obtain ⟨rfl, rfl⟩ := ec6
        rw [List.append_nil] at et6
        subst et6
        exact .inl ⟨stop1, LInv.next d7 d8 L6' G6 hD6 rz ec et⟩
    · simp only [Bool.false_eq_true, if_false]
      exact LInv.next d3 d4 (L3.trans L4) G4 hD4 (by rw [List.append_nil]; exact ARD.mono _ _ _ _ _ _ L4.ext ra) ec et
  · have hi' : i = xs.length := by omega
    obtain ⟨stop, F3, mu3, o, d1, d2, L3, G3, hD3, ob, es, ep, rfl, h1, h2, h3, h4⟩ := inv.stop hi' it
    obtain ⟨F4, mu4, E4, G4, R4, n1, n2⟩ := G3.endD hD3 d1 d2 h1 h2 hDs (Nat.le_trans dctL_len hz) h4 h3 e
    exact .inl ⟨stop, q _ _ _ _ (L1.trans (L3.end hD E4 n1 n2)) G4 R4⟩
end
end Pv
end

section
set_option Elab.async false
set_option linter.all false
set_option maxRecDepth 100000
set_option autoImplicit false
namespace Pv
open PySem PySem.Spec PyProof.Rows L2

/-- what a def promises: d of its arguments -/
def SpOf (K : PySem.W.Frag) (w : World) (ca : Str → Option Addr) (d : List PV → Store → Option (PV × Store)) : Sp := fun vs H Q _ => ∃ (F : Hp) (mu : List Addr) (st : Store) (ps : List PV) (r : PV) (st' : Store), Hold K w ca F mu H st ∧ RepL K w F mu ps vs ∧ d ps st = some (r, st') ∧
  ∀ F' mu' H' x, Le F mu H F' mu' H' → Hold K w ca F' mu' H' st' → Rep K w F' mu' r x → Q x H'
section
variable {X : Cx} {ca : Str → Option Addr} {ea eb e o : Expr} {es : List Expr} {pos p apos : Pos} {f : Fr → Store → Option (PV × Store)} {ka : Fr → Store → Option (List PV × Store)} {x m : Str} {d : List PV → Store → Option (PV × Store)} {j k : Nat}
theorem call_read : ∀ σ H Q, LE X ca (fun fr st => (ka fr st).bind fun p => d p.1 p.2) σ H Q → tCall (SpOf X.K X.w ca d) [] C8.E0 (LA X ca ka) σ H Q := by
  rintro σ H Q ⟨F, mu, fr, st, v, st', G, R, e, q⟩
  obtain ⟨vs, s1, e1, e⟩ := bind2 (k := fun vs s1 => d vs s1) e
  exact ⟨F, mu, fr, st, vs, s1, G, R, e1, fun F1 mu1 H1 xs L1 G1 R1 => ⟨F1, mu1, s1, vs, v, st', G1, by rw [List.append_nil]; exact R1, e, fun F2 mu2 H2 z L2 G2 R2 => q F2 mu2 H2 z (L1.trans L2) G2 R2⟩⟩
theorem s_call (c : C8.Cal X.prog X.w X.K X.mg X.base k x (SpOf X.K X.w ca d) []) (hr : Room j X.A) (hk : k ≤ j) (hg : Gl X x) (ha : PA X (e :: es) (LA X ca ka)) (hdb : (x == ("__debug__" : Str)) = false)
    (he : starEach (e :: es) X.env = (false, eval e X.env) :: starEach es X.env) (hpl : (backTo pos (starEach es X.env)).any (·.1) = false) : PE X (.Call (.Name x p) (e :: es) [] pos) (LE X ca fun fr st => (ka fr st).bind fun p => d p.1 p.2) :=
  (C8.pe_c c hr hk hg ha hdb he hpl).weak call_read
theorem s_meth (hne : es ≠ []) {c : Str} {C : Addr} (hC : ca c = some C) (M : C8.Met X.prog X.w X.K X.mg X.base k C m (SpOf X.K X.w ca d) []) (hr : Room j X.A) (hk : k ≤ j) (ho : PE X o (LE X ca f)) (ha : PA X es (LA X ca ka)) {pl : Sem Bool}
    (hst : ∀ e r, es = e :: r → starEach (e :: r) X.env = (false, eval e X.env) :: starEach r X.env) (hpl : ∀ e r, es = e :: r → (backTo pos (starEach r X.env)).any (·.1) = false)
    (ht : eval (.Call (.Attribute o m apos) es [] pos) X.env = (do
      let ov ← eval o X.env
      standAt apos.atName
      let (f, first) ← holding [ov] (getMethod ov m pl)
      callWith pos f first (backTo pos (starEach es X.env)) (backToKw pos (keywordEach [] X.env)))) :
    PE X (.Call (.Attribute o m apos) es [] pos) (LE X ca fun fr st => (f fr st).bind fun x => match insOf x.2 x.1 with
      | some (c', fs) => if c' = c ∧ fs.lookup m = none then (ka fr x.2).bind fun p => d (x.1 :: p.1) p.2 else none
      | none => none) := by
  match es, hne with
  | e :: r, _ =>
    refine (C8.pe_mt M hr hk ho ha (hst e r rfl) (hpl e r rfl) ht).weak fun σ H Q ⟨F, mu, fr, st, v, st', G, R, e', q⟩ => ?_
    obtain ⟨x, s1, e1, e2'⟩ := bind2 (k := fun (x : PV) (s1 : Store) => match insOf s1 x with
      | some (c', fs) => if c' = c ∧ fs.lookup m = none then (ka fr s1).bind fun p => d (x :: p.1) p.2 else none
      | none => none) e'
    clear e'
    split at e2' <;> try contradiction
    rename_i c' fs hi
    split at e2' <;> try contradiction
    rename_i hc
    obtain ⟨rfl, hl⟩ := hc
    obtain ⟨vs, s2, e2, e3'⟩ := bind2 (k := fun vs s2 => d (x :: vs) s2) e2'
    refine ⟨F, mu, fr, st, x, s1, G, R, e1, fun F1 mu1 H1 a L1 G1 R1 => ?_⟩
    obtain ⟨n, q1, C', dx, gs, rfl, rfl, h1, h2, h3, h4, h5⟩ := repI G1 R1 hi
    rw [hC] at h4; cases h4
    refine ⟨q1, dx, gs, rfl, h3, h5.look_none hl, F1, mu1, fr, s1, vs, s2, G1, R.mono L1.ext, e2, fun F2 mu2 H2 xs L2 G2 R2 => ?_⟩
    exact ⟨F2, mu2, s2, _, v, st', G2, by rw [List.append_nil]; exact .cons (R1.mono L2.ext) R2, e3', fun F3 mu3 H3 z L3 G3 R3 => q F3 mu3 H3 z ((L1.trans L2).trans L3) G3 R3⟩
theorem s_mk {c : Str} {C : Addr} (hC : ca c = some C) (M : C8.Mak X.prog X.w X.K X.mg X.base k x C (SpOf X.K X.w ca d) []) (hr : Room j X.A) (hk : k + 1 ≤ j) (hg : Gl X x) (ha : PA X (e :: es) (LA X ca ka)) (hdb : (x == ("__debug__" : Str)) = false)
    (he : starEach (e :: es) X.env = (false, eval e X.env) :: starEach es X.env) (hpl : (backTo pos (starEach es X.env)).any (·.1) = false) :
    PE X (.Call (.Name x p) (e :: es) [] pos) (LE X ca fun fr st => (ka fr st).bind fun p => (d (.loc p.2.length :: p.1) (p.2 ++ [.ins c []])).bind fun q => if q.1 = .non then some (.loc p.2.length, q.2) else none) := by
  refine (C8.pe_mk M hr hk hg ha hdb he hpl).weak fun σ H Q ⟨F, mu, fr, st, v, st', G, R, e', q⟩ => ?_
  obtain ⟨vs, s1, e1, e'⟩ := bind2 (k := fun vs (s1 : Store) => (d (.loc s1.length :: vs) (s1 ++ [.ins c []])).bind fun q => if q.1 = .non then some (PV.loc s1.length, q.2) else none) e'
  obtain ⟨r, s2, e2, e'⟩ := bind2 (k := fun (r : PV) s2 => if r = .non then some (PV.loc s1.length, s2) else none) e'
  split at e' <;> try contradiction
  rename_i hr'
  subst hr'
  simp only [Option.some.injEq, Prod.mk.injEq] at e'
  obtain ⟨rfl, rfl⟩ := e'
  refine ⟨F, mu, fr, st, vs, s1, G, R, e1, fun F1 mu1 H1 xs L1 G1 R1 => fun a dx ha hdx hne => ?_⟩
  obtain ⟨G2, L2⟩ := G1.aside hdx (.own a)
  have ha' : upd H1 dx (.own a) a = none := by rw [upd_ne (Ne.symm hne)]; exact ha
  obtain ⟨G3, L3⟩ := G2.aside ha' (.ins C dx [])
  obtain ⟨G4, E4⟩ := G3.cell (p := a) (o := .ins C dx []) (c := .ins c []) upd_same (G2.notmem ha') (G2.noF ha') ⟨C, dx, [], hC, rfl, .nil⟩
  have L4 : Le F1 mu1 H1 F1 (mu1 ++ [a]) (upd (upd H1 dx (.own a)) a (.ins C dx [])) := by
    have L23 := L2.trans L3
    refine ⟨E4, fun b u e => .inl e, fun b h => ?_, L23.keep, L23.stay⟩
    rcases List.mem_append.mp h with h | h
    · exact .inl h
    · simp at h; subst h; exact .inr ha
  have rl : Rep X.K X.w F1 (mu1 ++ [a]) (.loc s1.length) (.ref a) := .loc (by rw [← G1.len]; simp)
  refine ⟨F1, mu1 ++ [a], _, _, .non, s2, G4, by rw [List.append_nil]; exact .cons rl (R1.mono E4), e2, fun F5 mu5 H5 z L5 G5 R5 => ?_⟩
  cases R5
  exact ⟨rfl, q F5 mu5 H5 _ ((L1.trans L4).trans L5) G5 (rl.mono L5.ext)⟩
/-- a test a op b op c -/
theorem st_cmp2 (hu : X.A.units + 70 < cLine) {o p : Cop} {g h : Fr → Store → Option (PV × Store)} {ec : Expr} (ha : PE X ea (LE X ca f)) (hb : PE X eb (LE X ca g)) (hc : PE X ec (LE X ca h)) (hm : lastMarks [copO o, copO p] [eb, ec] = false) : PT X (.Compare ea [copO o, copO p] [eb, ec] pos)
    (LT X ca (asT fun fr st => (f fr st).bind fun x => (g fr x.2).bind fun y => (cmpP o x.1 y.1 y.2).bind fun k => if k then (h fr y.2).bind fun z => (cmpP p y.1 z.1 z.2).map fun c => (.bl c, z.2) else some (.bl false, y.2))) :=
  (pt_chain (op_cmp (ca := ca) hu o) (op_cmp (ca := ca) hu p) ha hb hc hm).weak fun σ H Q ⟨F, mu, fr, st, v, st', G, R, e, q⟩ => by
    have e := asT_some e
    obtain ⟨x, s1, e1, e⟩ := bind2 (k := fun x s1 => (g fr s1).bind fun y => (cmpP o x y.1 y.2).bind fun k => if k then (h fr y.2).bind fun z => (cmpP p y.1 z.1 z.2).map fun c => (PV.bl c, z.2) else some (PV.bl false, y.2)) e
    obtain ⟨y, s2, e2, e⟩ := bind2 (k := fun y s2 => (cmpP o x y s2).bind fun k => if k then (h fr s2).bind fun z => (cmpP p y z.1 z.2).map fun c => (PV.bl c, z.2) else some (PV.bl false, s2)) e
    obtain ⟨k, e3, e⟩ := Option.bind_eq_some_iff.mp e
    refine ⟨F, mu, fr, st, x, s1, G, R, e1, fun F1 mu1 H1 a L1 G1 R1 => ⟨F1, mu1, fr, s1, y, s2, G1, R.mono L1.ext, e2, fun F2 mu2 H2 b L2 G2 R2 => ⟨F2, mu2, s2, x, y, k, G2, R1.mono L2.ext, R2, e3, k, rfl, ?_⟩⟩⟩
    cases k with
    | false =>
      simp only [Bool.false_eq_true, if_false, Option.some.injEq, Prod.mk.injEq, PV.bl.injEq] at e ⊢
      obtain ⟨rfl, rfl⟩ := e
      exact ⟨_, rfl, q F2 mu2 H2 (L1.trans L2) G2⟩
    | true =>
      simp only [if_true] at e ⊢
      obtain ⟨z, s3, e4, e⟩ := bind2 (k := fun z s3 => (cmpP p y z s3).map fun c => (PV.bl c, s3)) e
      obtain ⟨c, e5, e6⟩ := Option.map_eq_some_iff.mp e
      cases e6
      refine ⟨F2, mu2, fr, s2, z, st', G2, (R.mono L1.ext).mono L2.ext, e4, fun F3 mu3 H3 d L3 G3 R3 => ⟨F3, mu3, st', y, z, _, G3, R2.mono L3.ext, R3, e5, ?_⟩⟩
      exact ⟨_, rfl, q F3 mu3 H3 ((L1.trans L2).trans L3) G3⟩
end

/-! ### a def by its body -/
section
variable {K : PySem.W.Frag} {w : World} {ca : Str → Option Addr} {F : Hp} {mu mu' : List Addr}
mutual
/-- a value without cells stands for the same, whatever the cells are -/
theorem Rep.lf : ∀ {v : PV} {x : V}, Pv.lf v = true → Rep K w F mu v x → Rep K w F mu' v x
  | .non, _, _, r => by cases r; exact .non
  | .bl b, _, _, r => by cases r; exact .bl b
  | .int b, _, _, r => by cases r; exact .int b
  | .str b, _, _, r => by cases r; exact .str b
  | .tup l, _, h, r => by
    rw [Pv.lf] at h
    cases r with
    | tup h1 r1 => exact .tup h1 (RepL.lf h r1)
  | .lst l, _, h, r => by
    rw [Pv.lf] at h
    cases r with
    | lst h1 r1 => exact .lst h1 (RepL.lf h r1)
  | .fz l, _, h, r => by
    rw [Pv.lf] at h
    cases r with
    | fz h1 r1 => exact .fz h1 (RepL.lf h r1)
  | .dct t l, _, h, r => by
    rw [Pv.lf] at h
    cases r with
    | dct h1 h2 h3 h4 h5 h6 r1 => exact .dct h1 h2 h3 h4 h5 h6 (Ents.lf h r1)
  | .loc n, _, h, _ => by simp [Pv.lf] at h
theorem RepL.lf : ∀ {l : List PV} {xs : List V}, Pv.lfL l = true → RepL K w F mu l xs → RepL K w F mu' l xs
  | [], _, _, r => by cases r; exact .nil
  | a :: l, _, h, r => by
    rw [Pv.lfL, Bool.and_eq_true] at h
    cases r with
    | cons r1 r2 => exact .cons (Rep.lf h.1 r1) (RepL.lf h.2 r2)
theorem Ents.lf {t : Bool} : ∀ {l : List (PV × PV)} {es : List DictEntry}, Pv.lfD l = true → Ents K w F mu t l es → Ents K w F mu' t l es
  | [], _, _, r => by cases r; exact .nil t
  | (a, b) :: l, _, h, r => by
    rw [Pv.lfD, Bool.and_eq_true, Bool.and_eq_true] at h
    cases r with
    | cons k1 k2 k3 k4 k5 k6 r2 => exact .cons k1 k2 k3 (Rep.lf h.1.1 k4) k5 (Rep.lf h.1.2 k6) (Ents.lf h.2 r2)
end
theorem Hold.alone {H : Hp} {st : Store} (G : Hold K w ca F mu H st) : Hold K w ca F [] H [] := ⟨rfl, List.nodup_nil, fun a h => (by cases h), fun a o e => ⟨(G.fz a o e).1, fun n h => (by simp at h)⟩, fun n a c h => (by simp at h)⟩
/-- back from a def that saw no cells -/
theorem Hold.back {H H1 : Hp} {st st1 : Store} {F1 : Hp} {mu1 : List Addr} (G : Hold K w ca F mu H st) (L : Le F [] H F1 mu1 H1) (G1 : Hold K w ca F1 mu1 H1 st1) : Hold K w ca F1 mu H1 st ∧ Le F mu H F1 mu H1 := by
  have ex : Ext F mu F1 mu := ⟨L.ext.sub, fun _ _ h => h⟩
  have kp : ∀ a o, H a = some o → H1 a = some o := fun a o e => L.keep a o e (by simp)
  refine ⟨⟨G.len, G.nd, fun a m => let ⟨o, e⟩ := G.there a m; ⟨o, kp a o e⟩, fun a o e => ⟨(G1.fz a o e).1, fun n hn => ?_⟩, fun n a c e1 e2 => let ⟨o, e3, e4⟩ := G.cl n a c e1 e2; ⟨o, kp a o e3, e4.mono ex⟩⟩,
    ⟨ex, fun a o e => ?_, fun a h => .inl h, fun a o e _ => kp a o e, fun a o e => ⟨o, kp a o e⟩⟩⟩
  · rcases L.new a o e with z | z | z
    · exact (G.fz a o z).2 n hn
    · exact absurd (List.mem_of_getElem? hn) (G.notmem z)
    · cases z
  · rcases L.new a o e with z | z | z
    · exact .inl z
    · exact .inr (.inl z)
    · cases z
end
end Pv
end

section
set_option Elab.async false
set_option linter.all false
set_option maxRecDepth 100000
set_option autoImplicit false
namespace Pv
open PySem PySem.Spec PyProof.Rows L2

/-- how a piece of code ends -/
def FlQ (K : PySem.W.Frag) (w : World) (D : Ends) (F : Hp) (mu : List Addr) (H : Hp) (σ : L2.St) : Fl → Prop
  | .nx => D.nx σ H
  | .brk => D.bk σ H
  | .cnt => D.ct σ H
  | .ret v => ∀ x, Rep K w F mu v x → D.rt x H
def LS (X : Cx) (ca : Str → Option Addr) (f : Fr → Store → Option (Fl × Fr × Store)) : TS := fun D σ H => ∃ (F : Hp) (mu : List Addr) (fr : Fr) (st : Store) (fl : Fl) (fr' : Fr) (st' : Store), Hold X.K X.w ca F mu H st ∧ FrR X.K X.w F mu fr σ ∧ f fr st = some (fl, fr', st') ∧
  ∀ F' mu' H' σ', Le F mu H F' mu' H' → Hold X.K X.w ca F' mu' H' st' → FrR X.K X.w F' mu' fr' σ' → FlQ X.K X.w D F' mu' H' σ' fl
theorem _root_.L2.PS.weak {X : Cx} {e : Stmt} {t t' : TS} (h : PS X e t) (k : ∀ D σ H, t' D σ H → t D σ H) : PS X e t' := ⟨fun pins s σ H D I q => h.run pins s σ H D I (k _ _ _ q)⟩
theorem _root_.L2.PSs.weak {X : Cx} {e : List Stmt} {t t' : TS} (h : PSs X e t) (k : ∀ D σ H, t' D σ H → t D σ H) : PSs X e t' := ⟨fun pins s σ H D I q => h.run pins s σ H D I (k _ _ _ q)⟩
theorem bind3 {α β γ δ : Type} {a : Option (α × β × γ)} {k : α → β → γ → Option δ} {r : δ} (h : (a.bind fun p => k p.1 p.2.1 p.2.2) = some r) : ∃ x y z, a = some (x, y, z) ∧ k x y z = some r := by
  cases a with
  | none => cases h
  | some p => exact ⟨p.1, p.2.1, p.2.2, rfl, h⟩
section
variable {X : Cx} {ca : Str → Option Addr} {e o i : Expr} {pos : Pos} {f g h : Fr → Store → Option (PV × Store)}
/-- one step -/
def thenS (f g : Fr → Store → Option (Fl × Fr × Store)) : Fr → Store → Option (Fl × Fr × Store) := fun fr st => (f fr st).bind fun p => match p.1 with
  | .nx => g p.2.1 p.2.2
  | .cnt => some (.cnt, p.2.1, p.2.2)
  | .brk => some (.brk, p.2.1, p.2.2)
  | .ret v => some (.ret v, p.2.1, p.2.2)
theorem ss_nil : PSs X [] (LS X ca fun fr st => some (.nx, fr, st)) := pss_nil.weak fun D σ H ⟨F, mu, fr, st, fl, fr', st', G, R, e, q⟩ => by
  simp only [Option.some.injEq, Prod.mk.injEq] at e
  obtain ⟨rfl, rfl, rfl⟩ := e
  exact q F mu H σ .refl G R
theorem ss_cons {s : Stmt} {r : List Stmt} {f g : Fr → Store → Option (Fl × Fr × Store)} (h1 : PS X s (LS X ca f)) (h2 : PSs X r (LS X ca g)) : PSs X (s :: r) (LS X ca (thenS f g)) := (pss_cons h1 h2).weak fun D σ H ⟨F, mu, fr, st, fl, fr', st', G, R, e, q⟩ => by
  unfold thenS at e
  obtain ⟨fl1, fr1, s1, e1, e⟩ := bind3 (k := fun (fl1 : Fl) fr1 s1 => match fl1 with
    | .nx => g fr1 s1
    | .cnt => some (.cnt, fr1, s1)
    | .brk => some (.brk, fr1, s1)
    | .ret v => some (.ret v, fr1, s1)) e
  refine ⟨F, mu, fr, st, fl1, fr1, s1, G, R, e1, fun F1 mu1 H1 σ1 L1 G1 R1 => ?_⟩
  cases fl1 with
  | nx => exact ⟨F1, mu1, fr1, s1, fl, fr', st', G1, R1, e, fun F2 mu2 H2 σ2 L2 G2 R2 => q F2 mu2 H2 σ2 (L1.trans L2) G2 R2⟩
  | brk =>
    simp only [Option.some.injEq, Prod.mk.injEq] at e
    obtain ⟨rfl, rfl, rfl⟩ := e
    exact q F1 mu1 H1 σ1 L1 G1 R1
  | cnt =>
    simp only [Option.some.injEq, Prod.mk.injEq] at e
    obtain ⟨rfl, rfl, rfl⟩ := e
    exact q F1 mu1 H1 σ1 L1 G1 R1
  | ret v =>
    simp only [Option.some.injEq, Prod.mk.injEq] at e
    obtain ⟨rfl, rfl, rfl⟩ := e
    exact q F1 mu1 H1 σ1 L1 G1 R1
theorem ss_never {l : List Stmt} {g : Fr → Store → Option (Fl × Fr × Store)} : PSs X l (LS X ca (thenS (fun _ _ => none) g)) := pss_never.weak fun D σ H ⟨F, mu, fr, st, fl, fr', st', G, R, e, q⟩ => by cases e
/-! a cell that is to change no more -/
def frzS (i : Nat) : Fr → Store → Option (Fl × Fr × Store) := fun fr st => match fr[i]? with
  | some (some v) => (frzV 30 v st).map fun p => (.nx, fr.set i (some p.1), p.2)
  | _ => none
theorem Hold.freeze {K : PySem.W.Frag} {w : World} {F : Hp} {mu : List Addr} {H : Hp} {st : Store} {n : Nat} {a : Addr} {u : HO} (G : Hold K w ca F mu H st) (hm : mu[n]? = some a) (hu : H a = some u) (hF : F a = none) : Hold K w ca (upd F a u) mu H (st.set n .dead) ∧ Le F mu H (upd F a u) mu H := by
  have ex : Ext F mu (upd F a u) mu := ⟨fun b v e => by rw [upd_ne (ne_of_none e hF)]; exact e, fun _ _ e => e⟩
  have hn : n < st.length := by rw [← G.len]; exact (List.getElem?_eq_some_iff.mp hm).1
  refine ⟨⟨by rw [List.length_set]; exact G.len, G.nd, G.there, fun b v e => ?_, fun m b c e1 e2 => ?_⟩, ex, fun b v e => ?_, fun b h => .inl h, fun b v e _ => e, fun b v e => ⟨v, e⟩⟩
  · by_cases z : b = a
    · subst z
      rw [upd_same] at e; cases e
      refine ⟨hu, fun m hm' => ?_⟩
      obtain ⟨k1, k2⟩ := List.getElem?_eq_some_iff.mp hm
      obtain ⟨k3, k4⟩ := List.getElem?_eq_some_iff.mp hm'
      have : m = n := (List.getElem_inj G.nd).mp (k4.trans k2.symm)
      subst this
      exact ⟨_, List.getElem?_set_self hn, rfl⟩
    · rw [upd_ne z] at e
      obtain ⟨k1, k2⟩ := G.fz b v e
      refine ⟨k1, fun m hm' => ?_⟩
      by_cases z2 : n = m
      · subst z2; exact ⟨_, List.getElem?_set_self hn, rfl⟩
      · rw [List.getElem?_set_ne z2]; exact k2 m hm'
  · by_cases z : n = m
    · subst z
      rw [List.getElem?_set_self hn] at e2; cases e2
      exact let ⟨o, eo⟩ := G.there b (List.mem_of_getElem? e1); ⟨o, eo, trivial⟩
    · rw [List.getElem?_set_ne z] at e2
      obtain ⟨o, k1, k2⟩ := G.cl m b c e1 e2
      exact ⟨o, k1, k2.mono ex⟩
  · by_cases z : b = a
    · subst z; exact .inr (.inr (List.mem_of_getElem? hm))
    · rw [upd_ne z] at e; exact .inl e
/-- what a freezing keeps -/
def FrzOk (X : Cx) (ca : Str → Option Addr) (f : PV → Store → Option (PV × Store)) : Prop := ∀ (F : Hp) (mu : List Addr) (H : Hp) (st st' : Store) (v u : PV) (x : V), Hold X.K X.w ca F mu H st → Rep X.K X.w F mu v x → f v st = some (u, st') → ∃ F', Le F mu H F' mu H ∧ Hold X.K X.w ca F' mu H st' ∧ Rep X.K X.w F' mu u x
theorem frzL_ok {f : PV → Store → Option (PV × Store)} (hf : FrzOk X ca f) : ∀ (l : List PV) (F : Hp) (mu : List Addr) (H : Hp) (st st' : Store) (m : List PV) (xs : List V), Hold X.K X.w ca F mu H st → RepL X.K X.w F mu l xs → frzL f l st = some (m, st') → ∃ F', Le F mu H F' mu H ∧ Hold X.K X.w ca F' mu H st' ∧ RepL X.K X.w F' mu m xs
  | [], F, mu, H, st, st', m, xs, G, r, h => by
    simp only [frzL, Option.some.injEq, Prod.mk.injEq] at h
    obtain ⟨rfl, rfl⟩ := h
    exact ⟨F, .refl, G, r⟩
  | a :: l, F, mu, H, st, st', m, xs, G, r, h => by
    cases r with
    | cons ra rl =>
      simp only [frzL] at h
      obtain ⟨b, s1, e1, h⟩ := bind2 (k := fun (b : PV) (s1 : Store) => (frzL f l s1).map fun (c, s2) => (b :: c, s2)) h
      obtain ⟨p, e2, e3⟩ := Option.map_eq_some_iff.mp h
      obtain ⟨c, s2⟩ := p
      simp only [Prod.mk.injEq] at e3
      obtain ⟨rfl, rfl⟩ := e3
      obtain ⟨F1, L1, G1, r1⟩ := hf F mu H st s1 a b _ G ra e1
      obtain ⟨F2, L2, G2, r2⟩ := frzL_ok hf l F1 mu H s1 s2 c _ G1 (rl.mono L1.ext) e2
      exact ⟨F2, L1.trans L2, G2, .cons (r1.mono L2.ext) r2⟩
theorem frzD_keys {f : PV → Store → Option (PV × Store)} : ∀ (l : List (PV × PV)) (st st' : Store) (m : List (PV × PV)), frzD f l st = some (m, st') → m.map (·.1) = l.map (·.1)
  | [], st, st', m, h => by
    simp only [frzD, Option.some.injEq, Prod.mk.injEq] at h
    obtain ⟨rfl, rfl⟩ := h
    rfl
  | a :: l, st, st', m, h => by
    simp only [frzD] at h
    obtain ⟨b, s1, e1, h⟩ := bind2 (k := fun (b : PV) (s1 : Store) => (frzD f l s1).map fun (c, s2) => ((a.1, b) :: c, s2)) h
    obtain ⟨p, e2, e3⟩ := Option.map_eq_some_iff.mp h
    obtain ⟨c, s2⟩ := p
    simp only [Prod.mk.injEq] at e3
    obtain ⟨rfl, rfl⟩ := e3
    simp only [List.map_cons, frzD_keys l s1 s2 c e2]
theorem frzD_ok {f : PV → Store → Option (PV × Store)} (hf : FrzOk X ca f) (t : Bool) : ∀ (l : List (PV × PV)) (F : Hp) (mu : List Addr) (H : Hp) (st st' : Store) (m : List (PV × PV)) (es : List DictEntry), Hold X.K X.w ca F mu H st → Ents X.K X.w F mu t l es → frzD f l st = some (m, st') → ∃ F', Le F mu H F' mu H ∧ Hold X.K X.w ca F' mu H st' ∧ Ents X.K X.w F' mu t m es
  | [], F, mu, H, st, st', m, xs, G, r, h => by
    simp only [frzD, Option.some.injEq, Prod.mk.injEq] at h
    obtain ⟨rfl, rfl⟩ := h
    exact ⟨F, .refl, G, r⟩
  | a :: l, F, mu, H, st, st', m, xs, G, r, h => by
    simp only [frzD] at h
    obtain ⟨b, s1, e1, h⟩ := bind2 (k := fun (b : PV) (s1 : Store) => (frzD f l s1).map fun (c, s2) => ((a.1, b) :: c, s2)) h
    cases r with
    | cons hk hh rk pk rv pv rl =>
      obtain ⟨p, e2, e3⟩ := Option.map_eq_some_iff.mp h
      obtain ⟨c, s2⟩ := p
      simp only [Prod.mk.injEq] at e3
      obtain ⟨rfl, rfl⟩ := e3
      obtain ⟨F1, L1, G1, r1⟩ := hf F mu H st s1 _ b _ G pv e1
      obtain ⟨F2, L2, G2, r2⟩ := frzD_ok hf t l F1 mu H s1 s2 c _ G1 (rl.mono L1.ext) e2
      exact ⟨F2, L1.trans L2, G2, .cons hk hh rk (pk.mono (L1.trans L2).ext) rv (r1.mono L2.ext) r2⟩
theorem frz_ok : ∀ (k : Nat), FrzOk X ca (frzV k)
  | 0 => fun F mu H st st' v u x G r h => by cases h
  | k + 1 => fun F mu H st st' v u x G r h => by
    have ih : FrzOk X ca (frzV k) := frz_ok k
    cases v with
    | loc n =>
      simp only [frzV] at h
      cases r with
      | @loc _ a hm =>
        split at h <;> try contradiction
        · rename_i l hl
          obtain ⟨p, e2, e3⟩ := Option.map_eq_some_iff.mp h
          obtain ⟨c, s2⟩ := p
          simp only [Prod.mk.injEq] at e3
          obtain ⟨rfl, rfl⟩ := e3
          obtain ⟨o, e1, ys, rfl, rl⟩ := G.cl n a _ hm hl
          obtain ⟨G1, L1⟩ := G.freeze hm e1 (G.live hm hl rfl)
          obtain ⟨F2, L2, G2, r2⟩ := frzL_ok ih l _ mu H _ s2 c _ G1 (rl.mono L1.ext) e2
          exact ⟨F2, L1.trans L2, G2, .lst (L2.ext.sub _ _ upd_same) r2⟩
        · rename_i t kvs hl
          obtain ⟨p, e2, e3⟩ := Option.map_eq_some_iff.mp h
          obtain ⟨c, s2⟩ := p
          simp only [Prod.mk.injEq] at e3
          obtain ⟨rfl, rfl⟩ := e3
          obtain ⟨o, e1, ob, es, ep, rfl, c1, c2, c3, c4, c5, c6⟩ := G.cl n a _ hm hl
          obtain ⟨G1, L1⟩ := G.freeze hm e1 (G.live hm hl rfl)
          obtain ⟨F2, L2, G2, r2⟩ := frzD_ok ih t kvs _ mu H _ s2 c _ G1 (c6.mono L1.ext) e2
          have hk := frzD_keys kvs _ s2 c e2
          refine ⟨F2, L1.trans L2, G2, .dct (L2.ext.sub _ _ upd_same) c1 c2 c3 ?_ (hk ▸ c5) r2⟩
          have := congrArg List.length hk
          simp only [List.length_map] at this
          omega
    | tup b =>
      simp only [frzV] at h
      obtain ⟨p, e2, e3⟩ := Option.map_eq_some_iff.mp h
      obtain ⟨c, s2⟩ := p
      simp only [Prod.mk.injEq] at e3
      obtain ⟨rfl, rfl⟩ := e3
      cases r with
      | tup hq rl =>
        obtain ⟨F2, L2, G2, r2⟩ := frzL_ok ih b _ mu H _ s2 c _ G rl e2
        exact ⟨F2, L2, G2, .tup (L2.ext.sqT hq) r2⟩
    | lst b =>
      simp only [frzV] at h
      obtain ⟨p, e2, e3⟩ := Option.map_eq_some_iff.mp h
      obtain ⟨c, s2⟩ := p
      simp only [Prod.mk.injEq] at e3
      obtain ⟨rfl, rfl⟩ := e3
      cases r with
      | lst hq rl =>
        obtain ⟨F2, L2, G2, r2⟩ := frzL_ok ih b _ mu H _ s2 c _ G rl e2
        exact ⟨F2, L2, G2, .lst (L2.ext.sub _ _ hq) r2⟩
    | dct t kvs =>
      simp only [frzV] at h
      obtain ⟨p, e2, e3⟩ := Option.map_eq_some_iff.mp h
      obtain ⟨c, s2⟩ := p
      simp only [Prod.mk.injEq] at e3
      obtain ⟨rfl, rfl⟩ := e3
      cases r with
      | dct hq ho hd hs hz hn rl =>
        obtain ⟨F2, L2, G2, r2⟩ := frzD_ok ih t kvs _ mu H _ s2 c _ G rl e2
        have hk := frzD_keys kvs _ s2 c e2
        refine ⟨F2, L2, G2, .dct (L2.ext.sub _ _ hq) ho hd hs ?_ (hk ▸ hn) r2⟩
        have := congrArg List.length hk
        simp only [List.length_map] at this
        omega
    | non => simp only [frzV, Option.some.injEq, Prod.mk.injEq] at h; obtain ⟨rfl, rfl⟩ := h; exact ⟨F, .refl, G, r⟩
    | bl b => simp only [frzV, Option.some.injEq, Prod.mk.injEq] at h; obtain ⟨rfl, rfl⟩ := h; exact ⟨F, .refl, G, r⟩
    | int b => simp only [frzV, Option.some.injEq, Prod.mk.injEq] at h; obtain ⟨rfl, rfl⟩ := h; exact ⟨F, .refl, G, r⟩
    | str b => simp only [frzV, Option.some.injEq, Prod.mk.injEq] at h; obtain ⟨rfl, rfl⟩ := h; exact ⟨F, .refl, G, r⟩
    | fz b => simp only [frzV, Option.some.injEq, Prod.mk.injEq] at h; obtain ⟨rfl, rfl⟩ := h; exact ⟨F, .refl, G, r⟩
theorem FrR.re {K : PySem.W.Frag} {w : World} {F : Hp} {mu : List Addr} {fr : Fr} {σ : L2.St} (h : FrR K w F mu fr σ) {i : Nat} {u : PV} {x : V} (hx : σ[i]? = some (some x)) (r : Rep K w F mu u x) : FrR K w F mu (fr.set i (some u)) σ := by
  have := FrR.set h (i := i) r
  have e : σ.set i (some x) = σ := by
    apply List.ext_getElem?
    intro j
    by_cases z : i = j
    · subst z; rw [List.getElem?_set_self (List.getElem?_eq_some_iff.mp hx).1]; exact hx.symm
    · rw [List.getElem?_set_ne z]
  rw [e] at this
  exact this
theorem ss_frz {l : List Stmt} {i : Nat} {g : Fr → Store → Option (Fl × Fr × Store)} (h : PSs X l (LS X ca g)) : PSs X l (LS X ca (thenS (frzS i) g)) := h.weak fun D σ H ⟨F, mu, fr, st, fl, fr', st', G, R, e, q⟩ => by
  unfold thenS at e
  obtain ⟨fl1, fr1, s1, e1, e⟩ := bind3 (k := fun (fl1 : Fl) fr1 s1 => match fl1 with
    | .nx => g fr1 s1
    | .cnt => some (.cnt, fr1, s1)
    | .brk => some (.brk, fr1, s1)
    | .ret v => some (.ret v, fr1, s1)) e
  unfold frzS at e1
  split at e1 <;> try contradiction
  rename_i v hv
  obtain ⟨p, e2, e3⟩ := Option.map_eq_some_iff.mp e1
  simp only [Prod.mk.injEq] at e3
  obtain ⟨rfl, rfl, rfl⟩ := e3
  obtain ⟨x, hx, rx⟩ := R.2 i v hv
  obtain ⟨F', L', G', r'⟩ := frz_ok 30 F mu H st p.2 v p.1 x G rx e2
  exact ⟨F', mu, _, p.2, fl, fr', st', G', (R.mono L'.ext).re hx r', e, fun F2 mu2 H2 σ2 L2 G2 R2 => q F2 mu2 H2 σ2 (L'.trans L2) G2 R2⟩

/-! ### single statements -/
theorem sx_ex (he : PE X e (LE X ca f)) (hs : swapsWith e none pos.line X.env = pure false) : PS X (.Expr e pos) (LS X ca fun fr st => (f fr st).map fun p => (.nx, fr, p.2)) := (ps_expr he hs).weak fun D σ H ⟨F, mu, fr, st, fl, fr', st', G, R, e, q⟩ => by
  obtain ⟨p, e1, e2⟩ := Option.map_eq_some_iff.mp e
  simp only [Prod.mk.injEq] at e2
  obtain ⟨rfl, rfl, rfl⟩ := e2
  exact ⟨F, mu, fr, st, p.1, p.2, G, R, e1, fun F1 mu1 H1 x L1 G1 R1 => q F1 mu1 H1 σ L1 G1 (R.mono L1.ext)⟩
def setS (t : CT) (f : Fr → Store → Option (PV × Store)) : Fr → Store → Option (Fl × Fr × Store) := fun fr st => (f fr st).bind fun p => (asgT t p.1 fr).map fun fr1 => (.nx, fr1, p.2)
theorem setS_some {t : CT} {f : Fr → Store → Option (PV × Store)} {fr : Fr} {st : Store} {fl : Fl} {fr' : Fr} {st' : Store} (h : setS t f fr st = some (fl, fr', st')) : ∃ v, f fr st = some (v, st') ∧ asgT t v fr = some fr' ∧ fl = .nx := by
  unfold setS at h
  obtain ⟨v, s1, e1, e2⟩ := bind2 (k := fun v s1 => (asgT t v fr).map fun fr1 => (Fl.nx, fr1, s1)) h
  obtain ⟨fr1, e3, e4⟩ := Option.map_eq_some_iff.mp e2
  simp only [Prod.mk.injEq] at e4
  obtain ⟨rfl, rfl, rfl⟩ := e4
  exact ⟨v, e1, e3, rfl⟩
/-- any target -/
theorem sx_asg {t : CT} {tg : Expr} (he : PE X e (LE X ca f)) (hg : PG X tg (LG X ca t)) (hs : swapsWithSole [tg] e pos.line X.env = pure false) (hw : swappedStores [tg] e X.env = pure none) (h1 : (assignEach [tg] X.env).map (·.2) = [assign tg X.env]) : PS X (.Assign [tg] e pos) (LS X ca (setS t f)) :=
  (ps_asg he hg hs hw h1).weak fun D σ H ⟨F, mu, fr, st, fl, fr', st', G, R, e, q⟩ => by
    obtain ⟨v, e1, e2, rfl⟩ := setS_some e
    exact ⟨F, mu, fr, st, v, st', G, R, e1, fun F1 mu1 H1 x L1 G1 R1 => ⟨F1, mu1, fr, st', v, fr', G1, R.mono L1.ext, R1, e2, fun σ' R' _ => q F1 mu1 H1 σ' L1 G1 R'⟩⟩
/-- a name, by any reading of the value -/
theorem set_read {k : Nat} {te : TE} (hr : ∀ σ H Q, LE X ca f σ H Q → te σ H Q) : ∀ D σ H, LS X ca (setS (.nm k) f) D σ H → tAsg te (gName k) D σ H := fun D σ H ⟨F, mu, fr, st, fl, fr', st', G, R, e, q⟩ => by
  obtain ⟨v, e1, e2, rfl⟩ := setS_some e
  refine hr σ H _ ⟨F, mu, fr, st, v, st', G, R, e1, fun F1 mu1 H1 x L1 G1 R1 => ?_⟩
  simp only [asgT] at e2
  split at e2 <;> try contradiction
  simp only [Option.some.injEq] at e2; subst e2
  exact q F1 mu1 H1 _ L1 G1 ((R.mono L1.ext).set R1)
theorem sx_set {k : Nat} {x : Str} {pos' : Pos} (hN : X.N.Nodup) (hi : X.N[k]? = some x) (hx : Loc X.env.scope x) (he : PE X e (LE X ca f)) (hs : swapsWith e (some (.Name x pos')) pos.line X.env = pure false) (hf : X.fn x = true ∨ X.env.scope.names.lookup x = some .local) :
    PS X (.Assign [.Name x pos'] e pos) (LS X ca (setS (.nm k) f)) := (ps_set hN hi hx he hs hf).weak (set_read fun _ _ _ h => h)
def tupS (k : Fr → Store → Option (List PV × Store)) : Fr → Store → Option (PV × Store) := fun fr st => (k fr st).bind fun p => (mkT p.1).map (·, p.2)
theorem tupS_some {k : Fr → Store → Option (List PV × Store)} {fr : Fr} {st : Store} {v : PV} {st' : Store} (h : tupS k fr st = some (v, st')) : ∃ vs, k fr st = some (vs, st') ∧ v = .tup vs := by
  unfold tupS at h
  obtain ⟨vs, s1, e1, e2⟩ := bind2 (k := fun vs s1 => (mkT vs).map (·, s1)) h
  obtain ⟨u, e3, e4⟩ := Option.map_eq_some_iff.mp e2
  simp only [Prod.mk.injEq] at e4
  obtain ⟨rfl, rfl⟩ := e4
  unfold mkT at e3
  split at e3 <;> try contradiction
  exact ⟨vs, e1, (Option.some.inj e3).symm⟩
theorem sx_par {i j : Nat} {x y : Str} {a b : Expr} {ka : Fr → Store → Option (List PV × Store)} {px py pt : Pos} {kt k2 pt2} (hc : X.calm = true) (hN : X.N.Nodup) (hi : X.N[i]? = some x) (hj : X.N[j]? = some y) (hij : i ≠ j)
    (hx : X.env.scope.names.lookup x = some .local) (hy : X.env.scope.names.lookup y = some .local) (ha : PA X [a, b] (LA X ca ka))
    (hw : swappedStores [.Tuple [.Name x px, .Name y py] kt pt] (.Tuple [a, b] k2 pt2) X.env = pure (some [x, y]))
    (hs : swapsWithSole [.Tuple [.Name x px, .Name y py] kt pt] (.Tuple [a, b] k2 pt2) pos.line X.env = pure false) :
    PS X (.Assign [.Tuple [.Name x px, .Name y py] kt pt] (.Tuple [a, b] k2 pt2) pos) (LS X ca (setS (.tp [.nm i, .nm j]) (tupS ka))) :=
  (ps_par hc hN hi hj hij hx hy ha hw hs).weak fun D σ H ⟨F, mu, fr, st, fl, fr', st', G, R, e, q⟩ => by
    obtain ⟨v, e1, e2, rfl⟩ := setS_some e
    obtain ⟨vs, e3, rfl⟩ := tupS_some e1
    refine ⟨F, mu, fr, st, vs, st', G, R, e3, fun F1 mu1 H1 xs L1 G1 R1 => ?_⟩
    simp only [asgT] at e2
    split at e2 <;> try contradiction
    rename_i hl
    match vs, R1, e2 with
    | [v1, v2], .cons r1 (.cons r2 .nil), e2 =>
      refine ⟨_, _, rfl, ?_⟩
      simp only [asgTs, asgT] at e2
      split at e2 <;> try contradiction
      simp only [Option.bind_some] at e2
      split at e2 <;> try contradiction
      simp only [Option.bind_some, Option.some.injEq] at e2
      subst e2
      exact q F1 mu1 H1 _ L1 G1 (((R.mono L1.ext).set r1).set r2)
theorem sx_par3 {i j l : Nat} {x y z : Str} {a b c : Expr} {ka : Fr → Store → Option (List PV × Store)} {px py pz pt : Pos} {kt k2 pt2} (hc : X.calm = true) (hN : X.N.Nodup) (hi : X.N[i]? = some x) (hj : X.N[j]? = some y) (hl : X.N[l]? = some z) (hij : i ≠ j) (hil : i ≠ l) (hjl : j ≠ l)
    (hx : X.env.scope.names.lookup x = some .local) (hy : X.env.scope.names.lookup y = some .local) (hz : X.env.scope.names.lookup z = some .local) (ha : PA X [a, b, c] (LA X ca ka))
    (hw : swappedStores [.Tuple [.Name x px, .Name y py, .Name z pz] kt pt] (.Tuple [a, b, c] k2 pt2) X.env = pure (some [x, y, z]))
    (hs : swapsWithSole [.Tuple [.Name x px, .Name y py, .Name z pz] kt pt] (.Tuple [a, b, c] k2 pt2) pos.line X.env = pure false) :
    PS X (.Assign [.Tuple [.Name x px, .Name y py, .Name z pz] kt pt] (.Tuple [a, b, c] k2 pt2) pos) (LS X ca (setS (.tp [.nm i, .nm j, .nm l]) (tupS ka))) :=
  (ps_par3 hc hN hi hj hl hij hil hjl hx hy hz ha hw hs).weak fun D σ H ⟨F, mu, fr, st, fl, fr', st', G, R, e, q⟩ => by
    obtain ⟨v, e1, e2, rfl⟩ := setS_some e
    obtain ⟨vs, e3, rfl⟩ := tupS_some e1
    refine ⟨F, mu, fr, st, vs, st', G, R, e3, fun F1 mu1 H1 xs L1 G1 R1 => ?_⟩
    simp only [asgT] at e2
    split at e2 <;> try contradiction
    rename_i hl
    match vs, R1, e2 with
    | [v1, v2, v3], .cons r1 (.cons r2 (.cons r3 .nil)), e2 =>
      refine ⟨_, _, _, rfl, ?_⟩
      simp only [asgTs, asgT] at e2
      split at e2 <;> try contradiction
      simp only [Option.bind_some] at e2
      split at e2 <;> try contradiction
      simp only [Option.bind_some] at e2
      split at e2 <;> try contradiction
      simp only [Option.bind_some, Option.some.injEq] at e2
      subst e2
      exact q F1 mu1 H1 _ L1 G1 ((((R.mono L1.ext).set r1).set r2).set r3)
/-! o[i] = e -/
def setiP (x k v : PV) (st : Store) : Option Store := match x with
  | .loc n => match st[n]? with
    | some (.dct t kvs) => if kFor t k ∧ kvs.length < SZ then some (st.set n (.dct t (put kvs k v))) else none
    | some (.lst l) => match k with
      | .int j => (ixOf l.length j).map fun m => st.set n (.lst (l.set m v))
      | _ => none
    | _ => none
  | _ => none
def RSet (X : Cx) (ca : Str → Option Addr) : V → V → V → Hp → (Hp → Prop) → Prop := fun o i v H Q => ∃ (F : Hp) (mu : List Addr) (st : Store) (a k u : PV) (st' : Store), Hold X.K X.w ca F mu H st ∧ Rep X.K X.w F mu a o ∧ Rep X.K X.w F mu k i ∧ Rep X.K X.w F mu u v ∧ setiP a k u st = some st' ∧
  ∀ F' mu' H', Le F mu H F' mu' H' → Hold X.K X.w ca F' mu' H' st' → Q H'
theorem set_pv (hu : X.A.units + 70 < cLine) : PSet X (RSet X ca) := by
  intro pins s σ H o i v ov iv u Q I ro ri rv h
  obtain ⟨F, mu, st, a, k, z, st', G, ra, rk, rz, e, q⟩ := h
  unfold setiP at e
  split at e <;> try contradiction
  rename_i n
  split at e <;> try contradiction
  · rename_i t kvs hl
    split at e <;> try contradiction
    rename_i hk
    simp only [Option.some.injEq] at e; subst e
    obtain ⟨p, rfl, h1, h2, d⟩ := Rep.dx I G ra (t := t) (kvs := kvs) (by simp [dctOf, hl])
    cases (show ov = Value.ref p from ro)
    cases ra with
    | loc hm =>
      refine dx_setItem I G (by omega) d h2 hk.1 rk ri rz rv fun h' tk d' sb => ?_
      obtain ⟨H', I', L', G'⟩ := dwrite I G hm hl d' (Nat.le_trans put_len hk.2) sb tk
      exact ⟨H', I', q F mu H' L' G'⟩
  · rename_i l hl
    split at e <;> try contradiction
    rename_i j
    obtain ⟨m, e1, e2⟩ := Option.map_eq_some_iff.mp e
    subst e2
    cases ra with
    | @loc _ p hm =>
      cases rk
      obtain ⟨o0, e0, zs, rfl, rl⟩ := G.cl n p _ hm hl
      obtain ⟨G1, L1⟩ := G.set (c := .lst (l.set m z)) (o := .lst (zs.set m v)) hm (G.live hm hl rfl) ⟨_, rfl, rl.set m rz⟩
      exact set_list pins s σ H _ _ v ov iv u Q I ro ri rv ⟨p, zs, j, m, rfl, rfl, e0, by rw [← rl.length]; exact e1, q F mu _ L1 G1⟩
def setiS (f g h : Fr → Store → Option (PV × Store)) : Fr → Store → Option (Fl × Fr × Store) := fun fr st => (f fr st).bind fun v => (g fr v.2).bind fun x => (h fr x.2).bind fun k => (setiP x.1 k.1 v.1 k.2).map fun s => (.nx, fr, s)
theorem sx_seti (hu : X.A.units + 70 < cLine) {p1 : Pos} (he : PE X e (LE X ca f)) (ho : PE X o (LE X ca g)) (hi : PE X i (LE X ca h)) (hs : swapsWithSole [.Subscript o i p1] e pos.line X.env = pure false) (hw : swappedStores [.Subscript o i p1] e X.env = pure none)
    (h1 : (assignEach [.Subscript o i p1] X.env).map (·.2) = [assign (.Subscript o i p1) X.env]) (hg : PG X (.Subscript o i p1) (gSub (LE X ca g) (LE X ca h) (RSet X ca))) : PS X (.Assign [.Subscript o i p1] e pos) (LS X ca (setiS f g h)) :=
  (ps_asg he hg hs hw h1).weak fun D σ H ⟨F, mu, fr, st, fl, fr', st', G, R, e, q⟩ => by
    unfold setiS at e
    obtain ⟨v, s1, e1, e'⟩ := bind2 (k := fun v s1 => (g fr s1).bind fun x => (h fr x.2).bind fun k => (setiP x.1 k.1 v k.2).map fun s => (Fl.nx, fr, s)) e
    obtain ⟨x, s2, e2, e''⟩ := bind2 (k := fun x s2 => (h fr s2).bind fun k => (setiP x k.1 v k.2).map fun s => (Fl.nx, fr, s)) e'
    obtain ⟨k, s3, e3, e3'⟩ := bind2 (k := fun k s3 => (setiP x k v s3).map fun s => (Fl.nx, fr, s)) e''
    obtain ⟨s4, e4, e5⟩ := Option.map_eq_some_iff.mp e3'
    simp only [Prod.mk.injEq] at e5
    obtain ⟨rfl, rfl, rfl⟩ := e5
    refine ⟨F, mu, fr, st, v, s1, G, R, e1, fun F1 mu1 H1 a L1 G1 R1 => ⟨F1, mu1, fr, s1, x, s2, G1, R.mono L1.ext, e2, fun F2 mu2 H2 b L2 G2 R2 => ⟨F2, mu2, fr, s2, k, s3, G2, (R.mono L1.ext).mono L2.ext, e3, fun F3 mu3 H3 c L3 G3 R3 => ?_⟩⟩⟩
    exact ⟨F3, mu3, s3, x, k, v, s4, G3, R2.mono L3.ext, R3, (R1.mono L2.ext).mono L3.ext, e4, fun F4 mu4 H4 L4 G4 => q F4 mu4 H4 σ (((L1.trans L2).trans L3).trans L4) G4 (((R.mono L1.ext).mono L2.ext).mono (L3.trans L4).ext)⟩
/-! o.f = e -/
def setfS (f g : Fr → Store → Option (PV × Store)) (fn : Str) : Fr → Store → Option (Fl × Fr × Store) := fun fr st => (f fr st).bind fun v => (g fr v.2).bind fun x => match x.1 with
    | .loc n => match x.2[n]? with
      | some (.ins c fs) => if fs.length < 1000 then some (.nx, fr, x.2.set n (.ins c (putF fn v.1 fs))) else none
      | _ => none
    | _ => none
theorem sx_setf {fn : Str} {p1 : Pos} (he : PE X e (LE X ca f)) (ho : PE X o (LE X ca g)) (hs : swapsWith e (some (.Attribute o fn p1)) pos.line X.env = pure false) (hC : ∀ c C, ca c = some C → Cls X.K C ∧ NoAttr X.K C fn) : PS X (.Assign [.Attribute o fn p1] e pos) (LS X ca (setfS f g fn)) :=
  (ps_fld ho he hs).weak fun D σ H ⟨F, mu, fr, st, fl, fr', st', G, R, e, q⟩ => by
    unfold setfS at e
    obtain ⟨v, s1, e1, e'⟩ := bind2 (k := fun v s1 => (g fr s1).bind fun x => match x.1 with
      | .loc n => match x.2[n]? with
        | some (.ins c fs) => if fs.length < 1000 then some (Fl.nx, fr, x.2.set n (.ins c (putF fn v fs))) else none
        | _ => none
      | _ => none) e
    obtain ⟨x, s2, e2, e''⟩ := bind2 (k := fun (x : PV) (s2 : Store) => match x with
      | .loc n => match s2[n]? with
        | some (.ins c fs) => if fs.length < 1000 then some (Fl.nx, fr, s2.set n (.ins c (putF fn v fs))) else none
        | _ => none
      | _ => none) e'
    clear e e'
    split at e'' <;> try contradiction
    rename_i n
    split at e'' <;> try contradiction
    rename_i c fs hl
    split at e'' <;> try contradiction
    rename_i hz
    simp only [Option.some.injEq, Prod.mk.injEq] at e''
    obtain ⟨rfl, rfl, rfl⟩ := e''
    refine ⟨F, mu, fr, st, v, s1, G, R, e1, fun F1 mu1 H1 a L1 G1 R1 => ⟨F1, mu1, fr, s1, _, s2, G1, R.mono L1.ext, e2, fun F2 mu2 H2 b L2 G2 R2 => ?_⟩⟩
    obtain ⟨n', p, C, dx, gs, e4, rfl, h1, h2, h3, h4, h5⟩ := repI G2 R2 (c := c) (fs := fs) (by simp [insOf, hl])
    cases e4
    obtain ⟨k1, k2⟩ := hC _ _ h4
    obtain ⟨G3, L3⟩ := G2.set (c := .ins c (putF fn v fs)) (o := .ins C dx (_root_.L2.putF fn a gs)) h1 (G2.live h1 h2 rfl) ⟨C, dx, _, h4, rfl, h5.put (R1.mono L2.ext)⟩
    exact ⟨p, C, dx, gs, rfl, h3, k1, k2, by rw [← h5.length]; exact hz, q F2 mu2 _ σ ((L1.trans L2).trans L3) G3 ((R.mono L1.ext).mono L2.ext)⟩
/-! return, if, loops -/
theorem sx_ret (he : PE X e (LE X ca f)) : PS X (.Return (some e) pos) (LS X ca fun fr st => (f fr st).map fun p => (.ret p.1, fr, p.2)) := (ps_ret he).weak fun D σ H ⟨F, mu, fr, st, fl, fr', st', G, R, e, q⟩ => by
  obtain ⟨p, e1, e2⟩ := Option.map_eq_some_iff.mp e
  simp only [Prod.mk.injEq] at e2
  obtain ⟨rfl, rfl, rfl⟩ := e2
  exact ⟨F, mu, fr, st, p.1, p.2, G, R, e1, fun F1 mu1 H1 x L1 G1 R1 => q F1 mu1 H1 σ L1 G1 (R.mono L1.ext) x R1⟩
theorem sx_retN : PS X (.Return none pos) (LS X ca fun fr st => some (.ret .non, fr, st)) := ps_retN.weak fun D σ H ⟨F, mu, fr, st, fl, fr', st', G, R, e, q⟩ => by
  simp only [Option.some.injEq, Prod.mk.injEq] at e
  obtain ⟨rfl, rfl, rfl⟩ := e
  exact q F mu H σ .refl G R _ .non
theorem sx_if {c : Expr} {a b : List Stmt} {t : Fr → Store → Option (Bool × Store)} {u v : Fr → Store → Option (Fl × Fr × Store)} (hc : PT X c (LT X ca t)) (ha : PSs X a (LS X ca u)) (hb : PSs X b (LS X ca v)) : PS X (.If c a b pos) (LS X ca fun fr st => (t fr st).bind fun p => if p.1 then u fr p.2 else v fr p.2) :=
  (ps_if hc ha hb).weak fun D σ H ⟨F, mu, fr, st, fl, fr', st', G, R, e, q⟩ => by
    obtain ⟨k, s1, e1, e⟩ := bind2 (k := fun (k : Bool) s1 => if k then u fr s1 else v fr s1) e
    refine ⟨F, mu, fr, st, k, s1, G, R, e1, fun F1 mu1 H1 L1 G1 => ?_⟩
    cases k with
    | true =>
      simp only [if_true] at e ⊢
      exact ⟨F1, mu1, fr, s1, fl, fr', st', G1, R.mono L1.ext, e, fun F2 mu2 H2 σ2 L2 G2 R2 => q F2 mu2 H2 σ2 (L1.trans L2) G2 R2⟩
    | false =>
      simp only [Bool.false_eq_true, if_false] at e ⊢
      exact ⟨F1, mu1, fr, s1, fl, fr', st', G1, R.mono L1.ext, e, fun F2 mu2 H2 σ2 L2 G2 R2 => q F2 mu2 H2 σ2 (L1.trans L2) G2 R2⟩
theorem sx_pass : PS X (.Pass pos) (LS X ca fun fr st => some (.nx, fr, st)) := ps_pass.weak fun D σ H ⟨F, mu, fr, st, fl, fr', st', G, R, e, q⟩ => by
  simp only [Option.some.injEq, Prod.mk.injEq] at e
  obtain ⟨rfl, rfl, rfl⟩ := e
  exact q F mu H σ .refl G R
theorem sx_brk : PS X (.Break pos) (LS X ca fun fr st => some (.brk, fr, st)) := ps_break.weak fun D σ H ⟨F, mu, fr, st, fl, fr', st', G, R, e, q⟩ => by
  simp only [Option.some.injEq, Prod.mk.injEq] at e
  obtain ⟨rfl, rfl, rfl⟩ := e
  exact q F mu H σ .refl G R
theorem sx_cnt : PS X (.Continue pos) (LS X ca fun fr st => some (.cnt, fr, st)) := ps_continue.weak fun D σ H ⟨F, mu, fr, st, fl, fr', st', G, R, e, q⟩ => by
  simp only [Option.some.injEq, Prod.mk.injEq] at e
  obtain ⟨rfl, rfl, rfl⟩ := e
  exact q F mu H σ .refl G R
theorem sx_never {s : Stmt} : PS X s (LS X ca fun _ _ => none) := ps_never.weak fun D σ H ⟨F, mu, fr, st, fl, fr', st', G, R, e, q⟩ => by cases e
theorem sx_whl {c : Expr} {body : List Stmt} {t : Fr → Store → Option (Bool × Store)} {b : Fr → Store → Option (Fl × Fr × Store)} (hp : PassesOwn (model X.prog X.w) X.A X.env X.xe) (hc : PT X c (LT X ca t)) (hb : PSs X body (LS X ca b)) : PS X (.While c body [] pos) (LS X ca fun fr st => wh t b fr st) :=
  (ps_while hp hc hb).weak fun D σ H ⟨F, mu, fr, st, fl, fr', st', G, R, e, q⟩ => by
    obtain ⟨n, hn⟩ := wh_ex e
    refine ⟨fun m σ1 H1 => ∃ F1 mu1 fr1 s1, Le F mu H F1 mu1 H1 ∧ Hold X.K X.w ca F1 mu1 H1 s1 ∧ FrR X.K X.w F1 mu1 fr1 σ1 ∧ whN t b m fr1 s1 = some (fl, fr', st'), ⟨n, F, mu, fr, st, .refl, G, R, hn⟩, ?_⟩
    rintro m σ1 H1 ⟨F1, mu1, fr1, s1, L1, G1, R1, e1⟩
    cases m with
    | zero => simp [whN] at e1
    | succ m =>
      rw [whN] at e1
      obtain ⟨k, s2, e2, e1⟩ := bind2 (k := fun (k : Bool) s2 => if k then (b fr1 s2).bind fun p => match p.1 with
        | .nx => whN t b m p.2.1 p.2.2
        | .cnt => whN t b m p.2.1 p.2.2
        | .brk => some (.nx, p.2.1, p.2.2)
        | .ret v => some (.ret v, p.2.1, p.2.2) else some (.nx, fr1, s2)) e1
      refine ⟨F1, mu1, fr1, s1, k, s2, G1, R1, e2, fun F2 mu2 H2 L2 G2 => ?_⟩
      cases k with
      | false =>
        simp only [Bool.false_eq_true, if_false, Option.some.injEq, Prod.mk.injEq] at e1 ⊢
        obtain ⟨rfl, rfl, rfl⟩ := e1
        exact q F2 mu2 H2 σ1 (L1.trans L2) G2 (R1.mono L2.ext)
      | true =>
        simp only [if_true] at e1 ⊢
        obtain ⟨fl3, fr3, s3, e3, e4⟩ := bind3 (k := fun (fl3 : Fl) fr3 s3 => match fl3 with
          | .nx => whN t b m fr3 s3
          | .cnt => whN t b m fr3 s3
          | .brk => some (.nx, fr3, s3)
          | .ret v => some (.ret v, fr3, s3)) e1
        refine ⟨fun σ3 H3 => ∃ F1 mu1 fr1 s1, Le F mu H F1 mu1 H3 ∧ Hold X.K X.w ca F1 mu1 H3 s1 ∧ FrR X.K X.w F1 mu1 fr1 σ3 ∧ whN t b m fr1 s1 = some (fl, fr', st'), fun σ' H' h => ⟨m, Nat.lt_succ_self m, h⟩, F2, mu2, fr1, s2, fl3, fr3, s3, G2, R1.mono L2.ext, e3, fun F3 mu3 H3 σ3 L3 G3 R3 => ?_⟩
        cases fl3 with
        | nx => exact ⟨F3, mu3, fr3, s3, (L1.trans L2).trans L3, G3, R3, e4⟩
        | cnt => exact ⟨F3, mu3, fr3, s3, (L1.trans L2).trans L3, G3, R3, e4⟩
        | brk =>
          simp only [Option.some.injEq, Prod.mk.injEq] at e4
          obtain ⟨rfl, rfl, rfl⟩ := e4
          exact q F3 mu3 H3 σ3 ((L1.trans L2).trans L3) G3 R3
        | ret v =>
          simp only [Option.some.injEq, Prod.mk.injEq] at e4
          obtain ⟨rfl, rfl, rfl⟩ := e4
          exact q F3 mu3 H3 σ3 ((L1.trans L2).trans L3) G3 R3
theorem sx_for {tg iter : Expr} {body : List Stmt} {t : CT} {fi : Fr → Store → Option (List PV × Store)} {b : Fr → Store → Option (Fl × Fr × Store)} (hp : PassesOwn (model X.prog X.w) X.A X.env X.xe) (hc : X.calm = true) (hi : PI X tg iter (LI X ca fi)) (hg : PG X tg (LG X ca t)) (hb : PSs X body (LS X ca b)) (hs : ∀ x, foldedSetIterable iter X.env x = pure x) :
    PS X (.For tg iter body [] pos) (LS X ca fun fr st => (fi fr st).bind fun p => frL (asgT t) b p.1 fr p.2) :=
  (ps_for hp hc hi hg hb hs).weak fun D σ H ⟨F, mu, fr, st, fl, fr', st', G, R, e, q⟩ => by
    obtain ⟨xs, s1, e1, e⟩ := bind2 (k := fun xs s1 => frL (asgT t) b xs fr s1) e
    refine ⟨F, mu, fr, st, xs, s1, G, R, e1, fun F1 mu1 H1 J L1 G1 it => ?_⟩
    refine ⟨fun i m σ2 H2 => m = xs.length - i ∧ i ≤ xs.length ∧ ∃ F2 mu2 fr2 s2, Le F1 mu1 H1 F2 mu2 H2 ∧ Hold X.K X.w ca F2 mu2 H2 s2 ∧ FrR X.K X.w F2 mu2 fr2 σ2 ∧ frL (asgT t) b (xs.drop i) fr2 s2 = some (fl, fr', st'), ⟨xs.length, by simp, Nat.zero_le _, F1, mu1, fr, s1, .refl, G1, R.mono L1.ext, e⟩, ?_⟩
    rintro i m σ2 H2 ⟨rfl, hi, F2, mu2, fr2, s2, L2, G2, R2, e2⟩
    obtain ⟨go, stop, yld⟩ := it F2 mu2 H2 s2 L2.ext G2
    by_cases hlt : i < xs.length
    · refine .inr ⟨go i hlt, fun σ3 H3 => ∃ F2 mu2 fr2 s2, Le F1 mu1 H1 F2 mu2 H3 ∧ Hold X.K X.w ca F2 mu2 H3 s2 ∧ FrR X.K X.w F2 mu2 fr2 σ3 ∧ frL (asgT t) b (xs.drop (i + 1)) fr2 s2 = some (fl, fr', st'), fun σ' H' p => ⟨xs.length - (i + 1), by omega, rfl, hlt, p⟩, fun x H3 y => ?_⟩
      obtain ⟨F3, mu3, L3, G3, v, hv, rv⟩ := yld i x H3 hlt y
      have hv' : xs[i] = v := by rw [List.getElem?_eq_getElem hlt] at hv; exact Option.some.inj hv
      rw [List.drop_eq_getElem_cons hlt, hv', frL] at e2
      obtain ⟨fr3, e3, e2⟩ := Option.bind_eq_some_iff.mp e2
      obtain ⟨fl4, fr4, s4, e4, e5⟩ := bind3 (k := fun (fl4 : Fl) fr4 s4 => match fl4 with
        | .nx => frL (asgT t) b (xs.drop (i + 1)) fr4 s4
        | .cnt => frL (asgT t) b (xs.drop (i + 1)) fr4 s4
        | .brk => some (.nx, fr4, s4)
        | .ret v => some (.ret v, fr4, s4)) e2
      refine ⟨F3, mu3, fr2, s2, v, fr3, G3, R2.mono L3.ext, rv, e3, fun σ3 R3 _ => ⟨F3, mu3, fr3, s2, fl4, fr4, s4, G3, R3, e4, fun F4 mu4 H4 σ4 L4 G4 R4 => ?_⟩⟩
      cases fl4 with
      | nx => exact ⟨F4, mu4, fr4, s4, (L2.trans L3).trans L4, G4, R4, e5⟩
      | cnt => exact ⟨F4, mu4, fr4, s4, (L2.trans L3).trans L4, G4, R4, e5⟩
      | brk =>
        simp only [Option.some.injEq, Prod.mk.injEq] at e5
        obtain ⟨rfl, rfl, rfl⟩ := e5
        exact q F4 mu4 H4 σ4 (((L1.trans L2).trans L3).trans L4) G4 R4
      | ret v =>
        simp only [Option.some.injEq, Prod.mk.injEq] at e5
        obtain ⟨rfl, rfl, rfl⟩ := e5
        exact q F4 mu4 H4 σ4 (((L1.trans L2).trans L3).trans L4) G4 R4
    · have hi' : i = xs.length := by omega
      subst hi'
      rw [List.drop_length, frL] at e2
      simp only [Option.some.injEq, Prod.mk.injEq] at e2
      obtain ⟨rfl, rfl, rfl⟩ := e2
      exact .inl ⟨stop, q F2 mu2 H2 σ2 (L1.trans L2) G2 R2⟩
end
end Pv
end

section
set_option Elab.async false
set_option linter.all false
set_option maxRecDepth 100000
set_option autoImplicit false
namespace Pv
open PySem PySem.Spec PyProof.Rows L2

/-! ### what is seen of a text -/
def noStar : Expr → Bool
  | .Starred .. => false
  | _ => true
def noSuper : Expr → Bool
  | .Call (.Name _ _) [] [] _ => false
  | _ => true
def noComp : Expr → Bool
  | .ListComp .. => false
  | .SetComp .. => false
  | .DictComp .. => false
  | _ => true
def noSet : Expr → Bool
  | .Set .. => false
  | _ => true
def noSlice : Expr → Bool
  | .Slice .. => false
  | _ => true
def noTup : Expr → Bool
  | .Tuple .. => false
  | _ => true
def plainT : Expr → Bool
  | .UnaryOp .. => false
  | .BoolOp .. => false
  | .IfExp .. => false
  | .Compare .. => false
  | _ => true
section
variable {env : Env} {e : Expr} {es : List Expr}
theorem star_cons (h : noStar e = true) : starEach (e :: es) env = (false, eval e env) :: starEach es env := by
  cases e <;> first | rfl | cases h
theorem star_any {pos : Pos} : ∀ {es : List Expr}, es.all noStar = true → (backTo pos (starEach es env)).any (·.1) = false
  | [], _ => rfl
  | e :: es, h => by
    rw [List.all_cons, Bool.and_eq_true] at h
    rw [star_cons h.1]
    show (false || (backTo pos (starEach es env)).any (·.1)) = false
    rw [star_any h.2]; rfl
theorem star_all {pos : Pos} : ∀ {es : List Expr}, es.all noStar = true → (backTo pos (starEach es env)).all (fun x => !x.1) = true
  | [], _ => rfl
  | e :: es, h => by
    rw [List.all_cons, Bool.and_eq_true] at h
    rw [star_cons h.1]
    show (!false && (backTo pos (starEach es env)).all (fun x => !x.1)) = true
    rw [star_all h.2]; rfl
theorem star_few {pos : Pos} (h : es.all noStar = true) (hl : es.length < 30) : ((backTo pos (starEach es env)).all (fun x => !x.1) && (backToKw pos (keywordEach [] env)).all (fun x => x.1.isSome)
      && decide (es.length + ([] : List Keyword).length + (if ([] : List Keyword).isEmpty then 0 else 1) < 30)) = true := by
  rw [star_all h]
  show (true && true && decide (es.length + 0 + 0 < 30)) = true
  simpa using hl
theorem base_plain {f : Str} {whole : Sem Value} (h : noSuper e = true) : attributeBase e f env whole = whole := by
  unfold attributeBase
  split
  · cases h
  · rfl
theorem true_plain (h : plainT e = true) : ∀ whole, isTrue e env whole = (do let v ← whole; standAt e.pos; holding [v] (truthy v)) := by
  intro whole
  cases e <;> first | rfl | cases h
theorem fold_plain (h : noSet e = true) (x : Value) : foldedSetIterable e env x = pure x := by
  cases e <;> first | rfl | cases h
theorem sub_plain (h : noSlice e = true) : PlainIx e := by
  intro o i
  cases e <;> first | rfl | cases h
theorem sw_none {t : Option Expr} {l : Nat} (h : noComp e = true) : swapsWith e t l env = pure false := by
  cases e <;> first | rfl | cases h
theorem sw_other {t : Expr} {l : Nat} (h : ∀ x p, t ≠ .Name x p) : swapsWith e (some t) l env = pure false := by
  unfold swapsWith
  cases e <;> first | rfl | (cases t <;> first | rfl | exact absurd rfl (h _ _))
/-- the names of a comprehension -/
def compSc : Expr → Option Scope
  | .ListComp _ _ s _ => some s
  | .SetComp _ _ s _ => some s
  | .DictComp _ _ _ s _ => some s
  | _ => none
def swB (sc : Scope) (e : Expr) (x : Str) (p : Pos) (s : Scope) : Bool := decide (sc.kind = .function) && decide (sc.names.lookup x = some .local) && (p.line == e.pos.line) && !(s.names.any fun y => y.1 == x && (y.2 == .local || y.2 == .cell))
theorem sw_name {sc s : Scope} {x : Str} {p : Pos} {l : Nat} (hs : compSc e = some s) (he : env.scope = sc) (hk : sc.kind = .function) : swapsWith e (some (.Name x p)) l env = pure (swB sc e x p s) := by
  have hb : env.blockKind = .function := by unfold Env.blockKind; rw [he, hk]; rfl
  have hkk : env.kindOf x = sc.names.lookup x := by unfold Env.kindOf; rw [he]
  have h1 : decide (sc.kind = .function) = true := by rw [hk]; rfl
  have h2 : ((some NameKind.local == some .local) = true) := by rfl
  unfold swB
  rw [h1]
  cases e <;> simp only [compSc] at hs <;> first | cases hs | skip
  all_goals
    unfold swapsWith
    simp only [hb, hkk]
    cases q : sc.names.lookup x with
    | none => rfl
    | some k => cases k <;> rfl
theorem asg_cons (h : noStar e = true) : (assignEach (e :: es) env).map (·.2) = assign e env :: (assignEach es env).map (·.2) := by
  cases e <;> first | rfl | cases h
theorem asg_len : ∀ (es : List Expr), (assignEach es env).length = es.length
  | [] => rfl
  | e :: es => by
    have : (assignEach (e :: es) env).length = (assignEach es env).length + 1 := by cases e <;> rfl
    rw [this, asg_len es]; rfl
theorem asg_idx : ∀ (es : List Expr), es.all noStar = true → (assignEach es env).findIdx? (·.1) = none
  | [], _ => rfl
  | e :: es, h => by
    rw [List.all_cons, Bool.and_eq_true] at h
    have : ∃ t, assignEach (e :: es) env = (false, t) :: assignEach es env := by cases e <;> first | exact ⟨_, rfl⟩ | cases h.1
    obtain ⟨t, ht⟩ := this
    rw [ht, List.findIdx?_cons, asg_idx es h.2]
    rfl
theorem asg_one (h : noStar e = true) : (assignEach [e] env).map (·.2) = [assign e env] := asg_cons h
theorem meth_form {o : Expr} {m : Str} {apos pos : Pos} (hb : attributeBase o m env (eval o env) = eval o env) (ha : es.all noStar = true) (hl : es.length < 30) (hline : (apos.endLine == pos.line) = true) :
    eval (.Call (.Attribute o m apos) es [] pos) env = (do
      let ov ← eval o env
      standAt apos.atName
      let (f, first) ← holding [ov] (getMethod ov m (do return (← importBound o env).getD true))
      callWith pos f first (backTo pos (starEach es env)) (backToKw pos (keywordEach [] env))) := by
  rw [arm_eval_Call, hb]
  have hf : methodCallForm (es.length + ([] : List Keyword).length) (backTo pos (starEach es env)) (backToKw pos (keywordEach [] env)) = true := star_few ha hl
  have h1 : ∀ ov, methodCall o m apos pos env ov (es.length + ([] : List Keyword).length) (backTo pos (starEach es env)) (backToKw pos (keywordEach [] env)) = (do
      let (f, first) ← holding [ov] (getMethod ov m (do return (← importBound o env).getD true))
      callWith pos f first (backTo pos (starEach es env)) (backToKw pos (keywordEach [] env))) := by
    intro ov
    unfold methodCall
    rw [hf]
    have h2 : methodCallPos true o env apos pos = pure pos := by unfold methodCallPos; simp [hline]
    rw [h2]
    rfl
  simp only [h1]

/-! stores of a tuple of names -/
def swpNs (sc : Scope) (ts : List Expr) : List Str := ts.filterMap fun
      | .Name id pos => if sc.names.lookup id == some .local && pos.line == (ts.head?.map (·.pos.line)).getD 0 then some id else none
      | _ => none
def isStar : Expr → Bool
  | .Starred .. => true
  | _ => false
/-- what is known of them: how they are stored -/
def swp (sc : Scope) (ts vs : List Expr) : Option (Option (List Str)) :=
  if (!(ts.length == 2 || ts.length == 3) || vs.length != ts.length) = true then some none
  else if (vs.any isStar) = true then some none
  else if ((swpNs sc ts).length != ts.length || (swpNs sc ts).eraseDups.length != (swpNs sc ts).length) = true then some none
  else if vs.all (foldedForSure 8) = true then some none
  else if vs.all (constantsAlone 8) = true then none
  else some (some (swpNs sc ts))
theorem swp_ok {sc : Scope} {ts vs : List Expr} {k k2 : Nat} {p p2 : Pos} {r : Option (List Str)} (he : env.scope = sc) (hk : sc.kind = .function) (h : swp sc ts vs = some r) : swappedStores [.Tuple ts k p] (.Tuple vs k2 p2) env = pure r := by
  have hb : env.blockKind = .function := by unfold Env.blockKind; rw [he, hk]; rfl
  have hb2 : (env.blockKind != .function) = false := by rw [hb]; rfl
  have hkk : ∀ x, env.kindOf x = sc.names.lookup x := fun x => by unfold Env.kindOf; rw [he]
  unfold swappedStores
  simp only [hb2, Bool.or_false, hkk]
  unfold swp at h
  split at h
  · rename_i q
    cases h
    exact if_pos q
  · rename_i q
    refine (if_neg q).trans ?_
    split at h
    · rename_i q2
      cases h
      exact if_pos q2
    · rename_i q2
      refine (if_neg q2).trans ?_
      split at h
      · rename_i q3
        cases h
        exact if_pos q3
      · rename_i q3
        refine (if_neg q3).trans ?_
        split at h
        · rename_i q4
          cases h
          exact if_pos q4
        · rename_i q4
          refine (if_neg q4).trans ?_
          split at h
          · cases h
          · rename_i q5
            refine (if_neg q5).trans ?_
            cases h
            rfl
def noLst : Expr → Bool
  | .List .. => false
  | _ => true
theorem swp_no1 {t e : Expr} (h : noTup t = true) (hl : noLst t = true) : swappedStores [t] e env = pure none := by
  cases t <;> first | rfl | (exact False.elim (Bool.false_ne_true h)) | (exact False.elim (Bool.false_ne_true hl))
theorem swp_no2 {t e : Expr} (h : noTup e = true) : swappedStores [t] e env = pure none := by
  cases e <;> first | rfl | (cases t <;> rfl) | cases h
end
end Pv
end

section
set_option Elab.async false
set_option linter.all false
set_option maxRecDepth 100000
set_option autoImplicit false
namespace Pv
open PySem PySem.Spec PyProof.Rows L2

/-- how a def of the table is called -/
inductive Kn where | fn (x : Str) | meth (c m : Str) | init (c x : Str)
structure Ent where
  kn : Kn
  lvl : Nat
/-- the globals: the defs; names that are built in; constants; attributes -/
structure Gb where
  tab : List Ent
  bts : List Str
  cons : List (Str × PV)
  flds : List Str
/-- where a piece of text stands: the names' places, its scope, the block's written scope, the room for calls -/
structure Ctx where
  N : List Str
  sc : Scope
  fb : Option Scope
  k : Nat
def Ctx.mk? (c : Ctx) (x : Str) : Bool := match c.fb with
  | none => true
  | some s => s.names.lookup x == some .cell
def Ctx.loc (c : Ctx) (x : Str) : Bool := c.sc.names.lookup x == some .local
def Ctx.cel (c : Ctx) (x : Str) : Bool := c.sc.names.lookup x == some .cell
def Ctx.free (c : Ctx) (x : Str) : Bool := c.sc.names.lookup x == some .free
def Ctx.glo (c : Ctx) (x : Str) : Bool := c.sc.names.lookup x == some .globalImplicit
def Ctx.at (c : Ctx) (i : Nat) (x : Str) : Bool := c.N[i]? == some x
def Ctx.sees (c : Ctx) (i : Nat) (x : Str) : Bool := c.at i x && (c.loc x || c.cel x || c.free x) && !(x == ("__debug__" : Str)) && !(x == ("__classdict__" : Str))
def Ctx.sets (c : Ctx) (i : Nat) (x : Str) : Bool := c.at i x && (c.loc x || c.cel x) && (c.mk? x || c.loc x)
def Ctx.blt (c : Ctx) (G : Gb) (x : Str) : Bool := c.glo x && G.bts.contains x
/-- in a comprehension's block -/
def Ctx.blk (c : Ctx) (s : Scope) : Ctx := { c with sc := relS s c.sc, fb := some s }
/-- the names of a block with their places -/
def Ctx.own (c : Ctx) (own : List Nat) : List (Str × Nat) := own.map fun j => (c.N.getD j (Str.ofString ""), j)
def biN : Bi → Str
  | .len => "len" | .int => "int" | .abs => "abs" | .max2 => "max" | .min2 => "min" | .tuple => "tuple" | .list => "list" | .sorted => "sorted" | .all => "all" | .any => "any" | .sum => "sum"

mutual
def okG (c : Ctx) : CT → Expr → Bool
  | .nm i, .Name x _ => c.sets i x
  | .tp ts, .Tuple es _ _ => okGs c ts es
  | _, _ => false
def okGs (c : Ctx) : List CT → List Expr → Bool
  | [], [] => true
  | t :: ts, e :: es => noStar e && okG c t e && okGs c ts es
  | _, _ => false
end
def okCon : PV → Const → Bool
  | .int i, .int j => i == j
  | .bl a, .bool b => a == b
  | .non, .none => true
  | .str x, .str y => x == y
  | _, _ => false
def isTyN (c : Ctx) (G : Gb) (t : Ty) : Expr → Bool
  | .Name x _ => (x == Str.ofString (tyN t)) && c.blt G x
  | _ => false
def isTyNs (c : Ctx) (G : Gb) : List Ty → List Expr → Bool
  | [], [] => true
  | t :: ts, e :: es => isTyN c G t e && isTyNs c G ts es
  | _, _ => false
def Gb.fnAt (G : Gb) (c : Ctx) (f : Nat) (x : Str) : Bool := match G.tab[f]? with
  | some ⟨.fn y, l⟩ => x == y && decide (l ≤ c.k)
  | _ => false
def Gb.methAt (G : Gb) (c : Ctx) (f : Nat) (cl m : Str) : Bool := match G.tab[f]? with
  | some ⟨.meth cl' m', l⟩ => cl == cl' && m == m' && decide (l ≤ c.k)
  | _ => false
def Gb.initAt (G : Gb) (c : Ctx) (f : Nat) (cl x : Str) : Bool := match G.tab[f]? with
  | some ⟨.init cl' x', l⟩ => cl == cl' && x == x' && decide (l + 1 ≤ c.k)
  | _ => false
def subset (a b : List Nat) : Bool := a.all fun i => b.contains i
mutual
def okE (G : Gb) : CE → Ctx → Expr → Bool
  | .var i, c, e => match e with
    | .Name x _ => c.sees i x
    | _ => false
  | .con v, c, e => match e with
    | .Constant k _ _ => okCon v k
    | _ => false
  | .glb x v, c, e => match e with
    | .Name y _ => (x == y) && c.glo y && (G.cons.any fun p => p.1 == x && decide (p.2 = v)) && !(y == ("__debug__" : Str))
    | _ => false
  | .bin op a b, c, e => match e with
    | .BinOp ea o eb _ => decide (o = bopO op) && okE G a c ea && okE G b c eb
    | _ => false
  | .neg a, c, e => match e with
    | .UnaryOp .USub ea _ => okE G a c ea
    | _ => false
  | .cmp op a b, c, e => match e with
    | .Compare ea [o] [eb] _ => decide (o = copO op) && okE G a c ea && okE G b c eb && !behindInMarks o eb
    | _ => false
  | .cmp2 o1 o2 a b d, c, e => match e with
    | .Compare ea [o, p] [eb, ed] _ => decide (o = copO o1) && decide (p = copO o2) && okE G a c ea && okE G b c eb && okE G d c ed && !behindInMarks p ed
    | _ => false
  | .nt a, c, e => match e with
    | .UnaryOp .Not ea _ => okE G a c ea
    | _ => false
  | .and a b, c, e => match e with
    | .BoolOp .And (ea :: eb :: r) pos => okE G a c ea && (match r with
      | [] => okE G b c eb
      | _ :: _ => okE G b c (.BoolOp .And (eb :: r) pos))
    | _ => false
  | .or a b, c, e => match e with
    | .BoolOp .Or (ea :: eb :: r) pos => okE G a c ea && (match r with
      | [] => okE G b c eb
      | _ :: _ => okE G b c (.BoolOp .Or (eb :: r) pos))
    | _ => false
  | .ife t a b, c, e => match e with
    | .IfExp et ea eb _ => okT G t c et && okE G a c ea && okE G b c eb
    | _ => false
  | .tup es, c, e => match e with
    | .Tuple xs _ _ => okEs G es c xs
    | _ => false
  | .lstd _ es, c, e => match e with
    | .List xs _ => okEs G es c xs
    | _ => false
  | .dctd _ _ es, c, e => match e with
    | .Dict ks vs _ => (match es, ks, vs with
      | [], [], [] => true
      | _, _, _ => okD G es c ks vs && decide (0 < ks.length) && decide (ks.length ≤ 15))
    | _ => false
  | .idx a i, c, e => match e with
    | .Subscript ea ei _ => okE G a c ea && okE G i c ei && noSlice ei
    | _ => false
  | .slc a lo hi, c, e => match e with
    | .Subscript ea (.Slice l h none _) _ => okE G a c ea && okO G lo c l && okO G hi c h
    | _ => false
  | .rev a, c, e => match e with
    | .Subscript ea (.Slice none none (some (.UnaryOp .USub (.Constant (.int 1) _ _) _)) _) _ => okE G a c ea
    | _ => false
  | .call f es, c, e => match e with
    | .Call (.Name x _) (e1 :: r) [] _ => G.fnAt c f x && c.glo x && !(x == ("__debug__" : Str)) && okEs G es c (e1 :: r)
    | _ => false
  | .meth f cl m o es, c, e => match e with
    | .Call (.Attribute eo m' apos) (e1 :: r) [] pos => (m == m') && G.methAt c f cl m && okE G o c eo && okEs G es c (e1 :: r) && noSuper eo && (apos.endLine == pos.line) && decide ((e1 :: r).length < 30)
    | _ => false
  | .mk f cl es, c, e => match e with
    | .Call (.Name x _) (e1 :: r) [] _ => G.initAt c f cl x && c.glo x && !(x == ("__debug__" : Str)) && okEs G es c (e1 :: r)
    | _ => false
  | .bi b es, c, e => match e with
    | .Call (.Name x _) (e1 :: r) [] _ => (x == biN b) && c.blt G x && okEs G es c (e1 :: r)
    | _ => false
  | .bm m o es, c, e => match e with
    | .Call (.Attribute eo nm apos) (e1 :: r) [] pos => (nm == bmN m) && okE G o c eo && okEs G es c (e1 :: r) && noSuper eo && (apos.endLine == pos.line) && decide ((e1 :: r).length < 30)
    | _ => false
  | .isi a ts, c, e => match e with
    | .Call (.Name x _) [ea, ec] [] _ => (x == ("isinstance" : Str)) && c.blt G x && okE G a c ea && noStar ea && (match ec with
      | .Tuple es _ _ => isTyNs c G ts es && decide (ts.length ≤ 100)
      | .Name _ _ => (match ts with
        | [t] => isTyN c G t ec
        | _ => false)
      | _ => false)
    | _ => false
  | .fld o f, c, e => match e with
    | .Attribute eo f' _ => (f == f') && okE G o c eo && noSuper eo && G.flds.contains f
    | _ => false
  | .lc _ own e t i f, c, ex => match ex with
    | .ListComp elt [⟨tg, iter, ifs, as⟩] s _ => decide (as = 0) && okI G i c tg iter && blkC c.N c.sc s (c.own own) && subset (ctI t) own && okG (c.blk s) t tg && okF G f (c.blk s) ifs && okE G e (c.blk s) elt && noSet iter
    | _ => false
  | .lcl own e t d f, c, ex => match ex with
    | .ListComp elt [⟨tg, iter, ifs, as⟩] s _ => decide (as = 0) && okE G d c iter && blkC c.N c.sc s (c.own own) && subset (ctI t) own && okG (c.blk s) t tg && okF G f (c.blk s) ifs && okE G e (c.blk s) elt && noSet iter
    | _ => false
  | .lc2 _ own own2 e t i f t2 i2 f2, c, ex => match ex with
    | .ListComp elt [⟨tg, iter, ifs, as⟩, ⟨tg2, iter2, ifs2, as2⟩] s _ => decide (as = 0) && decide (as2 = 0) && okI G i c tg iter && blkC c.N c.sc s (c.own own) && subset (ctI t) own && subset (ctI t2) own2 && subset own2 own && okG (c.blk s) t tg && okF G f (c.blk s) ifs && noSet iter &&
      okI G i2 (c.blk s) tg2 iter2 && okG (c.blk s) t2 tg2 && okF G f2 (c.blk s) ifs2 && noSet iter2 && okE G e (c.blk s) elt
    | _ => false
  | .dc _ _ own k v t i f, c, ex => match ex with
    | .DictComp kx vx [⟨tg, iter, ifs, as⟩] s _ => decide (as = 0) && okI G i c tg iter && blkC c.N c.sc s (c.own own) && subset (ctI t) own && okG (c.blk s) t tg && okF G f (c.blk s) ifs && okE G k (c.blk s) kx && okE G v (c.blk s) vx && noSet iter
    | _ => false
  | .dc2 _ _ own own2 k v t i f t2 i2 f2, c, ex => match ex with
    | .DictComp kx vx [⟨tg, iter, ifs, as⟩, ⟨tg2, iter2, ifs2, as2⟩] s _ => decide (as = 0) && decide (as2 = 0) && okI G i c tg iter && blkC c.N c.sc s (c.own own) && subset (ctI t) own && subset (ctI t2) own2 && subset own2 own && okG (c.blk s) t tg && okF G f (c.blk s) ifs && noSet iter &&
      okI G i2 (c.blk s) tg2 iter2 && okG (c.blk s) t2 tg2 && okF G f2 (c.blk s) ifs2 && noSet iter2 && okE G k (c.blk s) kx && okE G v (c.blk s) vx
    | _ => false
/-- as a test -/
def okT (G : Gb) : CE → Ctx → Expr → Bool
  | .cmp op a b, c, e => match e with
    | .Compare ea [o] [eb] _ => decide (o = copO op) && okE G a c ea && okE G b c eb && !behindInMarks o eb
    | _ => false
  | .cmp2 o1 o2 a b d, c, e => match e with
    | .Compare ea [o, p] [eb, ed] _ => decide (o = copO o1) && decide (p = copO o2) && okE G a c ea && okE G b c eb && okE G d c ed && !behindInMarks p ed
    | _ => false
  | .nt a, c, e => match e with
    | .UnaryOp .Not ea _ => okT G a c ea
    | _ => false
  | .and a b, c, e => match e with
    | .BoolOp .And (ea :: eb :: r) pos => okT G a c ea && (match r with
      | [] => okT G b c eb
      | _ :: _ => okT G b c (.BoolOp .And (eb :: r) pos))
    | _ => false
  | .or a b, c, e => match e with
    | .BoolOp .Or (ea :: eb :: r) pos => okT G a c ea && (match r with
      | [] => okT G b c eb
      | _ :: _ => okT G b c (.BoolOp .Or (eb :: r) pos))
    | _ => false
  | .ife _ _ _, _, _ => false
  | .var i, c, e => match e with
    | .Name x _ => c.sees i x
    | _ => false
  | .con v, c, e => match e with
    | .Constant k _ _ => okCon v k
    | _ => false
  | .call f es, c, e => match e with
    | .Call (.Name x _) (e1 :: r) [] _ => G.fnAt c f x && c.glo x && !(x == ("__debug__" : Str)) && okEs G es c (e1 :: r)
    | _ => false
  | .meth f cl m o es, c, e => match e with
    | .Call (.Attribute eo m' apos) (e1 :: r) [] pos => (m == m') && G.methAt c f cl m && okE G o c eo && okEs G es c (e1 :: r) && noSuper eo && (apos.endLine == pos.line) && decide ((e1 :: r).length < 30)
    | _ => false
  | .bi b es, c, e => match e with
    | .Call (.Name x _) (e1 :: r) [] _ => (x == biN b) && c.blt G x && okEs G es c (e1 :: r)
    | _ => false
  | .bm m o es, c, e => match e with
    | .Call (.Attribute eo nm apos) (e1 :: r) [] pos => (nm == bmN m) && okE G o c eo && okEs G es c (e1 :: r) && noSuper eo && (apos.endLine == pos.line) && decide ((e1 :: r).length < 30)
    | _ => false
  | .isi a ts, c, e => match e with
    | .Call (.Name x _) [ea, ec] [] _ => (x == ("isinstance" : Str)) && c.blt G x && okE G a c ea && noStar ea && (match ec with
      | .Tuple es _ _ => isTyNs c G ts es && decide (ts.length ≤ 100)
      | .Name _ _ => (match ts with
        | [t] => isTyN c G t ec
        | _ => false)
      | _ => false)
    | _ => false
  | .idx a i, c, e => match e with
    | .Subscript ea ei _ => okE G a c ea && okE G i c ei && noSlice ei
    | _ => false
  | .fld o f, c, e => match e with
    | .Attribute eo f' _ => (f == f') && okE G o c eo && noSuper eo && G.flds.contains f
    | _ => false
  | _, _, _ => false
def okEs (G : Gb) : List CE → Ctx → List Expr → Bool
  | [], _, [] => true
  | e :: es, c, x :: xs => noStar x && okE G e c x && okEs G es c xs
  | _, _, _ => false
/-- the pairs of a display -/
def okD (G : Gb) : List CE → Ctx → List (Option Expr) → List Expr → Bool
  | [], _, [], [] => true
  | a :: es, c, some k :: ks, v :: vs => okE G a c k && (match es with
    | b :: es => okE G b c v && okD G es c ks vs
    | [] => false)
  | _, _, _, _ => false
def okO (G : Gb) : Option CE → Ctx → Option Expr → Bool
  | none, _, none => true
  | some e, c, some x => okE G e c x
  | _, _, _ => false
def okF (G : Gb) : Option CE → Ctx → List Expr → Bool
  | none, _, [] => true
  | some e, c, [x] => okT G e c x
  | _, _, _ => false
def okI (G : Gb) : CI → Ctx → Expr → Expr → Bool
  | .seq e, c, _, x => okE G e c x
  | .rng1 a, c, _, x => match x with
    | .Call (.Name nm _) [ea] [] _ => (nm == ("range" : Str)) && c.blt G nm && okE G a c ea && noStar ea
    | _ => false
  | .rng2 a b, c, _, x => match x with
    | .Call (.Name nm _) [ea, eb] [] _ => (nm == ("range" : Str)) && c.blt G nm && okE G a c ea && noStar ea && okE G b c eb && noStar eb
    | _ => false
  | .enum e, c, tg, x => match tg, x with
    | .Tuple _ _ _, .Call (.Name nm _) [ea] [] _ => (nm == ("enumerate" : Str)) && c.blt G nm && okE G e c ea && noStar ea
    | _, _ => false
  | .zip a b, c, tg, x => match tg, x with
    | .Tuple _ _ _, .Call (.Name nm _) [ea, eb] [] _ => (nm == ("zip" : Str)) && c.blt G nm && okE G a c ea && noStar ea && okE G b c eb && noStar eb
    | _, _ => false
  | .items e, c, tg, x => match tg, x with
    | .Tuple _ _ _, .Call (.Attribute ea nm apos) [] [] pos => (nm == ("items" : Str)) && okE G e c ea && noSuper ea && (apos.endLine == pos.line)
    | _, _ => false
end
end Pv
end

section
set_option Elab.async false
set_option linter.all false
set_option maxRecDepth 100000
set_option autoImplicit false
namespace Pv
open PySem PySem.Spec PyProof.Rows L2

/-- what the table says of a def -/
def EntOk (P : Program) (w : World) (K : PySem.W.Frag) (mg : Str → Option Value) (base : Heap) (ca : Str → Option Addr) (e : Ent) (d : List PV → Store → Option (PV × Store)) : Prop := match e.kn with
  | .fn x => C8.Cal P w K mg base e.lvl x (SpOf K w ca d) []
  | .meth c m => ∃ C, ca c = some C ∧ C8.Met P w K mg base e.lvl C m (SpOf K w ca d) []
  | .init c x => ∃ C, ca c = some C ∧ C8.Mak P w K mg base e.lvl x C (SpOf K w ca d) []
structure GbOk (P : Program) (w : World) (K : PySem.W.Frag) (mg : Str → Option Value) (base : Heap) (ca : Str → Option Addr) (Φ : Den) (G : Gb) : Prop where
  bts : ∀ x ∈ G.bts, mg x = none
  cons : ∀ p ∈ G.cons, ∃ u y, mg p.1 = some u ∧ L2.RelV y u ∧ ∀ F mu, Rep K w F mu p.2 y
  cls : ∀ c C, ca c = some C → Cls K C ∧ ∀ f ∈ G.flds, NoAttr K C f
  tab : ∀ (i : Nat) e, G.tab[i]? = some e → EntOk P w K mg base ca e (Φ i)
structure OkX (X : Cx) (c : Ctx) : Prop where
  eN : X.N = c.N
  nd : X.N.Nodup
  esc : X.env.scope = c.sc
  calm : X.calm = true
  room : Room (c.k + 1) X.A
  fn : ∀ x, c.mk? x = true → X.fn x = true
section
variable {X : Cx} {c : Ctx} {ca : Str → Option Addr} {Φ : Den} {G : Gb} {x : Str}
theorem OkX.hu (O : OkX X c) : X.A.units + 70 < cLine := by have := O.room.un; omega
theorem OkX.blk (O : OkX X c) (s : Shared) (H : Hp) (scope : Scope) (C : Addr) (cl : List (Str × Addr)) (fps : List Addr) : OkX (X.blk s H scope (compEnvC scope cl C X.env) fps) (c.blk scope) := by
  refine ⟨O.eN, O.nd, ?_, O.calm, O.room, fun x h => h⟩
  show relabel scope X.env = relS scope c.sc
  rw [← O.esc]
  rfl
theorem OkX.gl (O : OkX X c) (h : c.glo x = true) : Gl X x := by
  unfold Gl Env.kindOf
  rw [O.esc]
  exact eq_of_beq h
theorem OkX.bl (O : OkX X c) (g : GbOk X.prog X.w X.K X.mg X.base ca Φ G) (h : c.blt G x = true) : Gl X x ∧ X.mg x = none := by
  unfold Ctx.blt at h
  rw [Bool.and_eq_true] at h
  exact ⟨O.gl h.1, g.bts x (by simpa using h.2)⟩
theorem OkX.at (O : OkX X c) {i : Nat} (h : c.at i x = true) : X.N[i]? = some x := by rw [O.eN]; exact eq_of_beq h
theorem OkX.sees (O : OkX X c) {i : Nat} (h : c.sees i x = true) : X.N[i]? = some x ∧ Vis X.env.scope x ∧ (x == ("__debug__" : Str)) = false ∧ (x == ("__classdict__" : Str)) = false := by
  unfold Ctx.sees at h
  simp only [Bool.and_eq_true, Bool.or_eq_true, Bool.not_eq_true'] at h
  obtain ⟨⟨⟨h1, h2⟩, h3⟩, h4⟩ := h
  refine ⟨O.at h1, ?_, h3, h4⟩
  unfold Vis
  rw [O.esc]
  rcases h2 with (h2 | h2) | h2
  · exact .inl (eq_of_beq h2)
  · exact .inr (.inl (eq_of_beq h2))
  · exact .inr (.inr (eq_of_beq h2))
theorem OkX.sets (O : OkX X c) {i : Nat} (h : c.sets i x = true) : X.N[i]? = some x ∧ L2.Loc X.env.scope x ∧ (X.fn x = true ∨ X.env.scope.names.lookup x = some .local) := by
  unfold Ctx.sets at h
  simp only [Bool.and_eq_true, Bool.or_eq_true] at h
  obtain ⟨⟨h1, h2⟩, h3⟩ := h
  refine ⟨O.at h1, ?_, ?_⟩
  · unfold L2.Loc
    rw [O.esc]
    exact h2.imp eq_of_beq eq_of_beq
  · rw [O.esc]
    exact h3.imp (O.fn x) eq_of_beq
theorem _root_.L2.PE.to {e : Expr} {f g : Fr → Store → Option (PV × Store)} (h : PE X e (LE X ca f)) (k : ∀ fr st, f fr st = g fr st) : PE X e (LE X ca g) := (funext fun fr => funext fun st => k fr st : f = g) ▸ h
theorem _root_.L2.PT.to {e : Expr} {f g : Fr → Store → Option (Bool × Store)} (h : PT X e (LT X ca f)) (k : ∀ fr st, f fr st = g fr st) : PT X e (LT X ca g) := (funext fun fr => funext fun st => k fr st : f = g) ▸ h
theorem _root_.L2.PW.to {e : Expr} {f g : Fr → Store → Option (Bool × Store)} (h : PW X e (LT X ca f)) (k : ∀ fr st, f fr st = g fr st) : PW X e (LT X ca g) := (funext fun fr => funext fun st => k fr st : f = g) ▸ h
theorem _root_.L2.PA.to {e : List Expr} {f g : Fr → Store → Option (List PV × Store)} (h : PA X e (LA X ca f)) (k : ∀ fr st, f fr st = g fr st) : PA X e (LA X ca g) := (funext fun fr => funext fun st => k fr st : f = g) ▸ h
theorem _root_.L2.PI.to {tg e : Expr} {f g : Fr → Store → Option (List PV × Store)} (h : PI X tg e (LI X ca f)) (k : ∀ fr st, f fr st = g fr st) : PI X tg e (LI X ca g) := (funext fun fr => funext fun st => k fr st : f = g) ▸ h
theorem _root_.L2.PO.to {e : Option Expr} {f g : Fr → Store → Option (Option Int × Store)} (h : PO X e (LO X ca f)) (k : ∀ fr st, f fr st = g fr st) : PO X e (LO X ca g) := (funext fun fr => funext fun st => k fr st : f = g) ▸ h
theorem _root_.L2.PD.to {pos : Pos} {ks : List (Option Expr)} {vs : List Expr} {f g : Fr → Store → Option (List PV × Store)} (h : PD X pos ks vs (LA X ca f)) (k : ∀ fr st, f fr st = g fr st) : PD X pos ks vs (LA X ca g) := (funext fun fr => funext fun st => k fr st : f = g) ▸ h
mutual
theorem simG (O : OkX X c) : ∀ (t : CT) (e : Expr), okG c t e = true → PG X e (LG X ca t)
  | .nm i, e, h => by
    cases e <;> simp only [okG] at h <;> first | cases h | skip
    obtain ⟨h1, h2, h3⟩ := O.sets h
    exact sg_nm O.nd h1 h2 h3
  | .tp ts, e, h => by
    cases e <;> simp only [okG] at h <;> first | cases h | skip
    rename_i es k pos
    obtain ⟨h1, h2, h3⟩ := simGs O ts es h
    exact sg_tp O.calm h1 (by rw [asg_len, h3]) (asg_idx es h2)
theorem simGs (O : OkX X c) : ∀ (ts : List CT) (es : List Expr), okGs c ts es = true → PGs X es (LGs X ca ts) ∧ es.all noStar = true ∧ es.length = ts.length
  | [], [], _ => ⟨sgs_nil, rfl, rfl⟩
  | [], _ :: _, h => by simp [okGs] at h
  | _ :: _, [], h => by simp [okGs] at h
  | t :: ts, e :: es, h => by
    simp only [okGs, Bool.and_eq_true] at h
    obtain ⟨⟨h1, h2⟩, h3⟩ := h
    obtain ⟨k1, k2, k3⟩ := simGs O ts es h3
    exact ⟨sgs_cons (simG O t e h2) k1 (asg_cons h1), by rw [List.all_cons, h1, k2]; rfl, by rw [List.length_cons, List.length_cons, k3]⟩
end
theorem simCon {v : PV} {k : Const} {j : Nat} {pos : Pos} (h : okCon v k = true) : PE X (.Constant k j pos) (LE X ca fun _ st => some (v, st)) := by
  cases v <;> cases k <;> simp only [okCon] at h <;> first | cases h | skip
  · exact s_non
  · rw [eq_of_beq h]; exact s_bl
  · rw [eq_of_beq h]; exact s_int
  · rw [eq_of_beq h]; exact s_str
theorem boot_tyN (t : Ty) : bootBuiltins (Str.ofString (tyN t)) = some (.type (tyN t)) := by cases t <;> rfl
theorem simTy (O : OkX X c) (g : GbOk X.prog X.w X.K X.mg X.base ca Φ G) {t : Ty} {e : Expr} (h : isTyN c G t e = true) : PE X e (tC (.ty (tyN t))) ∧ noStar e = true := by
  cases e <;> simp only [isTyN] at h <;> first | cases h | skip
  rw [Bool.and_eq_true] at h
  obtain ⟨h1, h2⟩ := h
  obtain ⟨k1, k2⟩ := O.bl g h2
  have e1 := eq_of_beq h1
  refine ⟨pe_bltn k1 k2 (u := .type (tyN t)) (by rw [e1]; exact boot_tyN t) rfl ?_ ?_, rfl⟩
  · rw [e1]; cases t <;> decide
  · rw [e1]; cases t <;> decide
theorem simTys (O : OkX X c) (g : GbOk X.prog X.w X.K X.mg X.base ca Φ G) : ∀ {ts : List Ty} {es : List Expr}, isTyNs c G ts es = true → TyArgs X es ts
  | [], [], _ => trivial
  | [], _ :: _, h => by simp [isTyNs] at h
  | _ :: _, [], h => by simp [isTyNs] at h
  | t :: ts, e :: es, h => by
    simp only [isTyNs, Bool.and_eq_true] at h
    obtain ⟨k1, k2⟩ := simTy O g h.1
    exact ⟨k1, star_cons k2, simTys O g h.2⟩
theorem boot_bi (b : Bi) : bootBuiltins (biN b) = some (biV b) := by cases b <;> rfl
theorem s_bi (O : OkX X c) (b : Bi) {e : Expr} {es : List Expr} {p pos : Pos} {ka : Fr → Store → Option (List PV × Store)} (hg : Gl X (biN b)) (hm : X.mg (biN b) = none) (ha : PA X (e :: es) (LA X ca ka)) (hs : (e :: es).all noStar = true) :
    PE X (.Call (.Name (biN b) p) (e :: es) [] pos) (LE X ca fun fr st => (ka fr st).bind fun q => (biP b q.1 q.2).map (·, q.2)) := by
  have hs' := hs
  rw [List.all_cons, Bool.and_eq_true] at hs'
  have cr := cr_bi (ca := ca) O.calm O.hu b
  have hb := boot_bi b
  have read : ∀ σ H Q, LE X ca (fun fr st => (ka fr st).bind fun q => (biP b q.1 q.2).map (·, q.2)) σ H Q → tCB (RB X ca (biP b)) (LA X ca ka) σ H Q := by
    rintro σ H Q ⟨F, mu, fr, st, v, st', G, R, e, q⟩
    obtain ⟨vs, s1, e1, e⟩ := bind2 (k := fun vs s1 => (biP b vs s1).map (·, s1)) e
    obtain ⟨r, e2, e3⟩ := Option.map_eq_some_iff.mp e
    cases e3
    exact ⟨F, mu, fr, st, vs, _, G, R, e1, fun F1 mu1 H1 xs L1 G1 R1 => ⟨F1, mu1, _, vs, _, G1, R1, e2, fun F2 mu2 H2 z L2 G2 R2 => q F2 mu2 H2 z (L1.trans L2) G2 R2⟩⟩
  have hn : biN b ≠ "__name__" := by cases b <;> decide
  have hd : (biN b == ("__debug__" : Str)) = false := by cases b <;> decide
  cases b with
  | int => exact (pe_callTy cr hg hm hb ha hn hd (star_cons hs'.1) (star_any hs'.2)).weak read
  | tuple => exact (pe_callTy cr hg hm hb ha hn hd (star_cons hs'.1) (star_any hs'.2)).weak read
  | list => exact (pe_callTy cr hg hm hb ha hn hd (star_cons hs'.1) (star_any hs'.2)).weak read
  | len => exact (pe_callB cr hg hm hb ha hn hd (star_cons hs'.1) (star_any hs'.2)).weak read
  | abs => exact (pe_callB cr hg hm hb ha hn hd (star_cons hs'.1) (star_any hs'.2)).weak read
  | max2 => exact (pe_callB cr hg hm hb ha hn hd (star_cons hs'.1) (star_any hs'.2)).weak read
  | min2 => exact (pe_callB cr hg hm hb ha hn hd (star_cons hs'.1) (star_any hs'.2)).weak read
  | sorted => exact (pe_callB cr hg hm hb ha hn hd (star_cons hs'.1) (star_any hs'.2)).weak read
  | all => exact (pe_callB cr hg hm hb ha hn hd (star_cons hs'.1) (star_any hs'.2)).weak read
  | any => exact (pe_callB cr hg hm hb ha hn hd (star_cons hs'.1) (star_any hs'.2)).weak read
  | sum => exact (pe_callB cr hg hm hb ha hn hd (star_cons hs'.1) (star_any hs'.2)).weak read
/-! what tests are -/
theorem asT_and {f g : Fr → Store → Option (PV × Store)} (fr : Fr) (st : Store) : (asT f fr st).bind (fun x => if x.1 then asT g fr x.2 else some (false, x.2)) = asT (fun fr st => (f fr st).bind fun x => (blOf x.1).bind fun c => if c then g fr x.2 else some (.bl false, x.2)) fr st := by
  unfold asT
  dsimp only
  cases f fr st with
  | none => rfl
  | some p =>
    simp only [Option.bind_some]
    cases blOf p.1 with
    | none => rfl
    | some b => cases b <;> rfl
theorem asT_or {f g : Fr → Store → Option (PV × Store)} (fr : Fr) (st : Store) : (asT f fr st).bind (fun x => if x.1 then some (true, x.2) else asT g fr x.2) = asT (fun fr st => (f fr st).bind fun x => (blOf x.1).bind fun c => if c then some (.bl true, x.2) else g fr x.2) fr st := by
  unfold asT
  dsimp only
  cases f fr st with
  | none => rfl
  | some p =>
    simp only [Option.bind_some]
    cases blOf p.1 with
    | none => rfl
    | some b => cases b <;> rfl
theorem asT_not {f : Fr → Store → Option (PV × Store)} (fr : Fr) (st : Store) : (asT f fr st).map (fun p => (!p.1, p.2)) = asT (fun fr st => (f fr st).bind fun x => (blOf x.1).map fun c => (.bl (!c), x.2)) fr st := by
  unfold asT
  dsimp only
  cases f fr st with
  | none => rfl
  | some p =>
    simp only [Option.bind_some]
    cases blOf p.1 with
    | none => rfl
    | some b => rfl
theorem asT_cmp {o : Cop} {f g : Fr → Store → Option (PV × Store)} (fr : Fr) (st : Store) : ((f fr st).bind fun p => (g fr p.2).bind fun q => (cmpP o p.1 q.1 q.2).map fun c => (c, q.2)) = asT (fun fr st => (f fr st).bind fun p => (g fr p.2).bind fun q => (cmpP o p.1 q.1 q.2).map fun c => (.bl c, q.2)) fr st := by
  unfold asT
  dsimp only
  cases f fr st with
  | none => rfl
  | some p =>
    simp only [Option.bind_some]
    cases g fr p.2 with
    | none => rfl
    | some q =>
      simp only [Option.bind_some]
      cases cmpP o p.1 q.1 q.2 <;> rfl
end
end Pv
end

section
set_option Elab.async false
set_option linter.all false
set_option maxRecDepth 100000
set_option autoImplicit false
namespace Pv
open PySem PySem.Spec PyProof.Rows L2

section
variable {X : Cx} {c : Ctx} {ca : Str → Option Addr} {Φ : Den} {G : Gb} {e : Expr}
/-- what the parts promise -/
def IHE (G : Gb) (ca : Str → Option Addr) (Φ : Den) (a : CE) (c : Ctx) (X : Cx) : Prop := ∀ e, okE G a c e = true → PE X e (LE X ca (ev Φ a))
def IHs (G : Gb) (ca : Str → Option Addr) (Φ : Den) (es : List CE) (c : Ctx) (X : Cx) : Prop := ∀ xs, okEs G es c xs = true → PA X xs (LA X ca (evs Φ es)) ∧ xs.all noStar = true
theorem cVar {i : Nat} (O : OkX X c) (h : okE G (.var i) c e = true) : PE X e (LE X ca (ev Φ (.var i))) := by
  simp only [okE] at h
  split at h <;> try contradiction
  obtain ⟨h1, h2, h3, h4⟩ := O.sees h
  exact (s_var h1 h2 h3 h4).to fun fr st => by rw [ev] <;> rfl
theorem cCon {v : PV} (h : okE G (.con v) c e = true) : PE X e (LE X ca (ev Φ (.con v))) := by
  simp only [okE] at h
  split at h <;> try contradiction
  exact (simCon h).to fun fr st => by rw [ev]
theorem cGlb {x : Str} {v : PV} (O : OkX X c) (g : GbOk X.prog X.w X.K X.mg X.base ca Φ G) (h : okE G (.glb x v) c e = true) : PE X e (LE X ca (ev Φ (.glb x v))) := by
  simp only [okE] at h
  split at h <;> try contradiction
  simp only [Bool.and_eq_true, Bool.not_eq_true'] at h
  obtain ⟨⟨⟨h1, h2⟩, h3⟩, h4⟩ := h
  obtain ⟨p, hp, h5⟩ := List.any_eq_true.mp h3
  rw [Bool.and_eq_true, decide_eq_true_eq] at h5
  obtain ⟨h5, rfl⟩ := h5
  have e1 := eq_of_beq h1
  have e2 := eq_of_beq h5
  obtain ⟨u, y, k1, k2, k3⟩ := g.cons p hp
  exact (s_glb (O.gl h2) (by rw [← e1, ← e2]; exact k1) k2 k3 h4).to fun fr st => by rw [ev]
theorem cCmp {op : Cop} {a b : CE} (O : OkX X c) (ha : IHE G ca Φ a c X) (hb : IHE G ca Φ b c X) (h : okE G (.cmp op a b) c e = true) : PE X e (LE X ca (ev Φ (.cmp op a b))) ∧ PT X e (LT X ca (asT (ev Φ (.cmp op a b)))) := by
  simp only [okE] at h
  split at h <;> try contradiction
  simp only [Bool.and_eq_true, decide_eq_true_eq, Bool.not_eq_true'] at h
  obtain ⟨⟨⟨rfl, h1⟩, h2⟩, h3⟩ := h
  refine ⟨(s_cmp O.hu (ha _ h1) (hb _ h2) h3).to fun fr st => by rw [ev] <;> rfl, (st_cmp O.hu (ha _ h1) (hb _ h2) h3).to fun fr st => (asT_cmp fr st).trans ?_⟩
  unfold asT
  rw [ev] <;> rfl
theorem cCmp2 {o p : Cop} {a b d : CE} (O : OkX X c) (ha : IHE G ca Φ a c X) (hb : IHE G ca Φ b c X) (hd : IHE G ca Φ d c X) (h : okE G (.cmp2 o p a b d) c e = true) : PE X e (LE X ca (ev Φ (.cmp2 o p a b d))) ∧ PT X e (LT X ca (asT (ev Φ (.cmp2 o p a b d)))) := by
  simp only [okE] at h
  split at h <;> try contradiction
  simp only [Bool.and_eq_true, decide_eq_true_eq, Bool.not_eq_true'] at h
  obtain ⟨⟨⟨⟨⟨rfl, rfl⟩, h1⟩, h2⟩, h3⟩, h4⟩ := h
  refine ⟨(s_cmp2 O.hu (ha _ h1) (hb _ h2) (hd _ h3) h4).to fun fr st => by rw [ev] <;> rfl, (st_cmp2 O.hu (ha _ h1) (hb _ h2) (hd _ h3) h4).to fun fr st => ?_⟩
  unfold asT
  rw [ev] <;> rfl
theorem cCall {f : Nat} {es : List CE} (O : OkX X c) (g : GbOk X.prog X.w X.K X.mg X.base ca Φ G) (ih : IHs G ca Φ es c X) (h : okE G (.call f es) c e = true) : PE X e (LE X ca (ev Φ (.call f es))) := by
  simp only [okE] at h
  split at h <;> try contradiction
  simp only [Bool.and_eq_true, Bool.not_eq_true'] at h
  obtain ⟨⟨⟨h1, h2⟩, h3⟩, h4⟩ := h
  unfold Gb.fnAt at h1
  split at h1 <;> try contradiction
  rename_i y l ht
  rw [Bool.and_eq_true, decide_eq_true_eq] at h1
  have e1 := eq_of_beq h1.1
  have q := g.tab f _ ht
  obtain ⟨k1, k2⟩ := ih _ h4
  have k2' := k2
  rw [List.all_cons, Bool.and_eq_true] at k2'
  have q : C8.Cal X.prog X.w X.K X.mg X.base l y (SpOf X.K X.w ca (Φ f)) [] := q
  exact (s_call (e1 ▸ q) O.room (by omega) (O.gl h2) k1 h3 (star_cons k2'.1) (star_any k2'.2)).to fun fr st => by rw [ev] <;> rfl
theorem cMeth {f : Nat} {cl m : Str} {o : CE} {es : List CE} (O : OkX X c) (g : GbOk X.prog X.w X.K X.mg X.base ca Φ G) (io : IHE G ca Φ o c X) (ih : IHs G ca Φ es c X) (h : okE G (.meth f cl m o es) c e = true) : PE X e (LE X ca (ev Φ (.meth f cl m o es))) := by
  simp only [okE] at h
  split at h <;> try contradiction
  simp only [Bool.and_eq_true, decide_eq_true_eq] at h
  obtain ⟨⟨⟨⟨⟨⟨h0, h1⟩, h2⟩, h3⟩, h4⟩, h5⟩, h6⟩ := h
  obtain rfl := eq_of_beq h0
  unfold Gb.methAt at h1
  split at h1 <;> try contradiction
  rename_i cl' m' l ht
  simp only [Bool.and_eq_true, decide_eq_true_eq] at h1
  obtain ⟨⟨h7, h8⟩, h9⟩ := h1
  obtain rfl := eq_of_beq h7
  obtain rfl := eq_of_beq h8
  have q := g.tab f _ ht
  obtain ⟨C, hC, M⟩ := (show ∃ C, ca cl = some C ∧ C8.Met X.prog X.w X.K X.mg X.base l C m (SpOf X.K X.w ca (Φ f)) [] from q)
  obtain ⟨k1, k2⟩ := ih _ h3
  have k2' := k2
  rw [List.all_cons, Bool.and_eq_true] at k2'
  exact (s_meth (by simp) hC M O.room (by omega) (io _ h2) k1 (fun e r er => by cases er; exact star_cons k2'.1) (fun e r er => by cases er; exact star_any k2'.2) (meth_form (base_plain h4) k2 h6 h5)).to fun fr st => by rw [ev] <;> rfl
theorem cMk {f : Nat} {cl : Str} {es : List CE} (O : OkX X c) (g : GbOk X.prog X.w X.K X.mg X.base ca Φ G) (ih : IHs G ca Φ es c X) (h : okE G (.mk f cl es) c e = true) : PE X e (LE X ca (ev Φ (.mk f cl es))) := by
  simp only [okE] at h
  split at h <;> try contradiction
  simp only [Bool.and_eq_true, Bool.not_eq_true'] at h
  obtain ⟨⟨⟨h1, h2⟩, h3⟩, h4⟩ := h
  unfold Gb.initAt at h1
  split at h1 <;> try contradiction
  rename_i cl' x' l ht
  simp only [Bool.and_eq_true, decide_eq_true_eq] at h1
  obtain ⟨⟨h7, h8⟩, h9⟩ := h1
  obtain rfl := eq_of_beq h7
  obtain rfl := eq_of_beq h8
  have q := g.tab f _ ht
  obtain ⟨C, hC, M⟩ := (show ∃ C, ca cl = some C ∧ C8.Mak X.prog X.w X.K X.mg X.base l _ C (SpOf X.K X.w ca (Φ f)) [] from q)
  obtain ⟨k1, k2⟩ := ih _ h4
  have k2' := k2
  rw [List.all_cons, Bool.and_eq_true] at k2'
  exact (s_mk hC M O.room (by omega) (O.gl h2) k1 h3 (star_cons k2'.1) (star_any k2'.2)).to fun fr st => by rw [ev] <;> rfl
theorem cBi {b : Bi} {es : List CE} (O : OkX X c) (g : GbOk X.prog X.w X.K X.mg X.base ca Φ G) (ih : IHs G ca Φ es c X) (h : okE G (.bi b es) c e = true) : PE X e (LE X ca (ev Φ (.bi b es))) := by
  simp only [okE] at h
  split at h <;> try contradiction
  simp only [Bool.and_eq_true] at h
  obtain ⟨⟨h1, h2⟩, h3⟩ := h
  obtain rfl := eq_of_beq h1
  obtain ⟨k1, k2⟩ := O.bl g h2
  obtain ⟨k3, k4⟩ := ih _ h3
  exact (s_bi O b k1 k2 k3 k4).to fun fr st => by rw [ev] <;> rfl
theorem cBm {m : Bm} {o : CE} {es : List CE} (O : OkX X c) (io : IHE G ca Φ o c X) (ih : IHs G ca Φ es c X) (h : okE G (.bm m o es) c e = true) : PE X e (LE X ca (ev Φ (.bm m o es))) := by
  simp only [okE] at h
  split at h <;> try contradiction
  simp only [Bool.and_eq_true, decide_eq_true_eq] at h
  obtain ⟨⟨⟨⟨⟨h0, h2⟩, h3⟩, h4⟩, h5⟩, h6⟩ := h
  obtain rfl := eq_of_beq h0
  obtain ⟨k1, k2⟩ := ih _ h3
  have k2' := k2
  rw [List.all_cons, Bool.and_eq_true] at k2'
  exact (s_bm O.hu m (io _ h2) k1 (base_plain h4) (star_few k2 h6) h5 (star_cons k2'.1) (star_any k2'.2)).to fun fr st => by rw [ev] <;> rfl
theorem cIsi {a : CE} {ts : List Ty} (O : OkX X c) (g : GbOk X.prog X.w X.K X.mg X.base ca Φ G) (ih : IHE G ca Φ a c X) (h : okE G (.isi a ts) c e = true) : PE X e (LE X ca (ev Φ (.isi a ts))) := by
  simp only [okE] at h
  split at h <;> try contradiction
  rename_i x p ea ec pos
  simp only [Bool.and_eq_true] at h
  obtain ⟨⟨⟨⟨h1, h2⟩, h3⟩, h4⟩, h5⟩ := h
  obtain rfl := eq_of_beq h1
  obtain ⟨k1, k2⟩ := O.bl g h2
  have fin : noStar ec = true → ((∃ t, ts = [t] ∧ PE X ec (tC (.ty (tyN t)))) ∨ ∃ es x1 ps, ec = .Tuple es x1 ps ∧ TyArgs X es ts ∧ ts.length ≤ 100) → PE X (.Call (.Name "isinstance" p) [ea, ec] [] pos) (LE X ca (ev Φ (.isi a ts))) := fun hs hc =>
    (s_isi k1 k2 (ih _ h3) hc (star_cons h4) (star_cons hs) (star_any (by rw [List.all_cons, hs]; rfl))).to fun fr st => by rw [ev] <;> rfl
  split at h5
  · rw [Bool.and_eq_true, decide_eq_true_eq] at h5
    exact fin rfl (.inr ⟨_, _, _, rfl, simTys O g h5.1, h5.2⟩)
  · split at h5 <;> try contradiction
    exact fin rfl (.inl ⟨_, rfl, (simTy O g h5).1⟩)
  · cases h5
theorem cIdx {a i : CE} (O : OkX X c) (ha : IHE G ca Φ a c X) (hi : IHE G ca Φ i c X) (h : okE G (.idx a i) c e = true) : PE X e (LE X ca (ev Φ (.idx a i))) := by
  simp only [okE] at h
  split at h <;> try contradiction
  simp only [Bool.and_eq_true] at h
  obtain ⟨⟨h1, h2⟩, h3⟩ := h
  exact (s_idx O.hu (ha _ h1) (hi _ h2) (sub_plain h3)).to fun fr st => by rw [ev] <;> rfl
theorem cFld {o : CE} {f : Str} (g : GbOk X.prog X.w X.K X.mg X.base ca Φ G) (io : IHE G ca Φ o c X) (h : okE G (.fld o f) c e = true) : PE X e (LE X ca (ev Φ (.fld o f))) := by
  simp only [okE] at h
  split at h <;> try contradiction
  simp only [Bool.and_eq_true] at h
  obtain ⟨⟨⟨h1, h2⟩, h3⟩, h4⟩ := h
  obtain rfl := eq_of_beq h1
  exact (s_fld (io _ h2) (base_plain h3) fun c' C hC => ⟨(g.cls c' C hC).1, (g.cls c' C hC).2 f (by simpa using h4)⟩).to fun fr st => by rw [ev] <;> rfl
/-! comprehensions -/
theorem own_ix {N : List Str} {c : Ctx} {own : List Nat} : (c.own own).map (·.2) = own := by
  unfold Ctx.own
  rw [List.map_map]
  have : ((fun x : Str × Nat => x.2) ∘ fun j => (c.N.getD j (Str.ofString ""), j)) = id := rfl
  rw [this, List.map_id]
theorem subset_ok {a b : List Nat} (h : subset a b = true) : ∀ i ∈ a, i ∈ b := fun i hi => by simpa using List.all_eq_true.mp h i hi
def IHI (G : Gb) (ca : Str → Option Addr) (Φ : Den) (i : CI) (c : Ctx) (X : Cx) : Prop := ∀ tg e, okI G i c tg e = true → PI X tg e (LI X ca (evi Φ i))
def IHF (G : Gb) (ca : Str → Option Addr) (Φ : Den) (f : Option CE) (c : Ctx) (X : Cx) : Prop := ∀ xs, okF G f c xs = true → PTs X xs (LT X ca (evf Φ f))
theorem blkOk (O : OkX X c) {s : Scope} {own : List Nat} (h : blkC c.N c.sc s (c.own own) = true) : BlkOk X.N X.env.scope s (c.own own) := by
  rw [O.eN, O.esc]; exact blkOk_by h
theorem cLc {cc : Bool} {own : List Nat} {el : CE} {t : CT} {i : CI} {f : Option CE} (O : OkX X c) (ii : IHI G ca Φ i c X) (iF : ∀ (s : Scope) (X' : Cx), OkX X' (c.blk s) → GbOk X'.prog X'.w X'.K X'.mg X'.base ca Φ G → IHF G ca Φ f (c.blk s) X') (ie : ∀ (s : Scope) (X' : Cx), OkX X' (c.blk s) → GbOk X'.prog X'.w X'.K X'.mg X'.base ca Φ G → IHE G ca Φ el (c.blk s) X')
    (g : GbOk X.prog X.w X.K X.mg X.base ca Φ G) (h : okE G (.lc cc own el t i f) c e = true) : PE X e (LE X ca (ev Φ (.lc cc own el t i f))) := by
  simp only [okE] at h
  split at h <;> try contradiction
  rename_i elt tg iter ifs as s pos
  simp only [Bool.and_eq_true, decide_eq_true_eq] at h
  obtain ⟨⟨⟨⟨⟨⟨⟨rfl, h1⟩, h2⟩, h3⟩, h4⟩, h5⟩, h6⟩, h7⟩ := h
  have q := pe_lc (X := X) (pos := pos) (g := LG X ca t) (tt := LT X ca (evf Φ f)) (te := LE X ca (ev Φ el)) O.calm O.nd (ii tg iter h1) (blkOk O h2) (fun s' H' C cl fps => simG (ca := ca) (O.blk s' H' s C cl fps) t tg h4) (fun s' H' C cl fps => iF s _ (O.blk s' H' s C cl fps) g ifs h5) (fun s' H' C cl fps => ie s _ (O.blk s' H' s C cl fps) g elt h6) (fold_plain h7)
  refine (q.weak (lc_read (c := cc) (by rw [own_ix (N := [])]; exact subset_ok h3))).to fun fr st => ?_
  rw [own_ix (N := []), ev]
  rfl
theorem cLcl {own : List Nat} {el : CE} {t : CT} {d : CE} {f : Option CE} (O : OkX X c) (id : IHE G ca Φ d c X) (iF : ∀ (s : Scope) (X' : Cx), OkX X' (c.blk s) → GbOk X'.prog X'.w X'.K X'.mg X'.base ca Φ G → IHF G ca Φ f (c.blk s) X') (ie : ∀ (s : Scope) (X' : Cx), OkX X' (c.blk s) → GbOk X'.prog X'.w X'.K X'.mg X'.base ca Φ G → IHE G ca Φ el (c.blk s) X')
    (g : GbOk X.prog X.w X.K X.mg X.base ca Φ G) (h : okE G (.lcl own el t d f) c e = true) : PE X e (LE X ca (ev Φ (.lcl own el t d f))) := by
  simp only [okE] at h
  split at h <;> try contradiction
  rename_i elt tg iter ifs as s pos
  simp only [Bool.and_eq_true, decide_eq_true_eq] at h
  obtain ⟨⟨⟨⟨⟨⟨⟨rfl, h1⟩, h2⟩, h3⟩, h4⟩, h5⟩, h6⟩, h7⟩ := h
  have q := pe_lc (X := X) (pos := pos) (g := LG X ca t) (tt := LT X ca (evf Φ f)) (te := LE X ca (ev Φ el)) O.calm O.nd (pi_keysD (tg := tg) (id iter h1)) (blkOk O h2) (fun s' H' C cl fps => simG (ca := ca) (O.blk s' H' s C cl fps) t tg h4) (fun s' H' C cl fps => iF s _ (O.blk s' H' s C cl fps) g ifs h5) (fun s' H' C cl fps => ie s _ (O.blk s' H' s C cl fps) g elt h6) (fold_plain h7)
  refine (q.weak (lcl_read (by rw [own_ix (N := [])]; exact subset_ok h3))).to fun fr st => ?_
  rw [own_ix (N := []), ev]
  rfl
theorem cLc2 {cc : Bool} {own own2 : List Nat} {el : CE} {t t2 : CT} {i i2 : CI} {f f2 : Option CE} (O : OkX X c) (ii : IHI G ca Φ i c X) (iF : ∀ (s : Scope) (X' : Cx), OkX X' (c.blk s) → GbOk X'.prog X'.w X'.K X'.mg X'.base ca Φ G → IHF G ca Φ f (c.blk s) X') (ie : ∀ (s : Scope) (X' : Cx), OkX X' (c.blk s) → GbOk X'.prog X'.w X'.K X'.mg X'.base ca Φ G → IHE G ca Φ el (c.blk s) X')
    (ii2 : ∀ (s : Scope) (X' : Cx), OkX X' (c.blk s) → GbOk X'.prog X'.w X'.K X'.mg X'.base ca Φ G → IHI G ca Φ i2 (c.blk s) X') (iF2 : ∀ (s : Scope) (X' : Cx), OkX X' (c.blk s) → GbOk X'.prog X'.w X'.K X'.mg X'.base ca Φ G → IHF G ca Φ f2 (c.blk s) X')
    (g : GbOk X.prog X.w X.K X.mg X.base ca Φ G) (h : okE G (.lc2 cc own own2 el t i f t2 i2 f2) c e = true) : PE X e (LE X ca (ev Φ (.lc2 cc own own2 el t i f t2 i2 f2))) := by
  simp only [okE] at h
  split at h <;> try contradiction
  rename_i elt tg iter ifs as tg2 iter2 ifs2 as2 s pos
  simp only [Bool.and_eq_true, decide_eq_true_eq] at h
  obtain ⟨⟨⟨⟨⟨⟨⟨⟨⟨⟨⟨⟨⟨⟨rfl, rfl⟩, h1⟩, h2⟩, h3⟩, h4⟩, h5⟩, h6⟩, h7⟩, h8⟩, h9⟩, h10⟩, h11⟩, h12⟩, h13⟩ := h
  have q := pe_lc2 (X := X) (pos := pos) (vs1 := own2) (g := LG X ca t) (tt := LT X ca (evf Φ f)) (te := LE X ca (ev Φ el)) (wi1 := LI X ca (evi Φ i2)) (g1 := LG X ca t2) (tt1 := LT X ca (evf Φ f2)) O.calm O.nd (ii tg iter h1) (blkOk O h2) (by rw [own_ix (N := [])]; exact subset_ok h5) (fun s' H' C cl fps => simG (ca := ca) (O.blk s' H' s C cl fps) t tg h6) (fun s' H' C cl fps => iF s _ (O.blk s' H' s C cl fps) g ifs h7)
    (fun s' H' C cl fps => ii2 s _ (O.blk s' H' s C cl fps) g tg2 iter2 h9) (fun s' H' C cl fps => simG (ca := ca) (O.blk s' H' s C cl fps) t2 tg2 h10) (fun s' H' C cl fps => iF2 s _ (O.blk s' H' s C cl fps) g ifs2 h11) (fun s' H' C cl fps => ie s _ (O.blk s' H' s C cl fps) g elt h13) (fold_plain h8) (fun _ => fold_plain h12)
  refine (q.weak (lc2_read (c := cc) (by rw [own_ix (N := [])]; exact subset_ok h3) (subset_ok h4))).to fun fr st => ?_
  rw [own_ix (N := []), ev]
  rfl
theorem pe_dcP {kx vx tg iter : Expr} {ifs : List Expr} {scope : Scope} {own : List (Str × Nat)} {pos : Pos} {wi : TI} {gg : TG} {tt : TT} {tk tv : TE} (O : OkX X c) (hi : PI X tg iter wi) (ok : BlkOk X.N X.env.scope scope own)
    (hg : ∀ (s : Shared) (H : Hp) (C : Addr) (cl : List (Str × Addr)) (fps : List Addr), PG (X.blk s H scope (compEnvC scope cl C X.env) fps) tg gg)
    (ht : ∀ (s : Shared) (H : Hp) (C : Addr) (cl : List (Str × Addr)) (fps : List Addr), PTs (X.blk s H scope (compEnvC scope cl C X.env) fps) ifs tt)
    (hk : ∀ (s : Shared) (H : Hp) (C : Addr) (cl : List (Str × Addr)) (fps : List Addr), PE (X.blk s H scope (compEnvC scope cl C X.env) fps) kx tk)
    (hv : ∀ (s : Shared) (H : Hp) (C : Addr) (cl : List (Str × Addr)) (fps : List Addr), PE (X.blk s H scope (compEnvC scope cl C X.env) fps) vx tv) (hs : ∀ x, foldedSetIterable iter X.env x = pure x) :
    PE X (.DictComp kx vx [⟨tg, iter, ifs, 0⟩] scope pos) (tDcP X ca wi gg tt tk tv (own.map (·.2))) := by
  refine ⟨fun pins s σ H Q I h => ?_⟩
  rw [arm_eval_DictComp]
  refine dcP_core O.hu O.calm O.nd I hi ok hg ht hk hv hs h fun D C s' m H' I' q hn f => ⟨m, hn, fun h'' sb => ?_⟩
  exact ⟨.ref D, H', I'.turned (t' := s'.toks) (fun b o hb e => (sb.2 b hb).trans e) f.1 f.2.1 f.2.2.2.1 f.2.2.2.2.1 f.2.2.2.2.2, rfl, q⟩
theorem pe_dcP2 {kx vx tg iter tg1 iter1 : Expr} {ifs ifs1 : List Expr} {scope : Scope} {own : List (Str × Nat)} {vs1 : List Nat} {pos : Pos} {wi wi1 : TI} {gg gg1 : TG} {tt tt1 : TT} {tk tv : TE} (O : OkX X c) (hi : PI X tg iter wi) (ok : BlkOk X.N X.env.scope scope own) (hv1 : ∀ i ∈ vs1, i ∈ own.map (·.2))
    (hg : ∀ (s : Shared) (H : Hp) (C : Addr) (cl : List (Str × Addr)) (fps : List Addr), PG (X.blk s H scope (compEnvC scope cl C X.env) fps) tg gg)
    (ht : ∀ (s : Shared) (H : Hp) (C : Addr) (cl : List (Str × Addr)) (fps : List Addr), PTs (X.blk s H scope (compEnvC scope cl C X.env) fps) ifs tt)
    (hi1 : ∀ (s : Shared) (H : Hp) (C : Addr) (cl : List (Str × Addr)) (fps : List Addr), PI (X.blk s H scope (compEnvC scope cl C X.env) fps) tg1 iter1 wi1)
    (hg1 : ∀ (s : Shared) (H : Hp) (C : Addr) (cl : List (Str × Addr)) (fps : List Addr), PG (X.blk s H scope (compEnvC scope cl C X.env) fps) tg1 gg1)
    (ht1 : ∀ (s : Shared) (H : Hp) (C : Addr) (cl : List (Str × Addr)) (fps : List Addr), PTs (X.blk s H scope (compEnvC scope cl C X.env) fps) ifs1 tt1)
    (hk : ∀ (s : Shared) (H : Hp) (C : Addr) (cl : List (Str × Addr)) (fps : List Addr), PE (X.blk s H scope (compEnvC scope cl C X.env) fps) kx tk)
    (hv : ∀ (s : Shared) (H : Hp) (C : Addr) (cl : List (Str × Addr)) (fps : List Addr), PE (X.blk s H scope (compEnvC scope cl C X.env) fps) vx tv) (hs : ∀ x, foldedSetIterable iter X.env x = pure x) (hs1 : ∀ env x, foldedSetIterable iter1 env x = pure x) :
    PE X (.DictComp kx vx [⟨tg, iter, ifs, 0⟩, ⟨tg1, iter1, ifs1, 0⟩] scope pos) (tDcP2 X ca wi gg tt wi1 gg1 tt1 tk tv (own.map (·.2)) vs1) := by
  refine ⟨fun pins s σ H Q I h => ?_⟩
  rw [arm_eval_DictComp]
  refine dcP2_core O.hu O.calm O.nd I hi ok hv1 hg ht hi1 hg1 ht1 hk hv hs hs1 h fun D C s' m H' I' q hn f => ⟨m, hn, fun h'' sb => ?_⟩
  exact ⟨.ref D, H', I'.turned (t' := s'.toks) (fun b o hb e => (sb.2 b hb).trans e) f.1 f.2.1 f.2.2.2.1 f.2.2.2.2.1 f.2.2.2.2.2, rfl, q⟩
theorem cDc {cc d : Bool} {own : List Nat} {k v : CE} {t : CT} {i : CI} {f : Option CE} (O : OkX X c) (ii : IHI G ca Φ i c X) (iF : ∀ (s : Scope) (X' : Cx), OkX X' (c.blk s) → GbOk X'.prog X'.w X'.K X'.mg X'.base ca Φ G → IHF G ca Φ f (c.blk s) X') (ik : ∀ (s : Scope) (X' : Cx), OkX X' (c.blk s) → GbOk X'.prog X'.w X'.K X'.mg X'.base ca Φ G → IHE G ca Φ k (c.blk s) X')
    (iv : ∀ (s : Scope) (X' : Cx), OkX X' (c.blk s) → GbOk X'.prog X'.w X'.K X'.mg X'.base ca Φ G → IHE G ca Φ v (c.blk s) X')
    (g : GbOk X.prog X.w X.K X.mg X.base ca Φ G) (h : okE G (.dc cc d own k v t i f) c e = true) : PE X e (LE X ca (ev Φ (.dc cc d own k v t i f))) := by
  simp only [okE] at h
  split at h <;> try contradiction
  rename_i kx vx tg iter ifs as s pos
  simp only [Bool.and_eq_true, decide_eq_true_eq] at h
  obtain ⟨⟨⟨⟨⟨⟨⟨⟨rfl, h1⟩, h2⟩, h3⟩, h4⟩, h5⟩, h6⟩, h7⟩, h8⟩ := h
  have q := pe_dcP (ca := ca) (pos := pos) (gg := LG X ca t) (tt := LT X ca (evf Φ f)) (tk := LE X ca (ev Φ k)) (tv := LE X ca (ev Φ v)) O (ii tg iter h1) (blkOk O h2) (fun s' H' C cl fps => simG (ca := ca) (O.blk s' H' s C cl fps) t tg h4) (fun s' H' C cl fps => iF s _ (O.blk s' H' s C cl fps) g ifs h5) (fun s' H' C cl fps => ik s _ (O.blk s' H' s C cl fps) g kx h6) (fun s' H' C cl fps => iv s _ (O.blk s' H' s C cl fps) g vx h7) (fold_plain h8)
  refine (q.weak (dc_read (c := cc) (d := d) (by rw [own_ix (N := [])]; exact subset_ok h3))).to fun fr st => ?_
  rw [own_ix (N := []), ev]
  rfl
theorem cDc2 {cc d : Bool} {own own2 : List Nat} {k v : CE} {t t2 : CT} {i i2 : CI} {f f2 : Option CE} (O : OkX X c) (ii : IHI G ca Φ i c X) (iF : ∀ (s : Scope) (X' : Cx), OkX X' (c.blk s) → GbOk X'.prog X'.w X'.K X'.mg X'.base ca Φ G → IHF G ca Φ f (c.blk s) X') (ik : ∀ (s : Scope) (X' : Cx), OkX X' (c.blk s) → GbOk X'.prog X'.w X'.K X'.mg X'.base ca Φ G → IHE G ca Φ k (c.blk s) X')
    (iv : ∀ (s : Scope) (X' : Cx), OkX X' (c.blk s) → GbOk X'.prog X'.w X'.K X'.mg X'.base ca Φ G → IHE G ca Φ v (c.blk s) X')
    (ii2 : ∀ (s : Scope) (X' : Cx), OkX X' (c.blk s) → GbOk X'.prog X'.w X'.K X'.mg X'.base ca Φ G → IHI G ca Φ i2 (c.blk s) X') (iF2 : ∀ (s : Scope) (X' : Cx), OkX X' (c.blk s) → GbOk X'.prog X'.w X'.K X'.mg X'.base ca Φ G → IHF G ca Φ f2 (c.blk s) X')
    (g : GbOk X.prog X.w X.K X.mg X.base ca Φ G) (h : okE G (.dc2 cc d own own2 k v t i f t2 i2 f2) c e = true) : PE X e (LE X ca (ev Φ (.dc2 cc d own own2 k v t i f t2 i2 f2))) := by
  simp only [okE] at h
  split at h <;> try contradiction
  rename_i kx vx tg iter ifs as tg2 iter2 ifs2 as2 s pos
  simp only [Bool.and_eq_true, decide_eq_true_eq] at h
  obtain ⟨⟨⟨⟨⟨⟨⟨⟨⟨⟨⟨⟨⟨⟨⟨rfl, rfl⟩, h1⟩, h2⟩, h3⟩, h4⟩, h5⟩, h6⟩, h7⟩, h8⟩, h9⟩, h10⟩, h11⟩, h12⟩, h13⟩, h14⟩ := h
  have q := pe_dcP2 (ca := ca) (pos := pos) (vs1 := own2) (gg := LG X ca t) (tt := LT X ca (evf Φ f)) (tk := LE X ca (ev Φ k)) (tv := LE X ca (ev Φ v)) (wi1 := LI X ca (evi Φ i2)) (gg1 := LG X ca t2) (tt1 := LT X ca (evf Φ f2)) O (ii tg iter h1) (blkOk O h2) (by rw [own_ix (N := [])]; exact subset_ok h5) (fun s' H' C cl fps => simG (ca := ca) (O.blk s' H' s C cl fps) t tg h6) (fun s' H' C cl fps => iF s _ (O.blk s' H' s C cl fps) g ifs h7)
    (fun s' H' C cl fps => ii2 s _ (O.blk s' H' s C cl fps) g tg2 iter2 h9) (fun s' H' C cl fps => simG (ca := ca) (O.blk s' H' s C cl fps) t2 tg2 h10) (fun s' H' C cl fps => iF2 s _ (O.blk s' H' s C cl fps) g ifs2 h11) (fun s' H' C cl fps => ik s _ (O.blk s' H' s C cl fps) g kx h13) (fun s' H' C cl fps => iv s _ (O.blk s' H' s C cl fps) g vx h14) (fold_plain h8) (fun _ => fold_plain h12)
  refine (q.weak (dc2_read (c := cc) (d := d) (by rw [own_ix (N := [])]; exact subset_ok h3) (subset_ok h4))).to fun fr st => ?_
  rw [own_ix (N := []), ev]
  rfl
end
end Pv
end

section
set_option Elab.async false
set_option linter.all false
set_option maxRecDepth 100000
set_option autoImplicit false
namespace Pv
open PySem PySem.Spec PyProof.Rows L2

section
variable {ca : Str → Option Addr} {Φ : Den} {G : Gb}
abbrev Gk (X : Cx) (ca : Str → Option Addr) (Φ : Den) (G : Gb) : Prop := GbOk X.prog X.w X.K X.mg X.base ca Φ G
theorem pd_to {X : Cx} {pos : Pos} {ks : List (Option Expr)} {vs : List Expr} {f g : Fr → Store → Option (List PV × Store)} (h : PD X pos ks vs (LA X ca f)) (k : ∀ fr st, f fr st = g fr st) : PD X pos ks vs (LA X ca g) := (funext fun fr => funext fun st => k fr st : f = g) ▸ h
theorem pts_weak {X : Cx} {e : List Expr} {t t' : TT} (h : PTs X e t) (k : ∀ σ H Q, t' σ H Q → t σ H Q) : PTs X e t' := ⟨fun pins s σ H Q I q => h.run pins s σ H Q I (k _ _ _ q)⟩
theorem pw_bool {X : Cx} {e : Expr} {t : TT} (h : PW X e t) : PT X e t := h.pt
mutual
theorem simE : ∀ (a : CE) (c : Ctx) (X : Cx), OkX X c → Gk X ca Φ G → IHE G ca Φ a c X
  | .var i, c, X, O, g => fun e h => cVar O h
  | .con v, c, X, O, g => fun e h => cCon h
  | .glb x v, c, X, O, g => fun e h => cGlb O g h
  | .bin op a b, c, X, O, g => fun e h => by
    simp only [okE] at h
    split at h <;> try contradiction
    simp only [Bool.and_eq_true, decide_eq_true_eq] at h
    obtain ⟨⟨rfl, h1⟩, h2⟩ := h
    exact (s_bin (simE a c X O g _ h1) (simE b c X O g _ h2)).to fun fr st => by rw [ev] <;> rfl
  | .neg a, c, X, O, g => fun e h => by
    simp only [okE] at h
    split at h <;> try contradiction
    exact (s_neg (simE a c X O g _ h)).to fun fr st => by rw [ev] <;> rfl
  | .cmp op a b, c, X, O, g => fun e h => (cCmp O (simE a c X O g) (simE b c X O g) h).1
  | .cmp2 o p a b d, c, X, O, g => fun e h => (cCmp2 O (simE a c X O g) (simE b c X O g) (simE d c X O g) h).1
  | .nt a, c, X, O, g => fun e h => by
    simp only [okE] at h
    split at h <;> try contradiction
    exact (s_not (simE a c X O g _ h)).to fun fr st => by rw [ev] <;> rfl
  | .and a b, c, X, O, g => fun e h => by
    simp only [okE] at h
    split at h <;> try contradiction
    rw [Bool.and_eq_true] at h
    obtain ⟨h1, h2⟩ := h
    split at h2
    · exact (s_and (simE a c X O g _ h1) (pe_one (simE b c X O g _ h2))).to fun fr st => by rw [ev] <;> rfl
    · exact (s_and (simE a c X O g _ h1) (simE b c X O g _ h2)).to fun fr st => by rw [ev] <;> rfl
  | .or a b, c, X, O, g => fun e h => by
    simp only [okE] at h
    split at h <;> try contradiction
    rw [Bool.and_eq_true] at h
    obtain ⟨h1, h2⟩ := h
    split at h2
    · exact (s_or (simE a c X O g _ h1) (pe_one (simE b c X O g _ h2))).to fun fr st => by rw [ev] <;> rfl
    · exact (s_or (simE a c X O g _ h1) (simE b c X O g _ h2)).to fun fr st => by rw [ev] <;> rfl
  | .ife t a b, c, X, O, g => fun e h => by
    simp only [okE] at h
    split at h <;> try contradiction
    simp only [Bool.and_eq_true] at h
    obtain ⟨⟨h0, h1⟩, h2⟩ := h
    refine (s_ife (simT t c X O g _ h0).1 (simE a c X O g _ h1) (simE b c X O g _ h2)).to fun fr st => ?_
    rw [ev]
    unfold asT
    cases ev Φ t fr st with
    | none => rfl
    | some p =>
      simp only [Option.bind_some]
      cases blOf p.1 <;> rfl
  | .tup es, c, X, O, g => fun e h => by
    simp only [okE] at h
    split at h <;> try contradiction
    exact (s_tup (simEs es c X O g _ h).1).to fun fr st => by rw [ev] <;> rfl
  | .lstd cc es, c, X, O, g => fun e h => by
    simp only [okE] at h
    split at h <;> try contradiction
    exact (s_lst (c := cc) (simEs es c X O g _ h).1).to fun fr st => by rw [ev] <;> rfl
  | .dctd cc t es, c, X, O, g => fun e h => by
    simp only [okE] at h
    split at h <;> try contradiction
    rename_i ks vs pos
    have rest : (okD G es c ks vs && decide (0 < ks.length) && decide (ks.length ≤ 15)) = true → PE X (.Dict ks vs pos) (LE X ca (ev Φ (.dctd cc t es))) := fun h => by
      simp only [Bool.and_eq_true, decide_eq_true_eq] at h
      obtain ⟨⟨h1, h2⟩, h3⟩ := h
      obtain ⟨k1, k2, k3⟩ := simD es c X O g pos ks vs h1
      exact (s_dctdA (c := cc) (t := t) O.hu k1 k2 k3 (by intro z; rw [z] at h2; simp at h2) h3).to fun fr st => by rw [ev] <;> rfl
    split at h
    · exact (s_dct0 (c := cc) (t := t)).to fun fr st => by simp [ev, evs, prs, dctL]
    · exact rest h
  | .idx a i, c, X, O, g => fun e h => cIdx O (simE a c X O g) (simE i c X O g) h
  | .slc a lo hi, c, X, O, g => fun e h => by
    simp only [okE] at h
    split at h <;> try contradiction
    simp only [Bool.and_eq_true] at h
    obtain ⟨⟨h1, h2⟩, h3⟩ := h
    exact (s_slc (simE a c X O g _ h1) (simO lo c X O g _ h2) (simO hi c X O g _ h3)).to fun fr st => by rw [ev] <;> rfl
  | .rev a, c, X, O, g => fun e h => by
    simp only [okE] at h
    split at h <;> try contradiction
    refine (s_rev (simE a c X O g _ h)).to fun fr st => ?_
    rw [ev]
    cases ev Φ a fr st with
    | none => rfl
    | some p =>
      obtain ⟨x, s⟩ := p
      simp only [Option.bind_some]
      cases x <;> simp [revP, Option.map_map] <;> rfl
  | .call f es, c, X, O, g => fun e h => cCall O g (simEs es c X O g) h
  | .meth f cl m o es, c, X, O, g => fun e h => cMeth O g (simE o c X O g) (simEs es c X O g) h
  | .mk f cl es, c, X, O, g => fun e h => cMk O g (simEs es c X O g) h
  | .bi b es, c, X, O, g => fun e h => cBi O g (simEs es c X O g) h
  | .bm m o es, c, X, O, g => fun e h => cBm O (simE o c X O g) (simEs es c X O g) h
  | .isi a ts, c, X, O, g => fun e h => cIsi O g (simE a c X O g) h
  | .fld o f, c, X, O, g => fun e h => cFld g (simE o c X O g) h
  | .lc cc own el t i f, c, X, O, g => fun e h => cLc O (simI i c X O g) (fun s X' O' g' => simF f (c.blk s) X' O' g') (fun s X' O' g' => simE el (c.blk s) X' O' g') g h
  | .lcl own el t d f, c, X, O, g => fun e h => cLcl O (fun e' h' => simE d c X O g e' h') (fun s X' O' g' => simF f (c.blk s) X' O' g') (fun s X' O' g' => simE el (c.blk s) X' O' g') g h
  | .lc2 cc own own2 el t i f t2 i2 f2, c, X, O, g => fun e h => cLc2 O (simI i c X O g) (fun s X' O' g' => simF f (c.blk s) X' O' g') (fun s X' O' g' => simE el (c.blk s) X' O' g') (fun s X' O' g' => simI i2 (c.blk s) X' O' g') (fun s X' O' g' => simF f2 (c.blk s) X' O' g') g h
  | .dc cc d own k v t i f, c, X, O, g => fun e h => cDc O (simI i c X O g) (fun s X' O' g' => simF f (c.blk s) X' O' g') (fun s X' O' g' => simE k (c.blk s) X' O' g') (fun s X' O' g' => simE v (c.blk s) X' O' g') g h
  | .dc2 cc d own own2 k v t i f t2 i2 f2, c, X, O, g => fun e h => cDc2 O (simI i c X O g) (fun s X' O' g' => simF f (c.blk s) X' O' g') (fun s X' O' g' => simE k (c.blk s) X' O' g') (fun s X' O' g' => simE v (c.blk s) X' O' g') (fun s X' O' g' => simI i2 (c.blk s) X' O' g') (fun s X' O' g' => simF f2 (c.blk s) X' O' g') g h
theorem simT : ∀ (a : CE) (c : Ctx) (X : Cx), OkX X c → Gk X ca Φ G → ∀ e, okT G a c e = true → PT X e (LT X ca (asT (ev Φ a))) ∧ ((∃ op l p, e = .BoolOp op l p) → PW X e (LT X ca (asT (ev Φ a))))
  | .cmp op a b, c, X, O, g => fun e h => by
    have h' : okE G (.cmp op a b) c e = true := by simpa only [okE, okT] using h
    refine ⟨(cCmp O (simE a c X O g) (simE b c X O g) h').2, fun ⟨_, _, _, z⟩ => ?_⟩
    subst z; simp [okT] at h
  | .cmp2 o p a b d, c, X, O, g => fun e h => by
    have h' : okE G (.cmp2 o p a b d) c e = true := by simpa only [okE, okT] using h
    refine ⟨(cCmp2 O (simE a c X O g) (simE b c X O g) (simE d c X O g) h').2, fun ⟨_, _, _, z⟩ => ?_⟩
    subst z; simp [okT] at h
  | .nt a, c, X, O, g => fun e h => by
    simp only [okT] at h
    split at h <;> try contradiction
    refine ⟨(st_not (simT a c X O g _ h).1).to fun fr st => (asT_not fr st).trans ?_, fun ⟨_, _, _, z⟩ => by cases z⟩
    unfold asT
    rw [ev] <;> rfl
  | .and a b, c, X, O, g => fun e h => by
    simp only [okT] at h
    split at h <;> try contradiction
    rw [Bool.and_eq_true] at h
    obtain ⟨h1, h2⟩ := h
    have fin : ∀ {ea : Expr} {eb : Expr} {r : List Expr} {pos : Pos}, PT X ea (LT X ca (asT (ev Φ a))) → PW X (.BoolOp .And (eb :: r) pos) (LT X ca (asT (ev Φ b))) → PW X (.BoolOp .And (ea :: eb :: r) pos) (LT X ca (asT (ev Φ (.and a b)))) := fun k1 k2 => (st_and k1 k2).to fun fr st => (asT_and fr st).trans (by unfold asT; rw [ev] <;> rfl)
    split at h2
    · exact ⟨(fin (simT a c X O g _ h1).1 (pw_and1 (simT b c X O g _ h2).1)).pt, fun _ => fin (simT a c X O g _ h1).1 (pw_and1 (simT b c X O g _ h2).1)⟩
    · have q := fin (simT a c X O g _ h1).1 ((simT b c X O g _ h2).2 ⟨_, _, _, rfl⟩)
      exact ⟨q.pt, fun _ => q⟩
  | .or a b, c, X, O, g => fun e h => by
    simp only [okT] at h
    split at h <;> try contradiction
    rw [Bool.and_eq_true] at h
    obtain ⟨h1, h2⟩ := h
    have fin : ∀ {ea : Expr} {eb : Expr} {r : List Expr} {pos : Pos}, PT X ea (LT X ca (asT (ev Φ a))) → PW X (.BoolOp .Or (eb :: r) pos) (LT X ca (asT (ev Φ b))) → PW X (.BoolOp .Or (ea :: eb :: r) pos) (LT X ca (asT (ev Φ (.or a b)))) := fun k1 k2 => (st_or k1 k2).to fun fr st => (asT_or fr st).trans (by unfold asT; rw [ev] <;> rfl)
    split at h2
    · exact ⟨(fin (simT a c X O g _ h1).1 (pw_or1 (simT b c X O g _ h2).1)).pt, fun _ => fin (simT a c X O g _ h1).1 (pw_or1 (simT b c X O g _ h2).1)⟩
    · have q := fin (simT a c X O g _ h1).1 ((simT b c X O g _ h2).2 ⟨_, _, _, rfl⟩)
      exact ⟨q.pt, fun _ => q⟩
  | .var i, c, X, O, g => fun e h => by
    have h' : okE G (.var i) c e = true := by simpa only [okE, okT] using h
    have hp : plainT e = true := by simp only [okT] at h; split at h <;> first | rfl | cases h
    exact ⟨st_val (cVar O h') (true_plain hp), fun ⟨_, _, _, z⟩ => by subst z; cases hp⟩
  | .con v, c, X, O, g => fun e h => by
    have h' : okE G (.con v) c e = true := by simpa only [okE, okT] using h
    have hp : plainT e = true := by simp only [okT] at h; split at h <;> first | rfl | cases h
    exact ⟨st_val (cCon h') (true_plain hp), fun ⟨_, _, _, z⟩ => by subst z; cases hp⟩
  | .call f es, c, X, O, g => fun e h => by
    have h' : okE G (.call f es) c e = true := by simpa only [okE, okT] using h
    have hp : plainT e = true := by simp only [okT] at h; split at h <;> first | rfl | cases h
    exact ⟨st_val (cCall O g (simEs es c X O g) h') (true_plain hp), fun ⟨_, _, _, z⟩ => by subst z; cases hp⟩
  | .meth f cl m o es, c, X, O, g => fun e h => by
    have h' : okE G (.meth f cl m o es) c e = true := by simpa only [okE, okT] using h
    have hp : plainT e = true := by simp only [okT] at h; split at h <;> first | rfl | cases h
    exact ⟨st_val (cMeth O g (simE o c X O g) (simEs es c X O g) h') (true_plain hp), fun ⟨_, _, _, z⟩ => by subst z; cases hp⟩
  | .bi b es, c, X, O, g => fun e h => by
    have h' : okE G (.bi b es) c e = true := by simpa only [okE, okT] using h
    have hp : plainT e = true := by simp only [okT] at h; split at h <;> first | rfl | cases h
    exact ⟨st_val (cBi O g (simEs es c X O g) h') (true_plain hp), fun ⟨_, _, _, z⟩ => by subst z; cases hp⟩
  | .bm m o es, c, X, O, g => fun e h => by
    have h' : okE G (.bm m o es) c e = true := by simpa only [okE, okT] using h
    have hp : plainT e = true := by simp only [okT] at h; split at h <;> first | rfl | cases h
    exact ⟨st_val (cBm O (simE o c X O g) (simEs es c X O g) h') (true_plain hp), fun ⟨_, _, _, z⟩ => by subst z; cases hp⟩
  | .isi a ts, c, X, O, g => fun e h => by
    have h' : okE G (.isi a ts) c e = true := by simpa only [okE, okT] using h
    have hp : plainT e = true := by simp only [okT] at h; split at h <;> first | rfl | cases h
    exact ⟨st_val (cIsi O g (simE a c X O g) h') (true_plain hp), fun ⟨_, _, _, z⟩ => by subst z; cases hp⟩
  | .idx a i, c, X, O, g => fun e h => by
    have h' : okE G (.idx a i) c e = true := by simpa only [okE, okT] using h
    have hp : plainT e = true := by simp only [okT] at h; split at h <;> first | rfl | cases h
    exact ⟨st_val (cIdx O (simE a c X O g) (simE i c X O g) h') (true_plain hp), fun ⟨_, _, _, z⟩ => by subst z; cases hp⟩
  | .fld o f, c, X, O, g => fun e h => by
    have h' : okE G (.fld o f) c e = true := by simpa only [okE, okT] using h
    have hp : plainT e = true := by simp only [okT] at h; split at h <;> first | rfl | cases h
    exact ⟨st_val (cFld g (simE o c X O g) h') (true_plain hp), fun ⟨_, _, _, z⟩ => by subst z; cases hp⟩
  | .ife _ _ _, _, _, _, _ => fun e h => by simp [okT] at h
  | .glb _ _, _, _, _, _ => fun e h => by simp [okT] at h
  | .bin _ _ _, _, _, _, _ => fun e h => by simp [okT] at h
  | .neg _, _, _, _, _ => fun e h => by simp [okT] at h
  | .tup _, _, _, _, _ => fun e h => by simp [okT] at h
  | .lstd _ _, _, _, _, _ => fun e h => by simp [okT] at h
  | .dctd _ _ _, _, _, _, _ => fun e h => by simp [okT] at h
  | .slc _ _ _, _, _, _, _ => fun e h => by simp [okT] at h
  | .rev _, _, _, _, _ => fun e h => by simp [okT] at h
  | .mk _ _ _, _, _, _, _ => fun e h => by simp [okT] at h
  | .lcl _ _ _ _ _, _, _, _, _ => fun e h => by simp [okT] at h
  | .lc _ _ _ _ _ _, _, _, _, _ => fun e h => by simp [okT] at h
  | .lc2 _ _ _ _ _ _ _ _ _ _, _, _, _, _ => fun e h => by simp [okT] at h
  | .dc _ _ _ _ _ _ _ _, _, _, _, _ => fun e h => by simp [okT] at h
  | .dc2 _ _ _ _ _ _ _ _ _ _ _ _, _, _, _, _ => fun e h => by simp [okT] at h
theorem simEs : ∀ (es : List CE) (c : Ctx) (X : Cx), OkX X c → Gk X ca Φ G → IHs G ca Φ es c X
  | [], c, X, O, g => fun xs h => by
    cases xs with
    | nil => exact ⟨sa_nil.to fun fr st => by rw [evs], rfl⟩
    | cons => simp [okEs] at h
  | e :: es, c, X, O, g => fun xs h => by
    cases xs with
    | nil => simp [okEs] at h
    | cons x xs =>
      simp only [okEs, Bool.and_eq_true] at h
      obtain ⟨⟨h1, h2⟩, h3⟩ := h
      obtain ⟨k1, k2⟩ := simEs es c X O g xs h3
      exact ⟨(sa_cons (simE e c X O g _ h2) k1 (star_cons h1)).to fun fr st => by rw [evs] <;> rfl, by rw [List.all_cons, h1, k2]; rfl⟩
theorem simD : ∀ (es : List CE) (c : Ctx) (X : Cx), OkX X c → Gk X ca Φ G → ∀ (pos : Pos) (ks : List (Option Expr)) (vs : List Expr), okD G es c ks vs = true → PD X pos ks vs (LA X ca (evs Φ es)) ∧ ks.all (·.isSome) = true ∧ ks.length = vs.length
  | [], c, X, O, g => fun pos ks vs h => by
    cases ks <;> cases vs <;> simp [okD] at h
    exact ⟨pd_to pd_nil fun fr st => by rw [evs], rfl, rfl⟩
  | [a], c, X, O, g => fun pos ks vs h => by
    match ks, vs, h with
    | some _ :: _, _ :: _, h => simp [okD] at h
    | [], _, h => simp [okD] at h
    | none :: _, _, h => simp [okD] at h
    | some _ :: _, [], h => simp [okD] at h
  | a :: b :: es, c, X, O, g => fun pos ks vs h => by
    match ks, vs, h with
    | some k :: ks, v :: vs, h =>
      simp only [okD, Bool.and_eq_true] at h
      obtain ⟨h1, h2, h3⟩ := h
      obtain ⟨k1, k2, k3⟩ := simD es c X O g pos ks vs h3
      exact ⟨pd_to (pd_cons (simE a c X O g _ h1) (simE b c X O g _ h2) k1) fun fr st => by simp only [evs] <;> rfl, by simpa using k2, by simp [k3]⟩
    | [], _, h => simp [okD] at h
    | none :: _, _, h => simp [okD] at h
    | some _ :: _, [], h => simp [okD] at h
theorem simO : ∀ (o : Option CE) (c : Ctx) (X : Cx), OkX X c → Gk X ca Φ G → ∀ x, okO G o c x = true → PO X x (LO X ca (evo Φ o))
  | none, c, X, O, g => fun x h => by
    cases x with
    | none => exact so_none.to fun fr st => by rw [evo]
    | some => simp [okO] at h
  | some e, c, X, O, g => fun x h => by
    cases x with
    | none => simp [okO] at h
    | some x =>
      simp only [okO] at h
      exact (so_some (simE e c X O g _ h)).to fun fr st => by rw [evo] <;> rfl
theorem simF : ∀ (f : Option CE) (c : Ctx) (X : Cx), OkX X c → Gk X ca Φ G → IHF G ca Φ f c X
  | none, c, X, O, g => fun xs h => by
    cases xs with
    | nil =>
      refine pts_weak pts_nil fun σ H Q ⟨F, mu, fr, st, v, st', G, R, e, q⟩ => ?_
      rw [evf] at e
      simp only [Option.some.injEq, Prod.mk.injEq] at e
      obtain ⟨rfl, rfl⟩ := e
      exact q F mu H .refl G
    | cons => simp [okF] at h
  | some e, c, X, O, g => fun xs h => by
    match xs, h with
    | [x], h =>
      simp only [okF] at h
      refine pts_weak (pts_one (simT e c X O g _ h).1) fun σ H Q q => ?_
      have : evf Φ (some e) = asT (ev Φ e) := by
        funext fr st
        rw [evf] <;> rfl
      rw [← this]
      exact q
    | [], h => simp [okF] at h
    | _ :: _ :: _, h => simp [okF] at h
theorem simI : ∀ (i : CI) (c : Ctx) (X : Cx), OkX X c → Gk X ca Φ G → IHI G ca Φ i c X
  | .seq e, c, X, O, g => fun tg x h => by
    simp only [okI] at h
    exact (si_seq (simE e c X O g _ h)).to fun fr st => by rw [evi] <;> rfl
  | .rng1 a, c, X, O, g => fun tg x h => by
    simp only [okI] at h
    split at h <;> try contradiction
    simp only [Bool.and_eq_true] at h
    obtain ⟨⟨⟨h1, h2⟩, h3⟩, h4⟩ := h
    obtain rfl := eq_of_beq h1
    obtain ⟨k1, k2⟩ := O.bl g h2
    exact (si_rng1 k1 k2 (simE a c X O g _ h3) (star_cons h4)).to fun fr st => by rw [evi] <;> rfl
  | .rng2 a b, c, X, O, g => fun tg x h => by
    simp only [okI] at h
    split at h <;> try contradiction
    simp only [Bool.and_eq_true] at h
    obtain ⟨⟨⟨⟨⟨h1, h2⟩, h3⟩, h4⟩, h5⟩, h6⟩ := h
    obtain rfl := eq_of_beq h1
    obtain ⟨k1, k2⟩ := O.bl g h2
    exact (si_rng2 k1 k2 (simE a c X O g _ h3) (simE b c X O g _ h5) (by rw [star_cons h4, star_cons h6]; rfl) (star_cons h6)).to fun fr st => by rw [evi] <;> rfl
  | .enum a, c, X, O, g => fun tg x h => by
    simp only [okI] at h
    split at h <;> try contradiction
    simp only [Bool.and_eq_true] at h
    obtain ⟨⟨⟨h1, h2⟩, h3⟩, h4⟩ := h
    obtain rfl := eq_of_beq h1
    obtain ⟨k1, k2⟩ := O.bl g h2
    exact (si_enum k1 k2 (simE a c X O g _ h3) (star_cons h4)).to fun fr st => by rw [evi] <;> rfl
  | .zip a b, c, X, O, g => fun tg x h => by
    simp only [okI] at h
    split at h <;> try contradiction
    simp only [Bool.and_eq_true] at h
    obtain ⟨⟨⟨⟨⟨h1, h2⟩, h3⟩, h4⟩, h5⟩, h6⟩ := h
    obtain rfl := eq_of_beq h1
    obtain ⟨k1, k2⟩ := O.bl g h2
    exact (si_zip k1 k2 (simE a c X O g _ h3) (simE b c X O g _ h5) (star_cons h4) (star_cons h6) (star_any (by rw [List.all_cons, h6]; rfl))).to fun fr st => by rw [evi] <;> rfl
  | .items a, c, X, O, g => fun tg x h => by
    simp only [okI] at h
    split at h <;> try contradiction
    simp only [Bool.and_eq_true] at h
    obtain ⟨⟨⟨h1, h2⟩, h3⟩, h4⟩ := h
    obtain rfl := eq_of_beq h1
    exact (si_items (simE a c X O g _ h2) (base_plain h3) h4).to fun fr st => by rw [evi] <;> rfl
end
end
end Pv
end

section
set_option Elab.async false
set_option linter.all false
set_option maxRecDepth 100000
set_option autoImplicit false
namespace Pv
open PySem PySem.Spec PyProof.Rows L2

mutual
def okS (G : Gb) : CS → Ctx → Stmt → Bool
  | .ex e, c, s => match s with
    | .Expr x _ => okE G e c x && noComp x
    | _ => false
  | .set t e, c, s => match s with
    | .Assign [tg] x _ => okE G e c x && (match t, tg with
      | .nm i, .Name nm px => c.sets i nm && (match compSc x with
        | none => noComp x
        | some sc => !swB c.sc x nm px sc || c.loc nm)
      | .tp ts, .Tuple es k p => (match x with
        | .Tuple vs _ _ => (match swp c.sc es vs with
          | some none => okG c t tg
          | some (some names) => (match ts, es, vs, names with
            | [.nm i, .nm j], [.Name a _, .Name b _], [_, _], [a', b'] => a == a' && b == b' && c.at i a && c.at j b && !(i == j) && c.loc a && c.loc b
            | [.nm i, .nm j, .nm l], [.Name a _, .Name b _, .Name d _], [_, _, _], [a', b', d'] => a == a' && b == b' && d == d' && c.at i a && c.at j b && c.at l d && !(i == j) && !(i == l) && !(j == l) && c.loc a && c.loc b && c.loc d
            | _, _, _, _ => false)
          | none => false)
        | _ => noTup x && okG c t tg)
      | _, _ => false)
    | _ => false
  | .seti o i e, c, s => match s with
    | .Assign [.Subscript eo ei _] x _ => okE G e c x && okE G o c eo && okE G i c ei && noSlice ei
    | _ => false
  | .setf o f e, c, s => match s with
    | .Assign [.Attribute eo f' _] x _ => f == f' && okE G e c x && okE G o c eo && G.flds.contains f
    | _ => false
  | .aug _ _ _, _, _ => false
  | .ret e, c, s => match s with
    | .Return (some x) _ => okE G e c x
    | _ => false
  | .retN, _, s => match s with
    | .Return none _ => true
    | _ => false
  | .ife t a b, c, s => match s with
    | .If x p q _ => okT G t c x && okSs G a c p && okSs G b c q
    | _ => false
  | .whl t b, c, s => match s with
    | .While x p [] _ => okT G t c x && okSs G b c p
    | _ => false
  | .frr t i b, c, s => match s with
    | .For tg x p [] _ => okI G i c tg x && okG c t tg && okSs G b c p && noSet x
    | _ => false
  | .brk, _, s => match s with
    | .Break _ => true
    | _ => false
  | .cnt, _, s => match s with
    | .Continue _ => true
    | _ => false
  | .pass, _, s => match s with
    | .Pass _ => true
    | _ => false
  | .nev, _, _ => true
  | .frz _, _, _ => false
def okSs (G : Gb) : List CS → Ctx → List Stmt → Bool
  | [], _, ss => match ss with
    | [] => true
    | _ => false
  | .frz _ :: cs, c, ss => okSs G cs c ss
  | .nev :: _, _, _ => true
  | s :: cs, c, ss => match ss with
    | x :: xs => okS G s c x && okSs G cs c xs
    | [] => false
end
structure OkY (X : Cx) (c : Ctx) : Prop where
  ok : OkX X c
  own : PassesOwn (model X.prog X.w) X.A X.env X.xe
  kind : c.sc.kind = .function
section
variable {X : Cx} {c : Ctx} {ca : Str → Option Addr} {Φ : Den} {G : Gb} {e : Expr}
def noName : Expr → Bool
  | .Name .. => false
  | _ => true
theorem sw_sole {t : Expr} {l : Nat} {env : Env} (h : noName t = true) : swapsWithSole [t] e l env = pure false := sw_other fun x p z => by subst z; cases h
theorem asg_sub {eo ei : Expr} {p : Pos} {env : Env} (h : noSlice ei = true) : ∀ v, assign (.Subscript eo ei p) env v = (do
    let ov ← holding [v] (eval eo env)
    let iv ← holding [v, ov] (eval ei env)
    standAt p
    holding [v, ov, iv] (setItem ov iv v)
    release [v, ov, iv] []) := by
  intro v
  cases ei <;> first | rfl | cases h
theorem noComp_of (h : compSc e = none) : noComp e = true := by
  cases e <;> first | rfl | cases h
theorem _root_.L2.PS.to {e : Stmt} {f g : Fr → Store → Option (Fl × Fr × Store)} (h : PS X e (LS X ca f)) (k : ∀ fr st, f fr st = g fr st) : PS X e (LS X ca g) := (funext fun fr => funext fun st => k fr st : f = g) ▸ h
theorem _root_.L2.PSs.to {e : List Stmt} {f g : Fr → Store → Option (Fl × Fr × Store)} (h : PSs X e (LS X ca f)) (k : ∀ fr st, f fr st = g fr st) : PSs X e (LS X ca g) := (funext fun fr => funext fun st => k fr st : f = g) ▸ h
/-- name = {..} on one line -/
theorem ps_setDcP {n : Nat} {y : Str} {py spos : Pos} {kx vx tg iter : Expr} {ifs : List Expr} {scope : Scope} {own : List (Str × Nat)} {pos : Pos} {wi : TI} {gg : TG} {tt : TT} {tk tv : TE} (O : OkX X c) (hy : X.N[n]? = some y) (hyl : X.env.scope.names.lookup y = some .local)
    (hsw : swapsWith (.DictComp kx vx [⟨tg, iter, ifs, 0⟩] scope pos) (some (.Name y py)) spos.line X.env = pure true) (hi : PI X tg iter wi) (ok : BlkOk X.N X.env.scope scope own)
    (hg : ∀ (s : Shared) (H : Hp) (C : Addr) (cl : List (Str × Addr)) (fps : List Addr), PG (X.blk s H scope (compEnvC scope cl C X.env) fps) tg gg)
    (ht : ∀ (s : Shared) (H : Hp) (C : Addr) (cl : List (Str × Addr)) (fps : List Addr), PTs (X.blk s H scope (compEnvC scope cl C X.env) fps) ifs tt)
    (hk : ∀ (s : Shared) (H : Hp) (C : Addr) (cl : List (Str × Addr)) (fps : List Addr), PE (X.blk s H scope (compEnvC scope cl C X.env) fps) kx tk)
    (hv : ∀ (s : Shared) (H : Hp) (C : Addr) (cl : List (Str × Addr)) (fps : List Addr), PE (X.blk s H scope (compEnvC scope cl C X.env) fps) vx tv) (hs : ∀ x, foldedSetIterable iter X.env x = pure x) :
    PS X (.Assign [.Name y py] (.DictComp kx vx [⟨tg, iter, ifs, 0⟩] scope pos) spos) (tAsg (tDcP X ca wi gg tt tk tv (own.map (·.2))) (gName n)) := by
  refine ⟨fun pins s σ H D I h => ?_⟩
  rw [exec_Assign_Name_used _ _ _ _ hsw]
  refine wpAny_bind (wpAny_standAt (wpAny_bind ?_))
  show wpAny _ X.A (do let _ ← comprehension (.DictComp kx vx [⟨tg, iter, ifs, 0⟩] scope pos) scope X.env (firstIterPos [⟨tg, iter, ifs, 0⟩] pos) newDict false (eval iter X.env) (some (assign (.Name y py) X.env))) _ _ s
  have h : tDcP X ca wi gg tt tk tv (own.map (·.2)) σ H (fun x H1 => gName n x σ H1 D.nx) := h
  refine wpAny_bind (thn (dcP_core (Qf := fun _ s' => SP X pins D .next s') O.hu O.calm O.nd I hi ok hg ht hk hv hs h fun L C s' m H' I' q hn f => ?_) fun _ s' hq => wpAny_pure (wpAny_pure hq))
  show wpAny _ _ (assign (.Name y py) X.env (.ref L)) _ _ _
  refine wpAny_assign_Name (store_ok2 (v := V.ref L) I' O.nd hy (.inl hyl) rfl (fun s2 I2 ⟨a, sb, ha⟩ => ?_) (.inr hyl))
  have haC : C ≠ a := ha.elim (fun z => z ▸ f.2.1) fun z e => f.2.2.2.2.1 y a z e.symm
  exact ⟨m, hn.sameBut sb haC, fun h3 sb3 => ⟨_, H', I2.turned (t' := s2.toks) (fun b o hb e => (sb3.2 b hb).trans e) f.1 f.2.1 f.2.2.2.1 f.2.2.2.2.1 f.2.2.2.2.2, q⟩⟩
theorem ps_setDcP2 {n : Nat} {y : Str} {py spos : Pos} {kx vx tg iter tg1 iter1 : Expr} {ifs ifs1 : List Expr} {scope : Scope} {own : List (Str × Nat)} {vs1 : List Nat} {pos : Pos} {wi wi1 : TI} {gg gg1 : TG} {tt tt1 : TT} {tk tv : TE} (O : OkX X c) (hy : X.N[n]? = some y) (hyl : X.env.scope.names.lookup y = some .local)
    (hsw : swapsWith (.DictComp kx vx [⟨tg, iter, ifs, 0⟩, ⟨tg1, iter1, ifs1, 0⟩] scope pos) (some (.Name y py)) spos.line X.env = pure true) (hi : PI X tg iter wi) (ok : BlkOk X.N X.env.scope scope own) (hv1 : ∀ i ∈ vs1, i ∈ own.map (·.2))
    (hg : ∀ (s : Shared) (H : Hp) (C : Addr) (cl : List (Str × Addr)) (fps : List Addr), PG (X.blk s H scope (compEnvC scope cl C X.env) fps) tg gg)
    (ht : ∀ (s : Shared) (H : Hp) (C : Addr) (cl : List (Str × Addr)) (fps : List Addr), PTs (X.blk s H scope (compEnvC scope cl C X.env) fps) ifs tt)
    (hi1 : ∀ (s : Shared) (H : Hp) (C : Addr) (cl : List (Str × Addr)) (fps : List Addr), PI (X.blk s H scope (compEnvC scope cl C X.env) fps) tg1 iter1 wi1)
    (hg1 : ∀ (s : Shared) (H : Hp) (C : Addr) (cl : List (Str × Addr)) (fps : List Addr), PG (X.blk s H scope (compEnvC scope cl C X.env) fps) tg1 gg1)
    (ht1 : ∀ (s : Shared) (H : Hp) (C : Addr) (cl : List (Str × Addr)) (fps : List Addr), PTs (X.blk s H scope (compEnvC scope cl C X.env) fps) ifs1 tt1)
    (hk : ∀ (s : Shared) (H : Hp) (C : Addr) (cl : List (Str × Addr)) (fps : List Addr), PE (X.blk s H scope (compEnvC scope cl C X.env) fps) kx tk)
    (hv : ∀ (s : Shared) (H : Hp) (C : Addr) (cl : List (Str × Addr)) (fps : List Addr), PE (X.blk s H scope (compEnvC scope cl C X.env) fps) vx tv) (hs : ∀ x, foldedSetIterable iter X.env x = pure x) (hs1 : ∀ env x, foldedSetIterable iter1 env x = pure x) :
    PS X (.Assign [.Name y py] (.DictComp kx vx [⟨tg, iter, ifs, 0⟩, ⟨tg1, iter1, ifs1, 0⟩] scope pos) spos) (tAsg (tDcP2 X ca wi gg tt wi1 gg1 tt1 tk tv (own.map (·.2)) vs1) (gName n)) := by
  refine ⟨fun pins s σ H D I h => ?_⟩
  rw [exec_Assign_Name_used _ _ _ _ hsw]
  refine wpAny_bind (wpAny_standAt (wpAny_bind ?_))
  show wpAny _ X.A (do let _ ← comprehension (.DictComp kx vx [⟨tg, iter, ifs, 0⟩, ⟨tg1, iter1, ifs1, 0⟩] scope pos) scope X.env (firstIterPos [⟨tg, iter, ifs, 0⟩, ⟨tg1, iter1, ifs1, 0⟩] pos) newDict false (eval iter X.env) (some (assign (.Name y py) X.env))) _ _ s
  have h : tDcP2 X ca wi gg tt wi1 gg1 tt1 tk tv (own.map (·.2)) vs1 σ H (fun x H1 => gName n x σ H1 D.nx) := h
  refine wpAny_bind (thn (dcP2_core (Qf := fun _ s' => SP X pins D .next s') O.hu O.calm O.nd I hi ok hv1 hg ht hi1 hg1 ht1 hk hv hs hs1 h fun L C s' m H' I' q hn f => ?_) fun _ s' hq => wpAny_pure (wpAny_pure hq))
  show wpAny _ _ (assign (.Name y py) X.env (.ref L)) _ _ _
  refine wpAny_assign_Name (store_ok2 (v := V.ref L) I' O.nd hy (.inl hyl) rfl (fun s2 I2 ⟨a, sb, ha⟩ => ?_) (.inr hyl))
  have haC : C ≠ a := ha.elim (fun z => z ▸ f.2.1) fun z e => f.2.2.2.2.1 y a z e.symm
  exact ⟨m, hn.sameBut sb haC, fun h3 sb3 => ⟨_, H', I2.turned (t' := s2.toks) (fun b o hb e => (sb3.2 b hb).trans e) f.1 f.2.1 f.2.2.2.1 f.2.2.2.2.1 f.2.2.2.2.2, q⟩⟩
/-- a comprehension that is stored at once -/
theorem cSetComp (g : Gk X ca Φ G) (O : OkX X c) {n : Nat} {y : Str} {py spos : Pos} {a : CE} (hy : X.N[n]? = some y) (hyl : X.env.scope.names.lookup y = some .local) {s : Scope} (hc : compSc e = some s) (hsw : swapsWith e (some (.Name y py)) spos.line X.env = pure true) (h : okE G a c e = true) :
    PS X (.Assign [.Name y py] e spos) (LS X ca (setS (.nm n) (ev Φ a))) := by
  cases a with
  | lc cc own el t i f =>
    simp only [okE] at h
    split at h <;> try contradiction
    rename_i elt tg iter ifs as s pos
    simp only [Bool.and_eq_true, decide_eq_true_eq] at h
    obtain ⟨⟨⟨⟨⟨⟨⟨rfl, h1⟩, h2⟩, h3⟩, h4⟩, h5⟩, h6⟩, h7⟩ := h
    have q := ps_setLc (X := X) (pos := pos) (g := LG X ca t) (tt := LT X ca (evf Φ f)) (te := LE X ca (ev Φ el)) O.calm O.nd hy hyl hsw (simI i c X O g tg iter h1) (blkOk O h2) (fun s' H' C cl fps => simG (ca := ca) (O.blk s' H' s C cl fps) t tg h4) (fun s' H' C cl fps => simF f _ _ (O.blk s' H' s C cl fps) g ifs h5) (fun s' H' C cl fps => simE el _ _ (O.blk s' H' s C cl fps) g elt h6) (fold_plain h7)
    refine q.weak (set_read fun σ H Q hh => lc_read (c := cc) (by rw [own_ix (N := [])]; exact subset_ok h3) σ H Q ?_)
    have e : ev Φ (.lc cc own el t i f) = fun fr st => (evi Φ i fr st).bind fun xs => (clL (lcS ((c.own own).map (·.2)) t (evf Φ f) (one (ev Φ el)) fr) xs.1 xs.2).bind fun vs => mkL cc vs.1 vs.2 := by
      funext fr st
      rw [own_ix (N := []), ev]
      rfl
    rw [← e]
    exact hh
  | lcl own el t d f =>
    simp only [okE] at h
    split at h <;> try contradiction
    rename_i elt tg iter ifs as s pos
    simp only [Bool.and_eq_true, decide_eq_true_eq] at h
    obtain ⟨⟨⟨⟨⟨⟨⟨rfl, h1⟩, h2⟩, h3⟩, h4⟩, h5⟩, h6⟩, h7⟩ := h
    have q := ps_setLc (X := X) (pos := pos) (g := LG X ca t) (tt := LT X ca (evf Φ f)) (te := LE X ca (ev Φ el)) O.calm O.nd hy hyl hsw (pi_keysD (tg := tg) (simE d c X O g iter h1)) (blkOk O h2) (fun s' H' C cl fps => simG (ca := ca) (O.blk s' H' s C cl fps) t tg h4) (fun s' H' C cl fps => simF f _ _ (O.blk s' H' s C cl fps) g ifs h5) (fun s' H' C cl fps => simE el _ _ (O.blk s' H' s C cl fps) g elt h6) (fold_plain h7)
    refine q.weak (set_read fun σ H Q hh => lcl_read (by rw [own_ix (N := [])]; exact subset_ok h3) σ H Q ?_)
    have e : ev Φ (.lcl own el t d f) = lclS ((c.own own).map (·.2)) t (ev Φ d) (evf Φ f) (ev Φ el) := by
      funext fr st
      rw [own_ix (N := []), ev]
      rfl
    rw [← e]
    exact hh
  | lc2 cc own own2 el t i f t2 i2 f2 =>
    simp only [okE] at h
    split at h <;> try contradiction
    rename_i elt tg iter ifs as tg2 iter2 ifs2 as2 s pos
    simp only [Bool.and_eq_true, decide_eq_true_eq] at h
    obtain ⟨⟨⟨⟨⟨⟨⟨⟨⟨⟨⟨⟨⟨⟨rfl, rfl⟩, h1⟩, h2⟩, h3⟩, h4⟩, h5⟩, h6⟩, h7⟩, h8⟩, h9⟩, h10⟩, h11⟩, h12⟩, h13⟩ := h
    have q := ps_setLc2 (X := X) (pos := pos) (vs1 := own2) (g := LG X ca t) (tt := LT X ca (evf Φ f)) (te := LE X ca (ev Φ el)) (wi1 := LI X ca (evi Φ i2)) (g1 := LG X ca t2) (tt1 := LT X ca (evf Φ f2)) O.calm O.nd hy hyl hsw (simI i c X O g tg iter h1) (blkOk O h2) (by rw [own_ix (N := [])]; exact subset_ok h5) (fun s' H' C cl fps => simG (ca := ca) (O.blk s' H' s C cl fps) t tg h6)
      (fun s' H' C cl fps => simF f _ _ (O.blk s' H' s C cl fps) g ifs h7) (fun s' H' C cl fps => simI i2 _ _ (O.blk s' H' s C cl fps) g tg2 iter2 h9) (fun s' H' C cl fps => simG (ca := ca) (O.blk s' H' s C cl fps) t2 tg2 h10) (fun s' H' C cl fps => simF f2 _ _ (O.blk s' H' s C cl fps) g ifs2 h11) (fun s' H' C cl fps => simE el _ _ (O.blk s' H' s C cl fps) g elt h13) (fold_plain h8) (fun _ => fold_plain h12)
    refine q.weak (set_read fun σ H Q hh => lc2_read (c := cc) (by rw [own_ix (N := [])]; exact subset_ok h3) (subset_ok h4) σ H Q ?_)
    have e : ev Φ (.lc2 cc own own2 el t i f t2 i2 f2) = fun fr st => (evi Φ i fr st).bind fun xs => (clL (lcS ((c.own own).map (·.2)) t (evf Φ f) (inS (evi Φ i2) own2 t2 (evf Φ f2) (one (ev Φ el))) fr) xs.1 xs.2).bind fun vs => mkL cc vs.1 vs.2 := by
      funext fr st
      rw [own_ix (N := []), ev]
      rfl
    rw [← e]
    exact hh
  | dc cc d own k v t i f =>
    simp only [okE] at h
    split at h <;> try contradiction
    rename_i kx vx tg iter ifs as s pos
    simp only [Bool.and_eq_true, decide_eq_true_eq] at h
    obtain ⟨⟨⟨⟨⟨⟨⟨⟨rfl, h1⟩, h2⟩, h3⟩, h4⟩, h5⟩, h6⟩, h7⟩, h8⟩ := h
    have q := ps_setDcP (ca := ca) (pos := pos) (gg := LG X ca t) (tt := LT X ca (evf Φ f)) (tk := LE X ca (ev Φ k)) (tv := LE X ca (ev Φ v)) O hy hyl hsw (simI i c X O g tg iter h1) (blkOk O h2) (fun s' H' C cl fps => simG (ca := ca) (O.blk s' H' s C cl fps) t tg h4) (fun s' H' C cl fps => simF f _ _ (O.blk s' H' s C cl fps) g ifs h5)
      (fun s' H' C cl fps => simE k _ _ (O.blk s' H' s C cl fps) g kx h6) (fun s' H' C cl fps => simE v _ _ (O.blk s' H' s C cl fps) g vx h7) (fold_plain h8)
    refine q.weak (set_read fun σ H Q hh => dc_read (c := cc) (d := d) (by rw [own_ix (N := [])]; exact subset_ok h3) σ H Q ?_)
    have e : ev Φ (.dc cc d own k v t i f) = fun fr st => (evi Φ i fr st).bind fun xs => (clL (lcS ((c.own own).map (·.2)) t (evf Φ f) (pr d (ev Φ k) (ev Φ v)) fr) xs.1 xs.2).bind fun vs => if vs.1.length ≤ SZ then some (mkD cc d (dctL vs.1) vs.2) else none := by
      funext fr st
      rw [own_ix (N := []), ev]
      rfl
    rw [← e]
    exact hh
  | dc2 cc d own own2 k v t i f t2 i2 f2 =>
    simp only [okE] at h
    split at h <;> try contradiction
    rename_i kx vx tg iter ifs as tg2 iter2 ifs2 as2 s pos
    simp only [Bool.and_eq_true, decide_eq_true_eq] at h
    obtain ⟨⟨⟨⟨⟨⟨⟨⟨⟨⟨⟨⟨⟨⟨⟨rfl, rfl⟩, h1⟩, h2⟩, h3⟩, h4⟩, h5⟩, h6⟩, h7⟩, h8⟩, h9⟩, h10⟩, h11⟩, h12⟩, h13⟩, h14⟩ := h
    have q := ps_setDcP2 (ca := ca) (pos := pos) (vs1 := own2) (gg := LG X ca t) (tt := LT X ca (evf Φ f)) (tk := LE X ca (ev Φ k)) (tv := LE X ca (ev Φ v)) (wi1 := LI X ca (evi Φ i2)) (gg1 := LG X ca t2) (tt1 := LT X ca (evf Φ f2)) O hy hyl hsw (simI i c X O g tg iter h1) (blkOk O h2) (by rw [own_ix (N := [])]; exact subset_ok h5)
      (fun s' H' C cl fps => simG (ca := ca) (O.blk s' H' s C cl fps) t tg h6) (fun s' H' C cl fps => simF f _ _ (O.blk s' H' s C cl fps) g ifs h7) (fun s' H' C cl fps => simI i2 _ _ (O.blk s' H' s C cl fps) g tg2 iter2 h9) (fun s' H' C cl fps => simG (ca := ca) (O.blk s' H' s C cl fps) t2 tg2 h10) (fun s' H' C cl fps => simF f2 _ _ (O.blk s' H' s C cl fps) g ifs2 h11)
      (fun s' H' C cl fps => simE k _ _ (O.blk s' H' s C cl fps) g kx h13) (fun s' H' C cl fps => simE v _ _ (O.blk s' H' s C cl fps) g vx h14) (fold_plain h8) (fun _ => fold_plain h12)
    refine q.weak (set_read fun σ H Q hh => dc2_read (c := cc) (d := d) (by rw [own_ix (N := [])]; exact subset_ok h3) (subset_ok h4) σ H Q ?_)
    have e : ev Φ (.dc2 cc d own own2 k v t i f t2 i2 f2) = fun fr st => (evi Φ i fr st).bind fun xs => (clL (lcS ((c.own own).map (·.2)) t (evf Φ f) (inS (evi Φ i2) own2 t2 (evf Φ f2) (pr d (ev Φ k) (ev Φ v))) fr) xs.1 xs.2).bind fun vs => if vs.1.length ≤ SZ then some (mkD cc d (dctL vs.1) vs.2) else none := by
      funext fr st
      rw [own_ix (N := []), ev]
      rfl
    rw [← e]
    exact hh
  | _ => cases e <;> simp [compSc] at hc <;> simp [okE] at h
theorem cSet (g : Gk X ca Φ G) (O : OkY X c) {t : CT} {a : CE} {s : Stmt} (h : okS G (.set t a) c s = true) : PS X s (LS X ca (setS t (ev Φ a))) := by
  simp only [okS] at h
  split at h <;> try contradiction
  rename_i tg x pos
  rw [Bool.and_eq_true] at h
  obtain ⟨h1, h2⟩ := h
  have hk : X.env.scope.kind = .function := by rw [O.ok.esc]; exact O.kind
  split at h2
  · rename_i i nm px
    rw [Bool.and_eq_true] at h2
    obtain ⟨h2, h3⟩ := h2
    obtain ⟨k1, k2, k3⟩ := O.ok.sets h2
    split at h3
    · exact sx_set O.ok.nd k1 k2 (simE a c X O.ok g x h1) (sw_none h3) k3
    · rename_i sc hsc
      cases hb : swB c.sc x nm px sc with
      | false => exact sx_set O.ok.nd k1 k2 (simE a c X O.ok g x h1) (by rw [sw_name hsc O.ok.esc O.kind, hb]) k3
      | true =>
        rw [hb] at h3
        have h3 : c.loc nm = true := by simpa using h3
        exact cSetComp g O.ok k1 (by rw [O.ok.esc]; exact eq_of_beq h3) hsc (by rw [sw_name hsc O.ok.esc O.kind, hb]) h1
  · rename_i ts es k p
    have plain : swappedStores [.Tuple es k p] x X.env = pure none → okG c (.tp ts) (.Tuple es k p) = true → PS X (.Assign [.Tuple es k p] x pos) (LS X ca (setS (.tp ts) (ev Φ a))) := fun hw hg =>
      sx_asg (simE a c X O.ok g x h1) (simG O.ok _ _ hg) (sw_sole rfl) hw (asg_one rfl)
    split at h2
    · rename_i vs k2 p2
      split at h2
      · rename_i hsw
        exact plain (swp_ok O.ok.esc O.kind hsw) h2
      · rename_i names hsw
        have hw := swp_ok (k := k) (k2 := k2) (p := p) (p2 := p2) O.ok.esc O.kind hsw
        cases a with
        | tup as =>
          simp only [okE] at h1
          have ha := (simEs as c X O.ok g vs h1).1
          have e : ev Φ (.tup as) = tupS (evs Φ as) := by funext fr st; rw [ev] <;> rfl
          rw [e]
          split at h2
          · rename_i i j a1 pa b1 pb v1 v2 a' b'
            simp only [Bool.and_eq_true, Bool.not_eq_true'] at h2
            obtain ⟨⟨⟨⟨⟨⟨h2, h3⟩, h4⟩, h5⟩, h6⟩, h7⟩, h8⟩ := h2
            obtain rfl := eq_of_beq h2
            obtain rfl := eq_of_beq h3
            exact sx_par O.ok.calm O.ok.nd (O.ok.at h4) (O.ok.at h5) (by simpa using h6) (by rw [O.ok.esc]; exact eq_of_beq h7) (by rw [O.ok.esc]; exact eq_of_beq h8) ha hw (sw_sole rfl)
          · rename_i i j l a1 pa b1 pb d1 pd v1 v2 v3 a' b' d'
            simp only [Bool.and_eq_true, Bool.not_eq_true'] at h2
            obtain ⟨⟨⟨⟨⟨⟨⟨⟨⟨⟨⟨h2, h3⟩, h4⟩, h5⟩, h6⟩, h7⟩, h8⟩, h9⟩, h10⟩, h11⟩, h12⟩, h13⟩ := h2
            obtain rfl := eq_of_beq h2
            obtain rfl := eq_of_beq h3
            obtain rfl := eq_of_beq h4
            exact sx_par3 O.ok.calm O.ok.nd (O.ok.at h5) (O.ok.at h6) (O.ok.at h7) (by simpa using h8) (by simpa using h9) (by simpa using h10) (by rw [O.ok.esc]; exact eq_of_beq h11) (by rw [O.ok.esc]; exact eq_of_beq h12) (by rw [O.ok.esc]; exact eq_of_beq h13) ha hw (sw_sole rfl)
          · cases h2
        | _ => simp [okE] at h1
      · cases h2
    · rw [Bool.and_eq_true] at h2
      exact plain (swp_no2 h2.1) h2.2
  · cases h2
mutual
theorem simS : ∀ (s : CS) (c : Ctx) (X : Cx), OkY X c → Gk X ca Φ G → ∀ x, okS G s c x = true → PS X x (LS X ca (ex Φ s))
  | .ex e, c, X, O, g => fun x h => by
    simp only [okS] at h
    split at h <;> try contradiction
    rw [Bool.and_eq_true] at h
    exact (sx_ex (simE e c X O.ok g _ h.1) (sw_none h.2)).to fun fr st => by rw [ex] <;> rfl
  | .set t e, c, X, O, g => fun x h => (cSet g O h).to fun fr st => by rw [ex] <;> rfl
  | .seti o i e, c, X, O, g => fun x h => by
    simp only [okS] at h
    split at h <;> try contradiction
    rename_i eo ei p1 xx p2
    simp only [Bool.and_eq_true] at h
    obtain ⟨⟨⟨h1, h2⟩, h3⟩, h4⟩ := h
    have q := sx_seti (ca := ca) (p1 := p1) (pos := p2) O.ok.hu (simE e c X O.ok g _ h1) (simE o c X O.ok g _ h2) (simE i c X O.ok g _ h3) (sw_sole rfl) (swp_no1 rfl rfl) (asg_one rfl) (pg_sub (simE o c X O.ok g _ h2) (simE i c X O.ok g _ h3) (set_pv O.ok.hu) (asg_sub h4))
    refine q.to fun fr st => ?_
    rw [ex]
    unfold setiS setiP
    cases ev Φ e fr st with
    | none => rfl
    | some p1 =>
      simp only [Option.bind_some]
      cases ev Φ o fr p1.2 with
      | none => rfl
      | some p2 =>
        simp only [Option.bind_some]
        cases ev Φ i fr p2.2 with
        | none => rfl
        | some p3 =>
          simp only [Option.bind_some]
          cases p2.1 <;> try rfl
          rename_i n
          simp only
          cases p3.2[n]? with
          | none => rfl
          | some cell =>
            cases cell <;> try rfl
            · simp only
              cases p3.1 <;> try rfl
              simp only [Option.map_map]
              rfl
            · simp only
              split <;> rfl
  | .setf o f e, c, X, O, g => fun x h => by
    simp only [okS] at h
    split at h <;> try contradiction
    simp only [Bool.and_eq_true] at h
    obtain ⟨⟨⟨h0, h1⟩, h2⟩, h3⟩ := h
    obtain rfl := eq_of_beq h0
    exact (sx_setf (ca := ca) (simE e c X O.ok g _ h1) (simE o c X O.ok g _ h2) (sw_other fun y p' => by simp) fun c' C hC => ⟨(g.cls c' C hC).1, (g.cls c' C hC).2 f (by simpa using h3)⟩).to fun fr st => by rw [ex] <;> rfl
  | .aug _ _ _, c, X, O, g => fun x h => by simp [okS] at h
  | .ret e, c, X, O, g => fun x h => by
    simp only [okS] at h
    split at h <;> try contradiction
    exact (sx_ret (simE e c X O.ok g _ h)).to fun fr st => by rw [ex] <;> rfl
  | .retN, c, X, O, g => fun x h => by
    simp only [okS] at h
    split at h <;> try contradiction
    exact sx_retN.to fun fr st => by rw [ex]
  | .ife t a b, c, X, O, g => fun x h => by
    simp only [okS] at h
    split at h <;> try contradiction
    simp only [Bool.and_eq_true] at h
    obtain ⟨⟨h1, h2⟩, h3⟩ := h
    refine (sx_if (simT t c X O.ok g _ h1).1 (simSs a c X O g _ h2) (simSs b c X O g _ h3)).to fun fr st => ?_
    rw [ex]
    unfold asT
    cases ev Φ t fr st with
    | none => rfl
    | some p =>
      simp only [Option.bind_some]
      cases blOf p.1 <;> rfl
  | .whl t b, c, X, O, g => fun x h => by
    simp only [okS] at h
    split at h <;> try contradiction
    simp only [Bool.and_eq_true] at h
    exact (sx_whl O.own (simT t c X O.ok g _ h.1).1 (simSs b c X O g _ h.2)).to fun fr st => by rw [ex] <;> rfl
  | .frr t i b, c, X, O, g => fun x h => by
    simp only [okS] at h
    split at h <;> try contradiction
    simp only [Bool.and_eq_true] at h
    obtain ⟨⟨⟨h1, h2⟩, h3⟩, h4⟩ := h
    exact (sx_for O.own O.ok.calm (simI i c X O.ok g _ _ h1) (simG O.ok t _ h2) (simSs b c X O g _ h3) (fold_plain h4)).to fun fr st => by rw [ex] <;> rfl
  | .brk, c, X, O, g => fun x h => by
    simp only [okS] at h
    split at h <;> try contradiction
    exact sx_brk.to fun fr st => by rw [ex]
  | .cnt, c, X, O, g => fun x h => by
    simp only [okS] at h
    split at h <;> try contradiction
    exact sx_cnt.to fun fr st => by rw [ex]
  | .pass, c, X, O, g => fun x h => by
    simp only [okS] at h
    split at h <;> try contradiction
    exact sx_pass.to fun fr st => by rw [ex]
  | .nev, c, X, O, g => fun x h => sx_never.to fun fr st => by rw [ex]
  | .frz i, c, X, O, g => fun x h => by simp [okS] at h
theorem simSs : ∀ (l : List CS) (c : Ctx) (X : Cx), OkY X c → Gk X ca Φ G → ∀ xs, okSs G l c xs = true → PSs X xs (LS X ca (exs Φ l))
  | [], c, X, O, g => fun xs h => by
    cases xs with
    | nil => exact ss_nil.to fun fr st => by rw [exs]
    | cons => simp [okSs] at h
  | s :: l, c, X, O, g => fun xs h => by
    have step : ∀ {x : Stmt} {r : List Stmt}, okS G s c x = true → okSs G l c r = true → PSs X (x :: r) (LS X ca (exs Φ (s :: l))) := fun h1 h2 => (ss_cons (simS s c X O g _ h1) (simSs l c X O g _ h2)).to fun fr st => by rw [exs] <;> rfl
    cases s with
    | frz i =>
      have h : okSs G l c xs = true := by simpa only [okSs] using h
      exact (ss_frz (i := i) (simSs l c X O g xs h)).to fun fr st => by rw [exs, ex] <;> rfl
    | nev => exact (ss_never (g := exs Φ l)).to fun fr st => by rw [exs, ex] <;> rfl
    | _ =>
      cases xs with
      | nil => simp [okSs] at h
      | cons x r =>
        simp only [okSs, Bool.and_eq_true] at h
        exact step h.1 h.2
end
end
end Pv
end

section
set_option Elab.async false
set_option linter.all false
set_option maxRecDepth 100000
set_option autoImplicit false
namespace Pv
open PySem PySem.Spec PyProof.Rows L2

section
variable {P : Program} {w : World} {K : PySem.W.Frag} {mg : Str → Option Value} {base : Heap} {ca : Str → Option Addr} {Φ : Den} {G : Gb}
theorem repL_fr {F : Hp} {mu : List Addr} {ps : List PV} {xs : List V} {N : List Str} (r : RepL K w F mu ps xs) (h : xs.length ≤ N.length) : FrR K w F mu (ps.map some ++ List.replicate (N.length - ps.length) none) (L2.start N xs) := by
  have hl := r.length
  refine ⟨by simp [L2.start, hl], fun i v hv => ?_⟩
  by_cases hi : i < ps.length
  · rw [List.getElem?_append_left (by simpa using hi), List.getElem?_map] at hv
    obtain ⟨u, hu, e⟩ := Option.map_eq_some_iff.mp hv
    cases e
    obtain ⟨x, hx, rx⟩ := r.get hu
    refine ⟨x, ?_, rx⟩
    unfold L2.start
    rw [List.getElem?_append_left (by simp; omega), List.getElem?_map, hx]
    rfl
  · rw [List.getElem?_append_right (by simp; omega), List.getElem?_replicate] at hv
    split at hv <;> cases hv
/-- a body's value -/
theorem run_body {X : Cx} {body : List CS} {sts : List Stmt} (h : PSs X sts (LS X ca (exs Φ body))) {F : Hp} {mu : List Addr} {H : Hp} {st st' : Store} {fr : Fr} {σ : L2.St} {v : PV} (Ho : Hold X.K X.w ca F mu H st) (R : FrR X.K X.w F mu fr σ) (e : runB Φ body fr st = some (v, st')) {Q : VK}
    (q : ∀ F' mu' H' x, Le F mu H F' mu' H' → Hold X.K X.w ca F' mu' H' st' → Rep X.K X.w F' mu' v x → Q x H') : LS X ca (exs Φ body) { nx := fun _ H' => Q .non H', rt := Q } σ H := by
  unfold runB at e
  obtain ⟨fl, fr', s1, e1, e2⟩ := bind3 (k := fun (fl : Fl) (fr' : Fr) s1 => match fl with
    | .ret v => some (v, s1)
    | .nx => some (.non, s1)
    | _ => none) e
  refine ⟨F, mu, fr, st, fl, fr', s1, Ho, R, e1, fun F1 mu1 H1 σ1 L1 G1 R1 => ?_⟩
  cases fl with
  | nx =>
    simp only [Option.some.injEq, Prod.mk.injEq] at e2
    obtain ⟨rfl, rfl⟩ := e2
    exact q F1 mu1 H1 .non L1 G1 .non
  | ret u =>
    simp only [Option.some.injEq, Prod.mk.injEq] at e2
    obtain ⟨rfl, rfl⟩ := e2
    exact fun x rx => q F1 mu1 H1 x L1 G1 rx
  | brk => cases e2
  | cnt => cases e2
/-- a def of the text is worth its core -/
theorem fn_pv {x qual : Str} {params : Arguments} {body : List Stmt} {scope : Scope} {f : Addr} {fd : FuncData} {N ps : List Str} {k : Nat} {fn : Fn} (D : FunD K x qual params body scope [] [] f fd) (hs : C8.scC N ps scope = true) (hnp : fn.np = ps.length) (hns : fn.ns = N.length)
    (hok : okSs G fn.body ⟨N, scope, none, k⟩ body = true) (g : GbOk P w K mg base ca Φ G) : FnOk P w K mg base C8.CX0 (k + 2) f fd ps (SpOf K w ca (denF Φ fn)) := by
  have S := C8.fnScope_by hs
  have hle : ps.length ≤ N.length := by have := congrArg List.length S.pre; rw [List.length_take] at this; omega
  refine D.ok S (fun vs H Q E ⟨F, mu, st, l, r, st', Ho, R, e, _⟩ => ?_) fun cdv A outer s H vs Q E hr ⟨F, mu, st, l, r, st', Ho, R, e, q⟩ => ?_
  · unfold denF at e
    split at e
    · rename_i h
      rw [← R.length, h, hnp]
    · cases e
  · have O : OkY (cxOf C8.CX0 P w K mg base N qual scope f cdv A outer s H E).nox ⟨N, scope, none, k⟩ := ⟨⟨rfl, S.nd, rfl, rfl, hr, fun _ _ => rfl⟩, PassesOwn.never, S.kind⟩
    have PS0 := simSs (ca := ca) (Φ := Φ) (G := G) fn.body _ _ O g body hok
    refine ⟨_, PSs.nox PS0, ?_⟩
    unfold denF at e
    split at e <;> try contradiction
    rename_i hlen
    have hvl : vs.length ≤ N.length := by rw [← R.length, hlen, hnp]; exact hle
    have efr : fn.ns - fn.np = N.length - l.length := by rw [hns, hlen]
    rw [efr] at e
    split at e
    · split at e <;> try contradiction
      rename_i hlf
      obtain ⟨⟨v, s1⟩, e1, e2⟩ := Option.bind_eq_some_iff.mp e
      simp only at e2
      split at e2 <;> try contradiction
      rename_i hv
      simp only [Option.some.injEq, Prod.mk.injEq] at e2
      obtain ⟨rfl, rfl⟩ := e2
      refine run_body PS0 Ho.alone (repL_fr (RepL.lf hlf R) hvl) e1 fun F1 mu1 H1 y L1 G1 R1 => ?_
      obtain ⟨G2, L2⟩ := Ho.back L1 G1
      exact q F1 mu H1 y L2 G2 (Rep.lf hv R1)
    · exact run_body PS0 Ho (repL_fr R hvl) e q
end
end Pv
end

section
set_option Elab.async false
set_option linter.all false
set_option maxRecDepth 100000
set_option autoImplicit false
namespace Pv
open PySem PySem.Spec PyProof.Rows L2

def Gb.upto (G : Gb) (n : Nat) : Gb := { G with tab := G.tab.take n }
/-- what the first n defs of a table are worth -/
noncomputable def denT (fns : List Fn) : Nat → Den
  | 0 => Den.nil
  | n + 1 => (denT fns n).ext n (denF (denT fns n) (fns.getD n ⟨false, 0, 0, []⟩))
theorem denT_at {fns : List Fn} {i : Nat} : ∀ {n : Nat}, i < n → denT fns n i = denF (denT fns i) (fns.getD i ⟨false, 0, 0, []⟩)
  | 0, h => by omega
  | n + 1, h => by
    show Den.ext _ _ _ _ = _
    unfold Den.ext
    by_cases e : i = n
    · rw [if_pos e, e]
    · rw [if_neg e]; exact denT_at (by omega)
def caOf (K : PySem.W.Frag) (cls : List Str) : Str → Option Addr := fun c => if cls.contains c then some (He.ga K c) else none
theorem caOf_at {K : PySem.W.Frag} {cls : List Str} {c : Str} (h : cls.contains c = true) : caOf K cls c = some (He.ga K c) := by unfold caOf; rw [if_pos h]

section
variable {P : Program} {w : World} {K : PySem.W.Frag} {mg : Str → Option Value} {base : Heap} {ca : Str → Option Addr} {Φ : Den} {G : Gb} {d : He.DefD} {fd : FuncData} {N : List Str} {np k : Nat} {fn : Fn}
/-- one def, as the table keeps it -/
structure Kept (G : Gb) (d : He.DefD) (fn : Fn) (N : List Str) (k : Nat) : Prop where
  ok : (C8.scC N (N.take fn.np) d.scope && okSs G fn.body ⟨N, d.scope, none, k⟩ d.body) = true
  np : decide (fn.np ≤ N.length) = true
  ns : decide (fn.ns = N.length) = true
  bind : ∀ (kV doc pm : Value) (an : Option Addr) (cdv ct : Value) (us : List Value), us.length = (N.take fn.np).length → bindArgs (PySem.W.fnOf d.name d.qual d.params d.body d.scope .none kV doc pm an cdv ct) ⟨us, []⟩ = pure ((N.take fn.np).zip us)
theorem Kept.fnOk {f : Addr} (h : Kept G d fn N k) (D : FunD K d.name d.qual d.params d.body d.scope [] [] f fd) (g : GbOk P w K mg base ca Φ G) : FnOk P w K mg base C8.CX0 (k + 2) f fd (N.take fn.np) (SpOf K w ca (denF Φ fn)) := by
  obtain ⟨h1, h2⟩ := Bool.and_eq_true_iff.mp h.ok
  have e1 := of_decide_eq_true h.np
  exact fn_pv D h1 (by rw [List.length_take]; omega) (of_decide_eq_true h.ns) h2 g
theorem ent_fn {x : Str} (h : Kept G d fn N k) (D : FunD K d.name d.qual d.params d.body d.scope [] [] (He.ga K x) fd) (hm : mg x = some (.ref (He.ga K x))) (g : GbOk P w K mg base ca Φ G) : EntOk P w K mg base ca ⟨.fn x, k + 2⟩ (denF Φ fn) :=
  ⟨⟨_, fd, _, [], h.fnOk D g, hm, D.kp, D.bindsN h.bind, .nil⟩⟩
theorem ent_meth {c m : Str} (h : Kept G d fn N k) (D : FunD K d.name d.qual d.params d.body d.scope [] [] (He.ma K (He.ga K c) m) fd) (hc : ca c = some (He.ga K c)) (C : Cls K (He.ga K c)) (M : Meth K (He.ga K c) m (He.ma K (He.ga K c) m)) (g : GbOk P w K mg base ca Φ G) : EntOk P w K mg base ca ⟨.meth c m, k + 2⟩ (denF Φ fn) :=
  ⟨_, hc, ⟨⟨_, fd, _, [], C, M, h.fnOk D g, D.bindsN h.bind, .nil⟩⟩⟩
theorem ent_init {c : Str} (h : Kept G d fn N k) (D : FunD K d.name d.qual d.params d.body d.scope [] [] (He.ma K (He.ga K c) "__init__") fd) (hc : ca c = some (He.ga K c)) (M : Mk K (He.ga K c) (He.ma K (He.ga K c) "__init__")) (hm : mg c = some (.ref (He.ga K c))) (g : GbOk P w K mg base ca Φ G) : EntOk P w K mg base ca ⟨.init c c, k + 2⟩ (denF Φ fn) :=
  ⟨_, hc, ⟨⟨_, fd, _, [], M, h.fnOk D g, hm, D.bindsN h.bind, .nil⟩⟩⟩
/-- the table, entry by entry -/
theorem gb_all {fns : List Fn} (hb : ∀ x ∈ G.bts, mg x = none) (hc : ∀ p ∈ G.cons, ∃ u y, mg p.1 = some u ∧ L2.RelV y u ∧ ∀ F mu, Rep K w F mu p.2 y) (hk : ∀ c C, ca c = some C → Cls K C ∧ ∀ f ∈ G.flds, NoAttr K C f)
    (all : ∀ (n : Nat) e, G.tab[n]? = some e → GbOk P w K mg base ca (denT fns n) (G.upto n) → EntOk P w K mg base ca e (denF (denT fns n) (fns.getD n ⟨false, 0, 0, []⟩))) : ∀ n, GbOk P w K mg base ca (denT fns n) (G.upto n)
  | 0 => ⟨hb, hc, hk, fun i e h => by simp [Gb.upto] at h⟩
  | n + 1 => by
    have ih := gb_all hb hc hk all n
    refine ⟨hb, hc, hk, fun i e h => ?_⟩
    have h' : (G.tab.take (n + 1))[i]? = some e := h
    have hi : i < n + 1 := by
      by_cases z : i < n + 1
      · exact z
      · rw [List.getElem?_eq_none (by rw [List.length_take]; omega)] at h'; cases h'
    rw [List.getElem?_take_of_lt hi] at h'
    rw [denT_at hi]
    by_cases z : i = n
    · subst z; exact all i e h' ih
    · have := ih.tab i e (by show (G.tab.take n)[i]? = some e; rw [List.getElem?_take_of_lt (by omega)]; exact h')
      rw [denT_at (by omega)] at this
      exact this
/-- an int of the module -/
theorem cons_int {x : Str} {i : Int} (h : ∃ t, mg x = some (.int i t)) : ∃ u y, mg x = some u ∧ L2.RelV y u ∧ ∀ F mu, Rep K w F mu (.int i) y := by
  obtain ⟨t, h⟩ := h
  exact ⟨_, .int i, h, ⟨t, rfl⟩, fun _ _ => .int i⟩
/-- the law's def at the script -/
theorem law_sp {d : List PV → Store → Option (PV × Store)} {H : Hp} {a : Addr} {ns : List Int} (hS : SqL K H a (ns.map V.int)) (h : ∃ st', d [.fz (ns.map .int)] [] = some (.bl true, st')) : SpOf K w ca d [.ref a] H (fun v _ => v = .bl true) fun _ _ _ => False := by
  obtain ⟨st', h⟩ := h
  have rl : ∀ ns : List Int, RepL K w H [] (ns.map PV.int) (ns.map V.int) := fun ns => by
    induction ns with
    | nil => exact .nil
    | cons a r ih => exact .cons (.int a) ih
  refine ⟨H, [], [], _, _, st', ⟨rfl, List.nodup_nil, fun _ h => (by cases h), fun a o e => ⟨e, fun n h => (by simp at h)⟩, fun n a c h => (by simp at h)⟩, .cons (.fz hS (rl ns)) .nil, h, fun F' mu' H' x _ _ r => ?_⟩
  cases r
  rfl
end
end Pv
end

section
set_option Elab.async false
set_option linter.all false
set_option maxRecDepth 100000
set_option autoImplicit false
/-! Plain rules for the evaluator. -/
namespace Pv
open PySem (Str)

section
variable {α : Type}
theorem clL_pure {step : PV → Store → Option (List α × Store)} {g : PV → List α} {st : Store} : ∀ (xs : List PV), (∀ x ∈ xs, step x st = some (g x, st)) → clL step xs st = some ((xs.map g).flatten, st)
  | [], _ => rfl
  | x :: xs, h => by
    rw [clL, h x (List.mem_cons_self ..)]
    simp only [Option.bind_some]
    rw [clL_pure xs fun y hy => h y (List.mem_cons_of_mem _ hy)]
    simp
/-- one value a turn -/
theorem clL_map {step : PV → Store → Option (List α × Store)} {g : PV → α} {st : Store} (xs : List PV) (h : ∀ x ∈ xs, step x st = some ([g x], st)) : clL step xs st = some (xs.map g, st) := by
  rw [clL_pure xs h]
  congr 2
  induction xs with
  | nil => rfl
  | cons a r ih => simp [ih fun x hx => h x (List.mem_cons_of_mem _ hx)]
/-- a filter -/
theorem clL_filter {step : PV → Store → Option (List α × Store)} {p : PV → Bool} {g : PV → α} {st : Store} (xs : List PV) (h : ∀ x ∈ xs, step x st = some (if p x then [g x] else [], st)) : clL step xs st = some ((xs.filter p).map g, st) := by
  rw [clL_pure xs h]
  congr 2
  induction xs with
  | nil => rfl
  | cons a r ih =>
    simp only [List.map_cons, List.flatten_cons, List.filter_cons, ih fun x hx => h x (List.mem_cons_of_mem _ hx)]
    cases p a <;> simp
end

/-- a for loop, with what stands ahead of each turn -/
theorem frL_inv {asg : PV → Fr → Option Fr} {b : Fr → Store → Option (Fl × Fr × Store)} {Q : Fl → Fr → Store → Prop} (I : Nat → Fr → Store → Prop) : ∀ (xs : List PV) (k : Nat) (fr : Fr) (st : Store),
    (∀ i x fr st, xs[i]? = some x → I (k + i) fr st → ∃ fr1 f fr2 s2, asg x fr = some fr1 ∧ b fr1 st = some (f, fr2, s2) ∧ (match f with
      | .nx => I (k + i + 1) fr2 s2
      | .cnt => I (k + i + 1) fr2 s2
      | .brk => Q .nx fr2 s2
      | .ret v => Q (.ret v) fr2 s2)) → I k fr st → (∀ fr st, I (k + xs.length) fr st → Q .nx fr st) → ∃ f fr' s', frL asg b xs fr st = some (f, fr', s') ∧ Q f fr' s'
  | [], k, fr, st, _, h0, hE => ⟨.nx, fr, st, rfl, hE fr st h0⟩
  | x :: xs, k, fr, st, h, h0, hE => by
    obtain ⟨fr1, f, fr2, s2, e1, e2, e3⟩ := h 0 x fr st rfl h0
    have rest : I (k + 1) fr2 s2 → ∃ f fr' s', frL asg b xs fr2 s2 = some (f, fr', s') ∧ Q f fr' s' := fun hI =>
      frL_inv I xs (k + 1) fr2 s2 (fun i y fr st hy hi => by
        have := h (i + 1) y fr st (by simpa using hy) (by rw [show k + (i + 1) = k + 1 + i by omega]; exact hi)
        rw [show k + (i + 1) = k + 1 + i by omega] at this
        exact this) hI fun fr st hz => hE fr st (by rw [List.length_cons, show k + (xs.length + 1) = k + 1 + xs.length by omega]; exact hz)
    rw [frL, e1]
    simp only [Option.bind_some, e2]
    cases f with
    | nx => exact rest e3
    | cnt => exact rest e3
    | brk => exact ⟨_, _, _, rfl, e3⟩
    | ret v => exact ⟨_, _, _, rfl, e3⟩
/-- a while loop, by a measure -/
theorem wh_inv {c : Fr → Store → Option (Bool × Store)} {b : Fr → Store → Option (Fl × Fr × Store)} {Q : Fl → Fr → Store → Prop} (I : Nat → Fr → Store → Prop)
    (h : ∀ m fr st, I m fr st → ∃ k s1, c fr st = some (k, s1) ∧ (k = false → Q .nx fr s1) ∧ (k = true → ∃ f fr2 s2, b fr s1 = some (f, fr2, s2) ∧ (match f with
      | .nx => ∃ m', m' < m ∧ I m' fr2 s2
      | .cnt => ∃ m', m' < m ∧ I m' fr2 s2
      | .brk => Q .nx fr2 s2
      | .ret v => Q (.ret v) fr2 s2))) : ∀ (m : Nat) (fr : Fr) (st : Store), I m fr st → ∃ f fr' s', wh c b fr st = some (f, fr', s') ∧ Q f fr' s' := by
  intro m
  induction m using Nat.strongRecOn with
  | ind m ih =>
    intro fr st hI
    obtain ⟨k, s1, e1, hF, hT⟩ := h m fr st hI
    rw [wh_step, e1]
    simp only [Option.bind_some]
    cases k with
    | false => exact ⟨_, _, _, rfl, hF rfl⟩
    | true =>
      obtain ⟨f, fr2, s2, e2, hm⟩ := hT rfl
      simp only [if_true, e2, Option.bind_some]
      cases f with
      | nx => obtain ⟨m', hlt, hI'⟩ := hm; exact ih m' hlt fr2 s2 hI'
      | cnt => obtain ⟨m', hlt, hI'⟩ := hm; exact ih m' hlt fr2 s2 hI'
      | brk => exact ⟨_, _, _, rfl, hm⟩
      | ret v => exact ⟨_, _, _, rfl, hm⟩
end Pv
namespace Pv
mutual
/-- a small value without cells, dicts or the script in it -/
def plV : PV → Bool
  | .tup l => decide (l.length ≤ 1000) && plL l
  | .lst l => decide (l.length ≤ 1000) && plL l
  | .non => true
  | .bl _ => true
  | .int _ => true
  | .str _ => true
  | _ => false
def plL : List PV → Bool
  | [] => true
  | a :: r => plV a && plL r
end
theorem plL_mem : ∀ {l : List PV}, plL l = true → ∀ x ∈ l, plV x = true
  | a :: r, h, x, hx => by
    simp only [plL, Bool.and_eq_true] at h
    rcases List.mem_cons.mp hx with rfl | hx
    · exact h.1
    · exact plL_mem h.2 x hx
theorem plL_of : ∀ {l : List PV}, (∀ x ∈ l, plV x = true) → plL l = true
  | [], _ => rfl
  | a :: r, h => by
    simp only [plL, Bool.and_eq_true]
    exact ⟨h a (List.mem_cons_self ..), plL_of fun x hx => h x (List.mem_cons_of_mem _ hx)⟩
theorem plV_tup {l : List PV} (h : plV (.tup l) = true) : l.length ≤ 1000 ∧ ∀ x ∈ l, plV x = true := by
  simp only [plV, Bool.and_eq_true, decide_eq_true_eq] at h
  exact ⟨h.1, plL_mem h.2⟩
theorem plV_lst {l : List PV} (h : plV (.lst l) = true) : l.length ≤ 1000 ∧ ∀ x ∈ l, plV x = true := by
  simp only [plV, Bool.and_eq_true, decide_eq_true_eq] at h
  exact ⟨h.1, plL_mem h.2⟩
theorem tyOk_pl {v : PV} {st : Store} (h : plV v = true) : tyOk st v = true := by cases v <;> simp_all [plV, tyOk]
theorem blsOf_map {α : Type} (p : α → Bool) : ∀ l : List α, blsOf (l.map fun x => .bl (p x)) = some (l.map p)
  | [] => rfl
  | a :: r => by simp [blsOf, blsOf_map p r]
theorem all_map_id {α : Type} (p : α → Bool) (l : List α) : (l.map p).all id = l.all p := by
  induction l with
  | nil => rfl
  | cons a r ih => simp [ih]
theorem mkL_false {l : List PV} {st : Store} (h : l.length ≤ SZ) : mkL false l st = some (.lst l, st) := by
  unfold mkL; rw [if_pos h]; rfl
theorem sz_1000 {n : Nat} (h : n ≤ 1000) : n ≤ SZ := Nat.le_trans h (by decide)
end Pv

namespace Pv
section
variable {Φ : Den} {own : List Nat} {e : CE} {t : CT} {i : CI} {f : Option CE} {fr : Fr} {st s1 : Store} {xs : List PV}
/-- a list comprehension of one clause, nothing in it changes the store -/
theorem ev_lcf (p : PV → Bool) (g : PV → PV) (hi : evi Φ i fr st = some (xs, s1)) (h : ∀ x ∈ xs, ∃ fr1, asgT t x (wipeF fr own) = some fr1 ∧ evf Φ f fr1 s1 = some (p x, s1) ∧ (p x = true → ev Φ e fr1 s1 = some (g x, s1))) (hz : ((xs.filter p).map g).length ≤ SZ) :
    ev Φ (.lc false own e t i f) fr st = some (.lst ((xs.filter p).map g), s1) := by
  rw [ev, hi]
  simp only [Option.bind_some]
  rw [clL_filter (p := p) (g := g) xs fun x hx => ?_]
  · simp only [Option.bind_some]
    exact mkL_false hz
  · obtain ⟨fr1, h1, h2, h3⟩ := h x hx
    simp only [h1, h2, Option.bind_some]
    cases hp : p x with
    | false => simp
    | true => simp [h3 hp]
theorem ev_lcm (g : PV → PV) (hi : evi Φ i fr st = some (xs, s1)) (h : ∀ x ∈ xs, ∃ fr1, asgT t x (wipeF fr own) = some fr1 ∧ ev Φ e fr1 s1 = some (g x, s1)) (hz : xs.length ≤ SZ) :
    ev Φ (.lc false own e t i none) fr st = some (.lst (xs.map g), s1) := by
  have ft : xs.filter (fun _ => true) = xs := List.filter_eq_self.mpr fun _ _ => rfl
  have := ev_lcf (Φ := Φ) (own := own) (e := e) (t := t) (i := i) (f := none) (fr := fr) (st := st) (fun _ => true) g hi (fun x hx => by
    obtain ⟨fr1, h1, h2⟩ := h x hx
    exact ⟨fr1, h1, rfl, fun _ => h2⟩) (by rw [ft, List.length_map]; exact hz)
  rwa [ft] at this
end
end Pv
namespace Pv
theorem clL_T {α β : Type} {step : PV → Store → Option (List β × Store)} {F : α → PV} {g : α → List β} {st : Store} : ∀ (xs : List α), (∀ x ∈ xs, step (F x) st = some (g x, st)) → clL step (xs.map F) st = some ((xs.map g).flatten, st)
  | [], _ => rfl
  | x :: xs, h => by
    rw [List.map_cons, clL, h x (List.mem_cons_self ..)]
    simp only [Option.bind_some]
    rw [clL_T xs fun y hy => h y (List.mem_cons_of_mem _ hy)]
    simp
theorem flat_if {α β : Type} (p : α → Bool) (g : α → β) : ∀ xs : List α, (xs.map fun x => if p x then [g x] else []).flatten = (xs.filter p).map g
  | [] => rfl
  | a :: r => by
    simp only [List.map_cons, List.flatten_cons, List.filter_cons, flat_if p g r]
    cases p a <;> simp
section
variable {α : Type} {Φ : Den} {own : List Nat} {e : CE} {t : CT} {i : CI} {f : Option CE} {fr : Fr} {st s1 : Store} {xs : List α}
/-- the same over a list of typed things -/
theorem ev_lcfT (F : α → PV) (p : α → Bool) (g : α → PV) (hi : evi Φ i fr st = some (xs.map F, s1)) (h : ∀ x ∈ xs, ∃ fr1, asgT t (F x) (wipeF fr own) = some fr1 ∧ evf Φ f fr1 s1 = some (p x, s1) ∧ (p x = true → ev Φ e fr1 s1 = some (g x, s1))) (hz : ((xs.filter p).map g).length ≤ SZ) :
    ev Φ (.lc false own e t i f) fr st = some (.lst ((xs.filter p).map g), s1) := by
  rw [ev, hi]
  simp only [Option.bind_some]
  rw [clL_T (g := fun x => if p x then [g x] else []) xs fun x hx => ?_, flat_if]
  · simp only [Option.bind_some]
    exact mkL_false hz
  · obtain ⟨fr1, h1, h2, h3⟩ := h x hx
    simp only [h1, h2, Option.bind_some]
    cases hp : p x with
    | false => simp
    | true => simp [h3 hp]
theorem ev_lcmT (F : α → PV) (g : α → PV) (hi : evi Φ i fr st = some (xs.map F, s1)) (h : ∀ x ∈ xs, ∃ fr1, asgT t (F x) (wipeF fr own) = some fr1 ∧ ev Φ e fr1 s1 = some (g x, s1)) (hz : xs.length ≤ SZ) :
    ev Φ (.lc false own e t i none) fr st = some (.lst (xs.map g), s1) := by
  have ft : xs.filter (fun _ => true) = xs := List.filter_eq_self.mpr fun _ _ => rfl
  have := ev_lcfT (Φ := Φ) (own := own) (e := e) (t := t) (i := i) (f := none) (fr := fr) (st := st) F (fun _ => true) g hi (fun x hx => by
    obtain ⟨fr1, h1, h2⟩ := h x hx
    exact ⟨fr1, h1, rfl, fun _ => h2⟩) (by rw [ft, List.length_map]; exact hz)
  rwa [ft] at this
end
theorem cut_tail {α : Type} (l : List α) : cut l (some 1) none = l.tail := by
  cases l with
  | nil => rfl
  | cons a r => simp [cut, clip]
/-! words of ints -/
def wv (w : List Int) : PV := .tup (w.map .int)
def ltW : List Int → List Int → Bool
  | [], [] => false
  | [], _ :: _ => true
  | _ :: _, [] => false
  | a :: r, b :: s => if a = b then ltW r s else decide (a < b)
theorem ltL_int : ∀ a b : List Int, ltL (a.map .int) (b.map .int) = ltW a b
  | [], [] => rfl
  | [], _ :: _ => rfl
  | _ :: _, [] => rfl
  | a :: r, b :: s => by
    simp only [List.map_cons, ltL, ltW, eqv, ltP, ltL_int r s]
    by_cases h : a = b <;> simp [h]
theorem alkL_int : ∀ a b : List Int, alkL (a.map .int) (b.map .int) = true
  | [], [] => rfl
  | [], _ :: _ => rfl
  | _ :: _, [] => rfl
  | a :: r, b :: s => by simp [alkL, alk, alkL_int r s]
theorem isDL_int (n : Nat) : ∀ a : List Int, isDL n (a.map .int) = true
  | [] => by simp [isDL]
  | a :: r => by simp [isDL, isD, isDL_int n r]
theorem eqvL_int : ∀ a b : List Int, eqvL (a.map .int) (b.map .int) = decide (a = b)
  | [], [] => rfl
  | [], _ :: _ => rfl
  | _ :: _, [] => rfl
  | a :: r, b :: s => by
    simp only [List.map_cons, eqvL, eqv, eqvL_int r s]
    by_cases h : a = b <;> by_cases h2 : r = s <;> simp [h, h2]
end Pv
end

section
set_option Elab.async false
set_option linter.all false
set_option maxRecDepth 100000
set_option autoImplicit false
/-! The evaluator, step by step: what follows a step is opaque till the step's value is known. -/
namespace Pv
open PySem (Str)

/-- a thing that nobody unfolds, the kernel neither -/
theorem hid_ex {α : Type} (a : α) : ∃ x : α, x = a := ⟨a, rfl⟩
noncomputable def hid {α : Type} (a : α) : α := Classical.choose (hid_ex a)
theorem hid_eq {α : Type} (a : α) : hid a = a := Classical.choose_spec (hid_ex a)
/-! ### continuations -/
noncomputable def kNt : PV × Store → Option (PV × Store) := hid fun p => (blOf p.1).map fun c => (.bl (!c), p.2)
theorem kNt_def : kNt = (fun p => (blOf p.1).map fun c => (.bl (!c), p.2) : PV × Store → Option (PV × Store)) := hid_eq _
@[simp] theorem kNt_bl {b : Bool} {s : Store} : kNt (.bl b, s) = some (.bl (!b), s) := by rw [kNt_def] <;> rfl
noncomputable def kAnd (r : Store → Option (PV × Store)) : PV × Store → Option (PV × Store) := hid fun p => (blOf p.1).bind fun c => if c then r p.2 else some (.bl false, p.2)
theorem kAnd_def (r : Store → Option (PV × Store)) : kAnd r = (fun p => (blOf p.1).bind fun c => if c then r p.2 else some (.bl false, p.2) : PV × Store → Option (PV × Store)) := hid_eq _
@[simp] theorem kAnd_t {r : Store → Option (PV × Store)} {s : Store} : kAnd r (.bl true, s) = r s := by rw [kAnd_def] <;> rfl
@[simp] theorem kAnd_f {r : Store → Option (PV × Store)} {s : Store} : kAnd r (.bl false, s) = some (.bl false, s) := by rw [kAnd_def] <;> rfl
noncomputable def kOr (r : Store → Option (PV × Store)) : PV × Store → Option (PV × Store) := hid fun p => (blOf p.1).bind fun c => if c then some (.bl true, p.2) else r p.2
theorem kOr_def (r : Store → Option (PV × Store)) : kOr r = (fun p => (blOf p.1).bind fun c => if c then some (.bl true, p.2) else r p.2 : PV × Store → Option (PV × Store)) := hid_eq _
@[simp] theorem kOr_t {r : Store → Option (PV × Store)} {s : Store} : kOr r (.bl true, s) = some (.bl true, s) := by rw [kOr_def] <;> rfl
@[simp] theorem kOr_f {r : Store → Option (PV × Store)} {s : Store} : kOr r (.bl false, s) = r s := by rw [kOr_def] <;> rfl
noncomputable def kIf (a b : Store → Option (PV × Store)) : PV × Store → Option (PV × Store) := hid fun p => (blOf p.1).bind fun k => if k then a p.2 else b p.2
theorem kIf_def (a b : Store → Option (PV × Store)) : kIf a b = (fun p => (blOf p.1).bind fun k => if k then a p.2 else b p.2 : PV × Store → Option (PV × Store)) := hid_eq _
@[simp] theorem kIf_t {a b : Store → Option (PV × Store)} {s : Store} : kIf a b (.bl true, s) = a s := by rw [kIf_def] <;> rfl
@[simp] theorem kIf_f {a b : Store → Option (PV × Store)} {s : Store} : kIf a b (.bl false, s) = b s := by rw [kIf_def] <;> rfl
noncomputable def kPr {α β : Type} (g : α → Store → Option β) : α × Store → Option β := hid fun p => g p.1 p.2
theorem kPr_def {α β : Type} (g : α → Store → Option β) : kPr g = (fun p => g p.1 p.2 : α × Store → Option β) := hid_eq _
@[simp] theorem kPr_mk {α β : Type} {g : α → Store → Option β} {v : α} {s : Store} : kPr g (v, s) = g v s := by rw [kPr_def] <;> rfl
noncomputable def kC2 (r : Store → Option (PV × Store)) (s : Store) : Bool → Option (PV × Store) := hid fun k => if k then r s else some (.bl false, s)
theorem kC2_def (r : Store → Option (PV × Store)) (s : Store) : kC2 r s = (fun k => if k then r s else some (.bl false, s) : Bool → Option (PV × Store)) := hid_eq _
@[simp] theorem kC2_t {r : Store → Option (PV × Store)} {s : Store} : kC2 r s true = r s := by rw [kC2_def] <;> rfl
@[simp] theorem kC2_f {r : Store → Option (PV × Store)} {s : Store} : kC2 r s false = some (.bl false, s) := by rw [kC2_def] <;> rfl

section
variable {Φ : Den} {fr : Fr} {st : Store}
/-- a name's value -/
noncomputable def gv : Option (Option PV) → Store → Option (PV × Store) := hid fun p s => match p with
  | some (some v) => some (v, s)
  | _ => none
theorem gv_def : gv = (fun p s => match p with
  | some (some v) => some (v, s)
  | _ => none : Option (Option PV) → Store → Option (PV × Store)) := hid_eq _
@[simp] theorem gv_some {v : PV} {s : Store} : gv (some (some v)) s = some (v, s) := by rw [gv_def] <;> rfl
@[simp] theorem z_var {i : Nat} : ev Φ (.var i) fr st = gv fr[i]? st := by
  rw [ev, gv_def] <;> (rcases fr[i]? with _ | _ | v <;> rfl)
@[simp] theorem z_con {v : PV} : ev Φ (.con v) fr st = some (v, st) := by rw [ev] <;> rfl
@[simp] theorem z_glb {x : Str} {v : PV} : ev Φ (.glb x v) fr st = some (v, st) := by rw [ev] <;> rfl
@[simp] theorem z_bin {op : Bop} {a b : CE} : ev Φ (.bin op a b) fr st = (ev Φ a fr st).bind (kPr fun x s1 => (ev Φ b fr s1).bind (kPr fun y s2 => (binP op x y s2).map (·, s2))) := by rw [ev]; simp only [kPr_def] <;> rfl
noncomputable def kNeg : PV × Store → Option (PV × Store) := hid fun p => match p.1 with
  | .int i => some (.int (-i), p.2)
  | _ => none
theorem kNeg_def : kNeg = (fun p => match p.1 with
  | .int i => some (.int (-i), p.2)
  | _ => none : PV × Store → Option (PV × Store)) := hid_eq _
@[simp] theorem kNeg_int {i : Int} {s : Store} : kNeg (.int i, s) = some (.int (-i), s) := by rw [kNeg_def] <;> rfl
@[simp] theorem z_neg {a : CE} : ev Φ (.neg a) fr st = (ev Φ a fr st).bind kNeg := by rw [ev]; simp only [kNeg_def] <;> rfl
@[simp] theorem z_cmp {op : Cop} {a b : CE} : ev Φ (.cmp op a b) fr st = (ev Φ a fr st).bind (kPr fun x s1 => (ev Φ b fr s1).bind (kPr fun y s2 => (cmpP op x y s2).map fun c => (.bl c, s2))) := by rw [ev]; simp only [kPr_def] <;> rfl
@[simp] theorem z_cmp2 {o p : Cop} {a b c : CE} : ev Φ (.cmp2 o p a b c) fr st = (ev Φ a fr st).bind (kPr fun x s1 => (ev Φ b fr s1).bind (kPr fun y s2 => (cmpP o x y s2).bind (kC2 (fun s2 => (ev Φ c fr s2).bind (kPr fun z s3 => (cmpP p y z s3).map fun c => (.bl c, s3))) s2))) := by rw [ev]; simp only [kPr_def, kC2_def] <;> rfl
@[simp] theorem z_nt {a : CE} : ev Φ (.nt a) fr st = (ev Φ a fr st).bind kNt := by rw [ev]; simp only [kNt_def] <;> rfl
@[simp] theorem z_and {a b : CE} : ev Φ (.and a b) fr st = (ev Φ a fr st).bind (kAnd fun s => ev Φ b fr s) := by rw [ev]; simp only [kAnd_def] <;> rfl
@[simp] theorem z_or {a b : CE} : ev Φ (.or a b) fr st = (ev Φ a fr st).bind (kOr fun s => ev Φ b fr s) := by rw [ev]; simp only [kOr_def] <;> rfl
@[simp] theorem z_ife {c a b : CE} : ev Φ (.ife c a b) fr st = (ev Φ c fr st).bind (kIf (fun s => ev Φ a fr s) (fun s => ev Φ b fr s)) := by rw [ev]; simp only [kIf_def] <;> rfl
@[simp] theorem z_tup {es : List CE} : ev Φ (.tup es) fr st = (evs Φ es fr st).bind (kPr fun vs s1 => (mkT vs).map (·, s1)) := by rw [ev]; simp only [kPr_def] <;> rfl
@[simp] theorem z_lstd {c : Bool} {es : List CE} : ev Φ (.lstd c es) fr st = (evs Φ es fr st).bind (kPr fun vs s1 => mkL c vs s1) := by rw [ev]; simp only [kPr_def] <;> rfl
@[simp] theorem z_dctd {c t : Bool} {es : List CE} : ev Φ (.dctd c t es) fr st = (evs Φ es fr st).bind (kPr fun vs s1 => if (prs vs).all (fun p => kFor t p.1) ∧ vs.length ≤ 30 then some (mkD c t (dctL (prs vs)) s1) else none) := by rw [ev]; simp only [kPr_def] <;> rfl
@[simp] theorem z_idx {a i : CE} : ev Φ (.idx a i) fr st = (ev Φ a fr st).bind (kPr fun x s1 => (ev Φ i fr s1).bind (kPr fun y s2 => (idxP x y s2).map (·, s2))) := by rw [ev]; simp only [kPr_def] <;> rfl
@[simp] theorem z_slc {a : CE} {lo hi : Option CE} : ev Φ (.slc a lo hi) fr st = (ev Φ a fr st).bind (kPr fun x s1 => (evo Φ lo fr s1).bind (kPr fun l s2 => (evo Φ hi fr s2).bind (kPr fun h s3 => (slcP x l h s3).map (·, s3)))) := by rw [ev]; simp only [kPr_def] <;> rfl
noncomputable def kRev : PV × Store → Option (PV × Store) := hid fun p => match p.1 with
    | .tup l => some (.tup l.reverse, p.2)
    | x => (lstOf p.2 x).map fun l => (.lst l.reverse, p.2)
theorem kRev_def : kRev = (fun p => match p.1 with
    | .tup l => some (.tup l.reverse, p.2)
    | x => (lstOf p.2 x).map fun l => (.lst l.reverse, p.2) : PV × Store → Option (PV × Store)) := hid_eq _
@[simp] theorem kRev_tup {l : List PV} {s : Store} : kRev (.tup l, s) = some (.tup l.reverse, s) := by rw [kRev_def] <;> rfl
@[simp] theorem z_rev {a : CE} : ev Φ (.rev a) fr st = (ev Φ a fr st).bind kRev := by rw [ev]; simp only [kRev_def] <;> rfl
@[simp] theorem z_call {f : Nat} {es : List CE} : ev Φ (.call f es) fr st = (evs Φ es fr st).bind (kPr fun vs s1 => Φ f vs s1) := by rw [ev]; simp only [kPr_def] <;> rfl
noncomputable def kMeth (Φ : Den) (f : Nat) (c m : Str) (r : Store → Option (List PV × Store)) (x : PV) (s : Store) : Option (Str × List (Str × PV)) → Option (PV × Store) := hid fun p => match p with
  | some (c', fs) => if c' = c ∧ fs.lookup m = none then (r s).bind (kPr fun vs s2 => Φ f (x :: vs) s2) else none
  | none => none
theorem kMeth_def (Φ : Den) (f : Nat) (c m : Str) (r : Store → Option (List PV × Store)) (x : PV) (s : Store) : kMeth Φ f c m r x s = (fun p => match p with
  | some (c', fs) => if c' = c ∧ fs.lookup m = none then (r s).bind (kPr fun vs s2 => Φ f (x :: vs) s2) else none
  | none => none : Option (Str × List (Str × PV)) → Option (PV × Store)) := hid_eq _
@[simp] theorem kMeth_some {f : Nat} {c m c' : Str} {r : Store → Option (List PV × Store)} {x : PV} {s : Store} {fs : List (Str × PV)} : kMeth Φ f c m r x s (some (c', fs)) = if c' = c ∧ fs.lookup m = none then (r s).bind (kPr fun vs s2 => Φ f (x :: vs) s2) else none := by rw [kMeth_def] <;> rfl
@[simp] theorem z_meth {f : Nat} {c m : Str} {o : CE} {es : List CE} : ev Φ (.meth f c m o es) fr st = (ev Φ o fr st).bind (kPr fun x s1 => kMeth Φ f c m (fun s => evs Φ es fr s) x s1 (insOf s1 x)) := by rw [ev]; simp only [kPr_def, kMeth_def] <;> rfl
@[simp] theorem z_mk {f : Nat} {c : Str} {es : List CE} : ev Φ (.mk f c es) fr st = (evs Φ es fr st).bind (kPr fun vs s1 => (Φ f (.loc s1.length :: vs) (s1 ++ [.ins c []])).bind (kPr fun r s2 => if r = .non then some (.loc s1.length, s2) else none)) := by rw [ev]; simp only [kPr_def] <;> rfl
@[simp] theorem z_bi {b : Bi} {es : List CE} : ev Φ (.bi b es) fr st = (evs Φ es fr st).bind (kPr fun vs s1 => (biP b vs s1).map (·, s1)) := by rw [ev]; simp only [kPr_def] <;> rfl
@[simp] theorem z_bm {m : Bm} {o : CE} {es : List CE} : ev Φ (.bm m o es) fr st = (ev Φ o fr st).bind (kPr fun x s1 => if bmT m x s1 then (evs Φ es fr s1).bind (kPr fun vs s2 => bmP m x vs s2) else none) := by rw [ev]; simp only [kPr_def] <;> rfl
@[simp] theorem z_isi {a : CE} {ts : List Ty} : ev Φ (.isi a ts) fr st = (ev Φ a fr st).bind (kPr fun x s1 => if tyOk s1 x then some (.bl (ts.any (tyIs s1 x)), s1) else none) := by rw [ev]; simp only [kPr_def] <;> rfl
noncomputable def kFld (f : Str) (s : Store) : Option (Str × List (Str × PV)) → Option (PV × Store) := hid fun p => match p with
  | some (_, fs) => (fs.lookup f).map (·, s)
  | none => none
theorem kFld_def (f : Str) (s : Store) : kFld f s = (fun p => match p with
  | some (_, fs) => (fs.lookup f).map (·, s)
  | none => none : Option (Str × List (Str × PV)) → Option (PV × Store)) := hid_eq _
@[simp] theorem kFld_some {f c : Str} {s : Store} {fs : List (Str × PV)} : kFld f s (some (c, fs)) = (fs.lookup f).map (·, s) := by rw [kFld_def] <;> rfl
@[simp] theorem z_fld {o : CE} {f : Str} : ev Φ (.fld o f) fr st = (ev Φ o fr st).bind (kPr fun x s1 => kFld f s1 (insOf s1 x)) := by rw [ev]; simp only [kPr_def, kFld_def] <;> rfl
@[simp] theorem z_nil : evs Φ [] fr st = some ([], st) := by rw [evs] <;> rfl
@[simp] theorem z_cons {e : CE} {es : List CE} : evs Φ (e :: es) fr st = (ev Φ e fr st).bind (kPr fun v s1 => (evs Φ es fr s1).map fun p => (v :: p.1, p.2)) := by rw [evs]; simp only [kPr_def] <;> rfl
@[simp] theorem z_o0 : evo Φ none fr st = some (none, st) := by rw [evo] <;> rfl
@[simp] theorem z_o1 {e : CE} : evo Φ (some e) fr st = (ev Φ e fr st).bind (kPr fun v s1 => (sliP v).map (·, s1)) := by rw [evo]; simp only [kPr_def] <;> rfl
@[simp] theorem z_f0 : evf Φ none fr st = some (true, st) := by rw [evf] <;> rfl
@[simp] theorem z_f1 {e : CE} : evf Φ (some e) fr st = (ev Φ e fr st).bind (kPr fun v s1 => (blOf v).map (·, s1)) := by rw [evf]; simp only [kPr_def] <;> rfl
/-! ### statements -/
noncomputable def kSq (Φ : Den) (cs : List CS) : Fl × Fr × Store → Option (Fl × Fr × Store) := hid fun p => match p.1 with
    | .nx => exs Φ cs p.2.1 p.2.2
    | .cnt => some (.cnt, p.2.1, p.2.2)
    | .brk => some (.brk, p.2.1, p.2.2)
    | .ret v => some (.ret v, p.2.1, p.2.2)
theorem kSq_def (Φ : Den) (cs : List CS) : kSq Φ cs = (fun p => match p.1 with
    | .nx => exs Φ cs p.2.1 p.2.2
    | .cnt => some (.cnt, p.2.1, p.2.2)
    | .brk => some (.brk, p.2.1, p.2.2)
    | .ret v => some (.ret v, p.2.1, p.2.2) : Fl × Fr × Store → Option (Fl × Fr × Store)) := hid_eq _
@[simp] theorem kSq_nx {cs : List CS} {fr : Fr} {s : Store} : kSq Φ cs (.nx, fr, s) = exs Φ cs fr s := by rw [kSq_def] <;> rfl
@[simp] theorem kSq_ret {cs : List CS} {v : PV} {fr : Fr} {s : Store} : kSq Φ cs (.ret v, fr, s) = some (.ret v, fr, s) := by rw [kSq_def] <;> rfl
@[simp] theorem kSq_brk {cs : List CS} {fr : Fr} {s : Store} : kSq Φ cs (.brk, fr, s) = some (.brk, fr, s) := by rw [kSq_def] <;> rfl
@[simp] theorem kSq_cnt {cs : List CS} {fr : Fr} {s : Store} : kSq Φ cs (.cnt, fr, s) = some (.cnt, fr, s) := by rw [kSq_def] <;> rfl
@[simp] theorem z_s0 : exs Φ [] fr st = some (.nx, fr, st) := by rw [exs] <;> rfl
@[simp] theorem z_s1 {c : CS} {cs : List CS} : exs Φ (c :: cs) fr st = (ex Φ c fr st).bind (kSq Φ cs) := by rw [exs]; simp only [kSq_def] <;> rfl
noncomputable def kB : Fl × Fr × Store → Option (PV × Store) := hid fun p => match p.1 with
  | .ret v => some (v, p.2.2)
  | .nx => some (.non, p.2.2)
  | _ => none
theorem kB_def : kB = (fun p => match p.1 with
  | .ret v => some (v, p.2.2)
  | .nx => some (.non, p.2.2)
  | _ => none : Fl × Fr × Store → Option (PV × Store)) := hid_eq _
@[simp] theorem kB_ret {v : PV} {fr : Fr} {s : Store} : kB (.ret v, fr, s) = some (v, s) := by rw [kB_def] <;> rfl
@[simp] theorem kB_nx {fr : Fr} {s : Store} : kB (.nx, fr, s) = some (.non, s) := by rw [kB_def] <;> rfl
@[simp] theorem z_runB {body : List CS} : runB Φ body fr st = (exs Φ body fr st).bind kB := by rw [kB_def] <;> rfl
@[simp] theorem z_ex {e : CE} : ex Φ (.ex e) fr st = (ev Φ e fr st).bind (kPr fun _ s1 => some (.nx, fr, s1)) := by
  rw [ex, kPr_def]
  cases ev Φ e fr st <;> rfl
@[simp] theorem z_set {t : CT} {e : CE} : ex Φ (.set t e) fr st = (ev Φ e fr st).bind (kPr fun v s1 => (asgT t v fr).map fun fr1 => (.nx, fr1, s1)) := by rw [ex]; simp only [kPr_def] <;> rfl
@[simp] theorem z_ret {e : CE} : ex Φ (.ret e) fr st = (ev Φ e fr st).bind (kPr fun v s1 => some (.ret v, fr, s1)) := by
  rw [ex, kPr_def]
  cases ev Φ e fr st <;> rfl
@[simp] theorem z_retN : ex Φ .retN fr st = some (.ret .non, fr, st) := by rw [ex] <;> rfl
noncomputable def kIfS (a b : Store → Option (Fl × Fr × Store)) : PV × Store → Option (Fl × Fr × Store) := hid fun p => (blOf p.1).bind fun k => if k then a p.2 else b p.2
theorem kIfS_def (a b : Store → Option (Fl × Fr × Store)) : kIfS a b = (fun p => (blOf p.1).bind fun k => if k then a p.2 else b p.2 : PV × Store → Option (Fl × Fr × Store)) := hid_eq _
@[simp] theorem kIfS_t {a b : Store → Option (Fl × Fr × Store)} {s : Store} : kIfS a b (.bl true, s) = a s := by rw [kIfS_def] <;> rfl
@[simp] theorem kIfS_f {a b : Store → Option (Fl × Fr × Store)} {s : Store} : kIfS a b (.bl false, s) = b s := by rw [kIfS_def] <;> rfl
@[simp] theorem z_if {c : CE} {a b : List CS} : ex Φ (.ife c a b) fr st = (ev Φ c fr st).bind (kIfS (fun s => exs Φ a fr s) (fun s => exs Φ b fr s)) := by rw [ex]; simp only [kIfS_def] <;> rfl
@[simp] theorem z_pass : ex Φ .pass fr st = some (.nx, fr, st) := by rw [ex] <;> rfl
@[simp] theorem z_brk : ex Φ .brk fr st = some (.brk, fr, st) := by rw [ex] <;> rfl
@[simp] theorem z_cnt : ex Φ .cnt fr st = some (.cnt, fr, st) := by rw [ex] <;> rfl
end
@[simp] theorem asgT_nm {i : Nat} {v : PV} {fr : Fr} : asgT (.nm i) v fr = if i < fr.length then some (fr.set i (some v)) else none := by rw [asgT]
@[simp] theorem asgT_tup {ts : List CT} {vs : List PV} {fr : Fr} : asgT (.tp ts) (.tup vs) fr = if ts.length = vs.length then asgTs ts vs fr else none := by rw [asgT]
@[simp] theorem asgTs_nil {fr : Fr} : asgTs [] [] fr = some fr := by rw [asgTs]
@[simp] theorem asgTs_cons {t : CT} {ts : List CT} {v : PV} {vs : List PV} {fr : Fr} : asgTs (t :: ts) (v :: vs) fr = (asgT t v fr).bind fun fr' => asgTs ts vs fr' := by rw [asgTs]
end Pv
end

section
set_option Elab.async false
set_option linter.all false
set_option maxRecDepth 100000
set_option autoImplicit false
/-! Typed dicts, loops to a fixed point. -/
namespace Pv
open PySem (Str)
section
variable {α β : Type} [DecidableEq α]
def encD (ke : α → PV) (ve : β → PV) (kvs : List (α × β)) : List (PV × PV) := kvs.map fun p => (ke p.1, ve p.2)
def lookT : List (α × β) → α → Option β
  | [], _ => none
  | p :: r, a => if p.1 = a then some p.2 else lookT r a
def putT : List (α × β) → α → β → List (α × β)
  | [], a, b => [(a, b)]
  | p :: r, a, b => if p.1 = a then (p.1, b) :: r else p :: putT r a b
variable {ke : α → PV} {ve : β → PV}
theorem look_enc (hk : ∀ x y, ke x = ke y → x = y) : ∀ (kvs : List (α × β)) (a : α), look (encD ke ve kvs) (ke a) = (lookT kvs a).map ve
  | [], _ => rfl
  | p :: r, a => by
    have ih := look_enc hk r a
    unfold look encD at ih ⊢
    rw [List.map_cons, List.find?_cons]
    by_cases h : p.1 = a
    · simp [h, lookT]
    · have : ke p.1 ≠ ke a := fun e => h (hk _ _ e)
      simp only [this, decide_false, lookT, if_neg h]
      exact ih
theorem put_enc (hk : ∀ x y, ke x = ke y → x = y) (kvs : List (α × β)) (hn : (kvs.map (·.1)).Nodup) (a : α) (b : β) : put (encD ke ve kvs) (ke a) (ve b) = encD ke ve (putT kvs a b) := by
  unfold put encD
  induction kvs with
  | nil => simp [putT]
  | cons p r ih =>
    rw [List.map_cons, List.nodup_cons] at hn
    have ih := ih hn.2
    by_cases h : p.1 = a
    · have e : ∀ q ∈ r, ke q.1 ≠ ke a := fun q hq e => hn.1 (List.mem_map.mpr ⟨q, hq, (hk _ _ e).trans h.symm⟩)
      simp only [List.map_cons, List.any_cons, h, decide_true, Bool.true_or, if_true, putT, List.cons.injEq, true_and, List.map_map]
      refine List.map_congr_left fun q hq => ?_
      simp [e q hq]
    · have : ke p.1 ≠ ke a := fun e => h (hk _ _ e)
      simp only [List.map_cons, List.any_cons, this, decide_false, Bool.false_or, putT, if_neg h, if_false]
      rw [← ih]
      split <;> simp
theorem lookT_put (kvs : List (α × β)) (a : α) (b : β) (c : α) : lookT (putT kvs a b) c = if a = c then some b else lookT kvs c := by
  induction kvs with
  | nil => simp [putT, lookT]
  | cons p r ih =>
    rw [putT]
    by_cases h : p.1 = a
    · rw [if_pos h, lookT, lookT]
      by_cases h2 : a = c
      · simp [h, h2]
      · have : ¬ p.1 = c := fun e => h2 (h.symm.trans e)
        simp [this, h2]
    · rw [if_neg h, lookT, lookT, ih]
      by_cases h2 : p.1 = c
      · have : ¬ a = c := fun e => h (h2.trans e.symm)
        simp [h2, this]
      · simp [h2]
theorem lookT_none {kvs : List (α × β)} {a : α} : lookT kvs a = none ↔ a ∉ kvs.map (·.1) := by
  induction kvs with
  | nil => simp [lookT]
  | cons p r ih =>
    rw [lookT]
    by_cases h : p.1 = a
    · simp [h]
    · simp only [if_neg h, ih, List.map_cons, List.mem_cons, not_or]
      exact ⟨fun x => ⟨fun e => h e.symm, x⟩, fun x => x.2⟩
theorem lookT_mem {kvs : List (α × β)} {a : α} {b : β} (h : lookT kvs a = some b) : (a, b) ∈ kvs := by
  induction kvs with
  | nil => cases h
  | cons p r ih =>
    rw [lookT] at h
    by_cases e : p.1 = a
    · rw [if_pos e] at h; cases h; subst e; exact List.mem_cons_self ..
    · rw [if_neg e] at h; exact List.mem_cons_of_mem _ (ih h)
theorem lookT_of_mem {kvs : List (α × β)} {a : α} {b : β} (hn : (kvs.map (·.1)).Nodup) (h : (a, b) ∈ kvs) : lookT kvs a = some b := by
  induction kvs with
  | nil => cases h
  | cons p r ih =>
    rw [List.map_cons, List.nodup_cons] at hn
    rw [lookT]
    rcases List.mem_cons.mp h with rfl | h
    · simp
    · have : ¬ p.1 = a := fun e => hn.1 (List.mem_map.mpr ⟨_, h, e.symm⟩)
      rw [if_neg this]
      exact ih hn.2 h
theorem putT_new {kvs : List (α × β)} {a : α} {b : β} (h : lookT kvs a = none) : putT kvs a b = kvs ++ [(a, b)] := by
  induction kvs with
  | nil => rfl
  | cons p r ih =>
    rw [lookT] at h
    by_cases e : p.1 = a
    · rw [if_pos e] at h; cases h
    · rw [if_neg e] at h
      rw [putT, if_neg e, ih h]
      rfl
theorem putT_keys_old {kvs : List (α × β)} {a : α} {b c : β} (h : lookT kvs a = some c) : (putT kvs a b).map (·.1) = kvs.map (·.1) := by
  induction kvs with
  | nil => cases h
  | cons p r ih =>
    rw [lookT] at h
    rw [putT]
    by_cases e : p.1 = a
    · rw [if_pos e]; rfl
    · rw [if_neg e] at h ⊢; rw [List.map_cons, List.map_cons, ih h]
theorem putT_nodup {kvs : List (α × β)} {a : α} {b : β} (hn : (kvs.map (·.1)).Nodup) : ((putT kvs a b).map (·.1)).Nodup := by
  cases h : lookT kvs a with
  | some c => rw [putT_keys_old h]; exact hn
  | none =>
    rw [putT_new h, List.map_append, List.nodup_append]
    refine ⟨hn, by simp, fun x hx y hy => ?_⟩
    simp at hy
    subst hy
    intro e
    subst e
    exact lookT_none.mp h hx
theorem putT_len {kvs : List (α × β)} {a : α} {b : β} : (putT kvs a b).length ≤ kvs.length + 1 := by
  induction kvs with
  | nil => simp [putT]
  | cons p r ih => rw [putT]; split <;> simp <;> omega
theorem encD_len {kvs : List (α × β)} : (encD ke ve kvs).length = kvs.length := by simp [encD]
theorem encD_nil : encD ke ve [] = [] := rfl
theorem encD_append {a b : List (α × β)} : encD ke ve (a ++ b) = encD ke ve a ++ encD ke ve b := by simp [encD]
theorem dctL_enc (hk : ∀ x y, ke x = ke y → x = y) {kvs : List (α × β)} (hn : (kvs.map (·.1)).Nodup) : dctL (encD ke ve kvs) = encD ke ve kvs := by
  have key : ∀ (l acc : List (α × β)), ((acc ++ l).map (·.1)).Nodup → (encD ke ve l).foldl (fun a p => put a p.1 p.2) (encD ke ve acc) = encD ke ve (acc ++ l) := by
    intro l
    induction l with
    | nil => intro acc _; simp [encD]
    | cons p r ih =>
      intro acc h
      have hacc : (acc.map (·.1)).Nodup := by rw [List.map_append, List.nodup_append] at h; exact h.1
      have hnew : lookT acc p.1 = none := by
        rw [lookT_none]
        intro hm
        rw [List.map_append, List.nodup_append] at h
        exact h.2.2 _ hm _ (by simp) rfl
      show (encD ke ve r).foldl _ (put (encD ke ve acc) (ke p.1) (ve p.2)) = _
      rw [put_enc hk _ hacc, putT_new hnew, ih _ (by simpa using h)]
      simp
  have := key kvs [] (by simpa using hn)
  simpa [dctL, encD] using this
end
/-! sets: dicts to True -/
section
variable {α : Type} [DecidableEq α]
def encS (ke : α → PV) (l : List α) : List (PV × PV) := l.map fun a => (ke a, .bl true)
def putS (l : List α) (a : α) : List α := if a ∈ l then l else l ++ [a]
variable {ke : α → PV}
theorem look_encS (hk : ∀ x y, ke x = ke y → x = y) (l : List α) (a : α) : look (encS ke l) (ke a) = if a ∈ l then some (.bl true) else none := by
  induction l with
  | nil => rfl
  | cons b r ih =>
    unfold look encS at ih ⊢
    rw [List.map_cons, List.find?_cons]
    by_cases h : b = a
    · simp [h]
    · have : ke b ≠ ke a := fun e => h (hk _ _ e)
      have h' : ¬ a = b := fun e => h e.symm
      simp only [this, decide_false, List.mem_cons, h', false_or]
      exact ih
theorem put_encS (hk : ∀ x y, ke x = ke y → x = y) (l : List α) (a : α) : put (encS ke l) (ke a) (.bl true) = encS ke (putS l a) := by
  unfold put encS putS
  have e : ((l.map fun a => (ke a, PV.bl true)).any fun p => decide (p.1 = ke a)) = decide (a ∈ l) := by
    rw [Bool.eq_iff_iff]
    simp only [List.any_map, List.any_eq_true, Function.comp_apply, decide_eq_true_eq]
    exact ⟨fun ⟨x, hx, e⟩ => hk _ _ e ▸ hx, fun h => ⟨a, h, rfl⟩⟩
  rw [e]
  by_cases h : a ∈ l
  · simp only [h, decide_true, if_true, List.map_map]
    refine List.map_congr_left fun x hx => ?_
    simp only [Function.comp_apply]
    split <;> rfl
  · simp [h]
theorem mem_putS {l : List α} {a b : α} : b ∈ putS l a ↔ b ∈ l ∨ b = a := by
  unfold putS
  by_cases h : a ∈ l
  · simp only [h, if_true]; exact ⟨.inl, fun x => x.elim id fun e => e ▸ h⟩
  · simp [h]
theorem putS_nodup {l : List α} {a : α} (h : l.Nodup) : (putS l a).Nodup := by
  unfold putS
  by_cases e : a ∈ l
  · simp [e, h]
  · simp only [e, if_false, List.nodup_append]
    exact ⟨h, by simp, fun x hx y hy => by simp at hy; subst hy; intro z; subst z; exact e hx⟩
theorem putS_len {l : List α} {a : α} : (putS l a).length ≤ l.length + 1 := by unfold putS; split <;> simp
def addS (l m : List α) : List α := m.foldl putS l
theorem mem_addS {m : List α} : ∀ {l : List α} {b : α}, b ∈ addS l m ↔ b ∈ l ∨ b ∈ m := by
  induction m with
  | nil => intro l b; simp [addS]
  | cons a m ih =>
    intro l b
    show b ∈ addS (putS l a) m ↔ _
    rw [ih, mem_putS, List.mem_cons, or_assoc]
theorem addS_nodup {m : List α} : ∀ {l : List α}, l.Nodup → (addS l m).Nodup := by
  induction m with
  | nil => intro l h; exact h
  | cons a m ih => intro l h; exact ih (putS_nodup h)
theorem addS_len {m : List α} : ∀ {l : List α}, (addS l m).length ≤ l.length + m.length := by
  induction m with
  | nil => intro l; exact Nat.le_refl _
  | cons a m ih =>
    intro l
    have h1 := ih (l := putS l a)
    have h2 := putS_len (l := l) (a := a)
    show (addS (putS l a) m).length ≤ _
    rw [List.length_cons]
    omega
theorem fold_encS (hk : ∀ x y, ke x = ke y → x = y) (m : List α) : ∀ l : List α, (encS ke m).foldl (fun a p => put a p.1 p.2) (encS ke l) = encS ke (addS l m) := by
  induction m with
  | nil => intro l; rfl
  | cons a m ih =>
    intro l
    show (encS ke m).foldl _ (put (encS ke l) (ke a) (.bl true)) = _
    rw [put_encS hk, ih]
    rfl
theorem dctL_encS (hk : ∀ x y, ke x = ke y → x = y) (m : List α) : dctL (encS ke m) = encS ke (addS [] m) := fold_encS hk m []
theorem encS_keys (l : List α) : (encS ke l).map (·.1) = l.map ke := by simp [encS]
theorem encS_len {l : List α} : (encS ke l).length = l.length := by simp [encS]
end
theorem int_inj : ∀ x y : Int, PV.int x = PV.int y → x = y := fun _ _ h => by injection h
theorem map_int_inj : ∀ {a b : List Int}, a.map PV.int = b.map PV.int → a = b
  | [], [], _ => rfl
  | [], _ :: _, h => by simp at h
  | _ :: _, [], h => by simp at h
  | x :: a, y :: b, h => by
    simp only [List.map_cons, List.cons.injEq, PV.int.injEq] at h
    rw [h.1, map_int_inj h.2]
theorem wv_inj : ∀ x y : List Int, wv x = wv y → x = y := fun x y h => by
  unfold wv at h
  injection h with h
  exact map_int_inj h
def ppv (p : Nat × Nat) : PV := .tup [.int p.1, .int p.2]
theorem ppv_inj : ∀ x y : Nat × Nat, ppv x = ppv y → x = y := fun x y h => by
  unfold ppv at h
  simp only [PV.tup.injEq, List.cons.injEq, PV.int.injEq, and_true] at h
  exact Prod.ext (by omega) (by omega)
theorem kOkL_int (n : Nat) : ∀ w : List Int, kOkL n (w.map .int) = true
  | [] => by simp [kOkL]
  | a :: w => by simp [kOkL, kOk, kOkL_int n w]
@[simp] theorem kFor_int {i : Int} : kFor false (.int i) = true := rfl
@[simp] theorem kFor_wv {w : List Int} : kFor true (wv w) = true := by simp [kFor, wv, isTup, kOk, kOkL_int]
@[simp] theorem kFor_ppv {p : Nat × Nat} : kFor true (ppv p) = true := by simp [kFor, ppv, isTup, kOk, kOkL]

/-! ### a while that goes on till nothing is new -/
section
variable {S : Type} {c : Fr → Store → Option (Bool × Store)} {b : Fr → Store → Option (Fl × Fr × Store)}
/-- one pass (`turn`): either nothing is new and all is closed, or it got less -/
theorem wh_fix (E : S → Bool → Fr → Store → Prop) (Inv : S → Prop) (Cl : S → Prop) (m1 m2 : S → Nat)
    (hc : ∀ s k fr st, E s k fr st → c fr st = some (k, st))
    (hb : ∀ s fr st, Inv s → E s true fr st → ∃ s' k fr2 s2, b fr st = some (.nx, fr2, s2) ∧ Inv s' ∧ E s' k fr2 s2 ∧ (k = false → Cl s') ∧ (k = true → m1 s' < m1 s ∨ (m1 s' = m1 s ∧ m2 s' < m2 s))) :
    ∀ s fr st, Inv s → E s true fr st → ∃ s' fr2 s2, wh c b fr st = some (.nx, fr2, s2) ∧ Inv s' ∧ E s' false fr2 s2 ∧ Cl s' := by
  have key : ∀ n1 n2 s fr st, m1 s = n1 → m2 s = n2 → Inv s → E s true fr st → ∃ s' fr2 s2, wh c b fr st = some (.nx, fr2, s2) ∧ Inv s' ∧ E s' false fr2 s2 ∧ Cl s' := by
    intro n1
    induction n1 using Nat.strongRecOn with
    | ind n1 ih1 =>
      intro n2
      induction n2 using Nat.strongRecOn with
      | ind n2 ih2 =>
        intro s fr st e1 e2 hi he
        obtain ⟨s', k, fr2, s2, hbb, hi', he', h0, h1⟩ := hb s fr st hi he
        rw [wh_step, hc _ _ _ _ he]
        simp only [Option.bind_some, if_true, hbb]
        cases k with
        | false =>
          rw [wh_step, hc _ _ _ _ he']
          exact ⟨s', fr2, s2, rfl, hi', he', h0 rfl⟩
        | true =>
          rcases h1 rfl with h1 | ⟨h1, h2⟩
          · exact ih1 (m1 s') (by omega) (m2 s') s' fr2 s2 rfl rfl hi' he'
          · exact ih2 (m2 s') (by omega) s' fr2 s2 (by omega) rfl hi' he'
  exact fun s fr st => key _ _ s fr st rfl rfl
/-- the pass over some things: each one is closed, or something gets new -/
theorem fr_fix {α : Type} {F : α → PV} {asg : PV → Fr → Option Fr} (E : S → Bool → Fr → Store → Prop) (Inv : S → Prop) (Cl : α → S → Prop) (m1 m2 : S → Nat) (all : List α)
    (h : ∀ x ∈ all, ∀ s k fr st, Inv s → E s k fr st → ∃ fr1 s' k' fr2 s2, asg (F x) fr = some fr1 ∧ b fr1 st = some (.nx, fr2, s2) ∧ Inv s' ∧ E s' k' fr2 s2 ∧ ((s' = s ∧ k' = k ∧ Cl x s) ∨ (k' = true ∧ (m1 s' < m1 s ∨ (m1 s' = m1 s ∧ m2 s' < m2 s))))) :
    ∀ s fr st, Inv s → E s false fr st → ∃ s' k fr2 s2, frL asg b (all.map F) fr st = some (.nx, fr2, s2) ∧ Inv s' ∧ E s' k fr2 s2 ∧ (k = false → s' = s ∧ ∀ x ∈ all, Cl x s) ∧ (k = true → m1 s' < m1 s ∨ (m1 s' = m1 s ∧ m2 s' < m2 s)) := by
  have key : ∀ (xs : List α) (s0 s : S) (k : Bool) fr st, (∀ x ∈ xs, x ∈ all) → Inv s → E s k fr st → (k = false → s = s0) → (k = true → m1 s < m1 s0 ∨ (m1 s = m1 s0 ∧ m2 s < m2 s0)) →
      ∃ s' k' fr2 s2, frL asg b (xs.map F) fr st = some (.nx, fr2, s2) ∧ Inv s' ∧ E s' k' fr2 s2 ∧ (k' = false → k = false ∧ s' = s0 ∧ ∀ x ∈ xs, Cl x s0) ∧ (k' = true → m1 s' < m1 s0 ∨ (m1 s' = m1 s0 ∧ m2 s' < m2 s0)) := by
    intro xs
    induction xs with
    | nil =>
      intro s0 s k fr st _ hi he h0 h1
      exact ⟨s, k, fr, st, rfl, hi, he, fun e => ⟨e, h0 e, by simp⟩, h1⟩
    | cons x xs ih =>
      intro s0 s k fr st hm hi he h0 h1
      obtain ⟨fr1, s', k', fr2, s2, ha, hb, hi', he', hor⟩ := h x (hm x (List.mem_cons_self ..)) s k fr st hi he
      rw [List.map_cons, frL, ha]
      simp only [Option.bind_some, hb]
      have h0' : k' = false → s' = s0 := fun e => by
        rcases hor with ⟨rfl, rfl, _⟩ | ⟨e2, _⟩
        · exact h0 e
        · rw [e] at e2; cases e2
      have h1' : k' = true → m1 s' < m1 s0 ∨ (m1 s' = m1 s0 ∧ m2 s' < m2 s0) := fun e => by
        rcases hor with ⟨rfl, rfl, _⟩ | ⟨_, hm⟩
        · exact h1 e
        · cases hk : k with
          | false => rw [← h0 hk]; exact hm
          | true => have := h1 hk; omega
      obtain ⟨s3, k3, fr3, st3, e1, e2, e3, e4, e5⟩ := ih s0 s' k' fr2 s2 (fun y hy => hm y (List.mem_cons_of_mem _ hy)) hi' he' h0' h1'
      refine ⟨s3, k3, fr3, st3, e1, e2, e3, fun e => ?_, e5⟩
      obtain ⟨a1, a2, a3⟩ := e4 e
      rcases hor with ⟨rfl, rfl, hcl⟩ | ⟨e6, _⟩
      · refine ⟨a1, a2, fun y hy => ?_⟩
        rcases List.mem_cons.mp hy with rfl | hy
        · rw [← h0 a1]; exact hcl
        · exact a3 y hy
      · rw [a1] at e6; cases e6
  intro s fr st hi he
  obtain ⟨s', k, fr2, s2, e1, e2, e3, e4, e5⟩ := key all s s false fr st (fun _ h => h) hi he (fun _ => rfl) (fun e => by cases e)
  exact ⟨s', k, fr2, s2, e1, e2, e3, fun e => (e4 e).2, e5⟩
/-- a pass that never stops, over typed things -/
theorem fr_all {α : Type} {F : α → PV} {asg : PV → Fr → Option Fr} (I : List α → Fr → Store → Prop)
    (h : ∀ (l : List α) (x : α) (fr : Fr) (st : Store), I l fr st → ∃ fr1 fr2 s2, asg (F x) fr = some fr1 ∧ b fr1 st = some (.nx, fr2, s2) ∧ I (l ++ [x]) fr2 s2) :
    ∀ (xs l : List α) fr st, I l fr st → ∃ fr2 s2, frL asg b (xs.map F) fr st = some (.nx, fr2, s2) ∧ I (l ++ xs) fr2 s2
  | [], l, fr, st, hi => ⟨fr, st, rfl, by rw [List.append_nil]; exact hi⟩
  | x :: xs, l, fr, st, hi => by
    obtain ⟨fr1, fr2, s2, ha, hb, hi'⟩ := h l x fr st hi
    rw [List.map_cons, frL, ha]
    simp only [Option.bind_some, hb]
    obtain ⟨fr3, s3, e1, e2⟩ := fr_all I h xs (l ++ [x]) fr2 s2 hi'
    exact ⟨fr3, s3, e1, by rw [List.append_assoc] at e2; exact e2⟩
end
/-- a while's condition that is a name -/
theorem whc_var {Φ : Den} {i : Nat} {k : Bool} {fr : Fr} {st : Store} (h : fr[i]? = some (some (.bl k))) : ((ev Φ (.var i) fr st).bind fun (v, s1) => (blOf v).map (·, s1)) = some (k, st) := by
  simp [h, blOf]
end Pv
namespace Pv
section
variable {S : Type} {b : Fr → Store → Option (Fl × Fr × Store)}
/-- the same, of a pass inside a pass -/
theorem fr_fixk {α : Type} {F : α → PV} {asg : PV → Fr → Option Fr} (E : S → Bool → Fr → Store → Prop) (Inv : S → Prop) (Cl : α → S → Prop) (m1 m2 : S → Nat) (all : List α)
    (h : ∀ x ∈ all, ∀ s k fr st, Inv s → E s k fr st → ∃ fr1 s' k' fr2 s2, asg (F x) fr = some fr1 ∧ b fr1 st = some (.nx, fr2, s2) ∧ Inv s' ∧ E s' k' fr2 s2 ∧ ((s' = s ∧ k' = k ∧ Cl x s) ∨ (k' = true ∧ (m1 s' < m1 s ∨ (m1 s' = m1 s ∧ m2 s' < m2 s))))) :
    ∀ s k fr st, Inv s → E s k fr st → ∃ s' k' fr2 s2, frL asg b (all.map F) fr st = some (.nx, fr2, s2) ∧ Inv s' ∧ E s' k' fr2 s2 ∧ ((s' = s ∧ k' = k ∧ ∀ x ∈ all, Cl x s) ∨ (k' = true ∧ (m1 s' < m1 s ∨ (m1 s' = m1 s ∧ m2 s' < m2 s)))) := by
  have key : ∀ (xs : List α), (∀ x ∈ xs, x ∈ all) → ∀ s k fr st, Inv s → E s k fr st → ∃ s' k' fr2 s2, frL asg b (xs.map F) fr st = some (.nx, fr2, s2) ∧ Inv s' ∧ E s' k' fr2 s2 ∧ ((s' = s ∧ k' = k ∧ ∀ x ∈ xs, Cl x s) ∨ (k' = true ∧ (m1 s' < m1 s ∨ (m1 s' = m1 s ∧ m2 s' < m2 s)))) := by
    intro xs
    induction xs with
    | nil => intro _ s k fr st hi he; exact ⟨s, k, fr, st, rfl, hi, he, .inl ⟨rfl, rfl, by simp⟩⟩
    | cons x xs ih =>
      intro hm s k fr st hi he
      obtain ⟨fr1, s', k', fr2, s2, ha, hb, hi', he', hor⟩ := h x (hm x (List.mem_cons_self ..)) s k fr st hi he
      obtain ⟨s3, k3, fr3, st3, e1, e2, e3, hor2⟩ := ih (fun y hy => hm y (List.mem_cons_of_mem _ hy)) s' k' fr2 s2 hi' he'
      refine ⟨s3, k3, fr3, st3, ?_, e2, e3, ?_⟩
      · rw [List.map_cons, frL, ha]
        simp only [Option.bind_some, hb]
        exact e1
      · rcases hor with ⟨rfl, rfl, hc⟩ | ⟨hk, hl⟩
        · rcases hor2 with ⟨rfl, rfl, hc2⟩ | hr
          · refine .inl ⟨rfl, rfl, fun y hy => ?_⟩
            rcases List.mem_cons.mp hy with rfl | hy
            · exact hc
            · exact hc2 y hy
          · exact .inr hr
        · rcases hor2 with ⟨rfl, rfl, hc2⟩ | ⟨hk2, hl2⟩
          · exact .inr ⟨hk, hl⟩
          · exact .inr ⟨hk2, by omega⟩
  exact key all fun _ h => h
end
end Pv
end

section
set_option Elab.async false
set_option linter.all false
set_option maxRecDepth 100000
set_option autoImplicit false
/-! Typed comprehensions. -/
namespace Pv
open PySem (Str)
/-- the numbers from a to b -/
def rngI (a b : Int) : List Int := (List.range (b - a).toNat).map fun i => a + (i : Nat)
theorem rngL_int {a b : Int} : rngL a b = (rngI a b).map .int := by simp [rngL, rngI, List.map_map, Function.comp_def]
theorem mem_rngI {a b x : Int} : x ∈ rngI a b ↔ a ≤ x ∧ x < b := by
  unfold rngI
  rw [List.mem_map]
  constructor
  · rintro ⟨i, hi, rfl⟩
    rw [List.mem_range] at hi
    omega
  · rintro ⟨h1, h2⟩
    exact ⟨(x - a).toNat, by rw [List.mem_range]; omega, by omega⟩
theorem rngI_nodup {a b : Int} : (rngI a b).Nodup := by
  unfold rngI
  refine List.pairwise_map.mpr (List.Pairwise.imp (fun h e => ?_) (List.nodup_range (n := (b - a).toNat)))
  omega
theorem rngI_len {a b : Int} : (rngI a b).length = (b - a).toNat := by simp [rngI]
theorem rngOk_of {a b : Int} (h1 : 0 ≤ a) (h2 : a ≤ 1000000) (h3 : -1000000 ≤ b) (h4 : b ≤ 1000000) : rngOk a b = true := by
  unfold rngOk SZ
  apply decide_eq_true
  refine ⟨?_, ?_, ?_, ?_, ?_⟩ <;> omega
theorem rngI_succ {a b : Int} (h : a ≤ b) : rngI a (b + 1) = rngI a b ++ [b] := by
  unfold rngI
  have e : (b + 1 - a).toNat = (b - a).toNat + 1 := by omega
  rw [e, List.range_succ, List.map_append]
  simp
  omega
section
variable {α β : Type} {Φ : Den} {own own2 : List Nat} {c s : Bool} {e k v : CE} {t t2 : CT} {i i2 : CI} {fr : Fr} {st s1 : Store} {xs : List α}
theorem ev_lc2T (F : α → PV) (G : β → PV) (ys : α → List β) (r : α → β → PV) (hi : evi Φ i fr st = some (xs.map F, s1))
    (h : ∀ x ∈ xs, ∃ fr1, asgT t (F x) (wipeF fr own) = some fr1 ∧ evi Φ i2 fr1 s1 = some ((ys x).map G, s1) ∧ ∀ y ∈ ys x, ∃ fr2, asgT t2 (G y) (wipeF fr1 own2) = some fr2 ∧ ev Φ e fr2 s1 = some (r x y, s1))
    (hz : (xs.flatMap fun x => (ys x).map (r x)).length ≤ SZ) :
    ev Φ (.lc2 false own own2 e t i none t2 i2 none) fr st = some (.lst (xs.flatMap fun x => (ys x).map (r x)), s1) := by
  rw [ev, hi]
  simp only [Option.bind_some]
  rw [clL_T (g := fun x => (ys x).map (r x)) xs fun x hx => ?_]
  · simp only [Option.bind_some]
    rw [List.flatMap_def] at hz ⊢
    exact mkL_false hz
  · obtain ⟨fr1, h1, h2, h3⟩ := h x hx
    simp only [h1, Option.bind_some, z_f0, if_true, h2]
    rw [clL_T (g := fun y => [r x y]) (ys x) fun y hy => ?_]
    · congr 2
      induction ys x with
      | nil => rfl
      | cons a l ih => simp [ih]
    · obtain ⟨fr2, h4, h5⟩ := h3 y hy
      simp only [h4, Option.bind_some, z_f0, if_true, h5, Option.map_some]
theorem ev_dcT (F : α → PV) (K V : α → PV) (hi : evi Φ i fr st = some (xs.map F, s1))
    (h : ∀ x ∈ xs, ∃ fr1, asgT t (F x) (wipeF fr own) = some fr1 ∧ ev Φ k fr1 s1 = some (K x, s1) ∧ ev Φ v fr1 s1 = some (V x, s1) ∧ kFor s (K x) = true)
    (hz : xs.length ≤ SZ) :
    ev Φ (.dc c s own k v t i none) fr st = some (mkD c s (dctL (xs.map fun x => (K x, V x))) s1) := by
  rw [ev, hi]
  simp only [Option.bind_some]
  rw [clL_T (g := fun x => [(K x, V x)]) xs fun x hx => ?_]
  · have e : (xs.map fun x => [(K x, V x)]).flatten = xs.map fun x => (K x, V x) := by
      clear hi h hz
      induction xs with
      | nil => rfl
      | cons a l ih => simp [ih]
    simp only [Option.bind_some, e]
    rw [if_pos (by rw [List.length_map]; exact hz)]
  · obtain ⟨fr1, h1, h2, h3, h4⟩ := h x hx
    simp only [h1, Option.bind_some, z_f0, if_true, h2, h3, h4]
theorem ev_dc2T (F : α → PV) (G : β → PV) (ys : α → List β) (K V : α → β → PV) (hi : evi Φ i fr st = some (xs.map F, s1))
    (h : ∀ x ∈ xs, ∃ fr1, asgT t (F x) (wipeF fr own) = some fr1 ∧ evi Φ i2 fr1 s1 = some ((ys x).map G, s1) ∧ ∀ y ∈ ys x, ∃ fr2, asgT t2 (G y) (wipeF fr1 own2) = some fr2 ∧ ev Φ k fr2 s1 = some (K x y, s1) ∧ ev Φ v fr2 s1 = some (V x y, s1) ∧ kFor s (K x y) = true)
    (hz : (xs.flatMap fun x => (ys x).map fun y => (K x y, V x y)).length ≤ SZ) :
    ev Φ (.dc2 c s own own2 k v t i none t2 i2 none) fr st = some (mkD c s (dctL (xs.flatMap fun x => (ys x).map fun y => (K x y, V x y))) s1) := by
  rw [ev, hi]
  simp only [Option.bind_some]
  rw [clL_T (g := fun x => (ys x).map fun y => (K x y, V x y)) xs fun x hx => ?_]
  · simp only [Option.bind_some]
    rw [List.flatMap_def] at hz ⊢
    rw [if_pos hz]
  · obtain ⟨fr1, h1, h2, h3⟩ := h x hx
    simp only [h1, Option.bind_some, z_f0, if_true, h2]
    rw [clL_T (g := fun y => [(K x y, V x y)]) (ys x) fun y hy => ?_]
    · congr 2
      induction ys x with
      | nil => rfl
      | cons a l ih => simp [ih]
    · obtain ⟨fr2, h4, h5, h6, h7⟩ := h3 y hy
      simp only [h4, Option.bind_some, z_f0, if_true, h5, h6, h7]
/-- a list comprehension over a live dict -/
theorem ev_lclT {d : CE} {f : Option CE} {n : Nat} {b : Bool} {kvs : List (PV × PV)} (F : α → PV) (p : α → Bool) (g : α → PV) (hd : ev Φ d fr st = some (.loc n, s1)) (hc : s1[n]? = some (.dct b kvs)) (hk : kvs.map (·.1) = xs.map F) (hnd : s1.all noDC = true)
    (h : ∀ x ∈ xs, ∃ fr1, asgT t (F x) (wipeF fr own) = some fr1 ∧ evf Φ f fr1 (s1.set n (.lck b kvs)) = some (p x, s1.set n (.lck b kvs)) ∧ (p x = true → ev Φ e fr1 (s1.set n (.lck b kvs)) = some (g x, s1.set n (.lck b kvs))))
    (hg : ∀ x ∈ xs, p x = true → noD (g x) = true) (hz : xs.length ≤ SZ) :
    ev Φ (.lcl own e t d f) fr st = some (.lst ((xs.filter p).map g), s1) := by
  rw [ev, hd]
  simp only [Option.bind_some, hc, hnd, if_true]
  rw [hk, clL_T (g := fun x => if p x then [g x] else []) xs fun x hx => ?_, flat_if]
  · simp only [Option.bind_some]
    have e1 : noDL ((xs.filter p).map g) = true := by
      clear hk h hz
      induction xs with
      | nil => rfl
      | cons a l ih =>
        have ih := ih fun x hx => hg x (List.mem_cons_of_mem _ hx)
        rw [List.filter_cons]
        cases hp : p a with
        | false => simpa using ih
        | true => simp [noDL, ih, hg a (List.mem_cons_self ..) hp]
    have e2 : ((xs.filter p).map g).length ≤ SZ := by rw [List.length_map]; exact Nat.le_trans (List.length_filter_le ..) hz
    rw [if_pos ⟨trivial, e1, e2⟩]
  · obtain ⟨fr1, h1, h2, h3⟩ := h x hx
    simp only [h1, h2, Option.bind_some]
    cases hp : p x with
    | false => simp
    | true => simp [h3 hp]
end
end Pv
/-! ### more steps -/
namespace Pv
open PySem (Str)
section
variable {Φ : Den} {fr : Fr} {st : Store}
/-- o[i] = e -/
noncomputable def stI (x k v : PV) (fr : Fr) (s : Store) : Option (Fl × Fr × Store) := hid (match x with
    | .loc n => match s[n]? with
      | some (.dct t kvs) => if kFor t k ∧ kvs.length < SZ then some (.nx, fr, s.set n (.dct t (put kvs k v))) else none
      | some (.lst l) => match k with
        | .int j => (ixOf l.length j).map fun m => (.nx, fr, s.set n (.lst (l.set m v)))
        | _ => none
      | _ => none
    | _ => none)
@[simp] theorem z_seti {o i e : CE} : ex Φ (.seti o i e) fr st = (ev Φ e fr st).bind (kPr fun v s1 => (ev Φ o fr s1).bind (kPr fun x s2 => (ev Φ i fr s2).bind (kPr fun k s3 => stI x k v fr s3))) := by rw [ex]; simp only [kPr_def, stI, hid_eq] <;> rfl
theorem stI_dct {n : Nat} {k v : PV} {s : Store} {t : Bool} {kvs : List (PV × PV)} (h : s[n]? = some (.dct t kvs)) (hk : kFor t k = true) (hz : kvs.length < SZ) : stI (.loc n) k v fr s = some (.nx, fr, s.set n (.dct t (put kvs k v))) := by
  unfold stI
  rw [hid_eq]
  simp only [h]
  rw [if_pos ⟨hk, hz⟩]
theorem stI_lst {n : Nat} {j : Int} {m : Nat} {v : PV} {s : Store} {l : List PV} (h : s[n]? = some (.lst l)) (hi : ixOf l.length j = some m) : stI (.loc n) (.int j) v fr s = some (.nx, fr, s.set n (.lst (l.set m v))) := by
  unfold stI
  rw [hid_eq]
  simp only [h, hi, Option.map_some]
noncomputable def stF (f : Str) (x v : PV) (fr : Fr) (s : Store) : Option (Fl × Fr × Store) := hid (match x with
    | .loc n => match s[n]? with
      | some (.ins c fs) => if fs.length < 1000 then some (.nx, fr, s.set n (.ins c (putF f v fs))) else none
      | _ => none
    | _ => none)
@[simp] theorem z_setf {o e : CE} {f : Str} : ex Φ (.setf o f e) fr st = (ev Φ e fr st).bind (kPr fun v s1 => (ev Φ o fr s1).bind (kPr fun x s2 => stF f x v fr s2)) := by rw [ex]; simp only [kPr_def, stF, hid_eq] <;> rfl
theorem stF_ins {f c : Str} {n : Nat} {v : PV} {s : Store} {fs : List (Str × PV)} (h : s[n]? = some (.ins c fs)) (hz : fs.length < 1000) : stF f (.loc n) v fr s = some (.nx, fr, s.set n (.ins c (putF f v fs))) := by
  unfold stF
  rw [hid_eq]
  simp only [h]
  rw [if_pos hz]
theorem z_whl {c : CE} {b : List CS} : ex Φ (.whl c b) fr st = wh (fun fr st => (ev Φ c fr st).bind fun (v, s1) => (blOf v).map (·, s1)) (fun fr st => exs Φ b fr st) fr st := by rw [ex]
theorem z_frr {t : CT} {i : CI} {b : List CS} : ex Φ (.frr t i b) fr st = (evi Φ i fr st).bind (kPr fun xs s1 => frL (asgT t) (fun fr st => exs Φ b fr st) xs fr s1) := by rw [ex]; simp only [kPr_def] <;> rfl
noncomputable def stZ (i : Nat) (fr : Fr) (s : Store) : Option (Option PV) → Option (Fl × Fr × Store) := hid fun p => match p with
  | some (some v) => (frzV 30 v s).map fun p => (.nx, fr.set i (some p.1), p.2)
  | _ => none
@[simp] theorem z_frz {i : Nat} : ex Φ (.frz i) fr st = stZ i fr st fr[i]? := by
  rw [ex]
  unfold stZ
  rw [hid_eq] <;> (rcases fr[i]? with _ | _ | v <;> rfl)
@[simp] theorem stZ_some {i : Nat} {s : Store} {v : PV} : stZ i fr s (some (some v)) = (frzV 30 v s).map fun p => (.nx, fr.set i (some p.1), p.2) := by unfold stZ; rw [hid_eq]
noncomputable def kSeq (v : PV) (s : Store) : Option (List PV × Store) := hid (match v with
    | .dct _ kvs => some (kvs.map (·.1), s)
    | .tup l => some (l, s)
    | .lst l => some (l, s)
    | .fz l => some (l, s)
    | _ => none)
@[simp] theorem kSeq_dct {t : Bool} {kvs : List (PV × PV)} {s : Store} : kSeq (.dct t kvs) s = some (kvs.map (·.1), s) := by unfold kSeq; rw [hid_eq]
@[simp] theorem kSeq_tup {l : List PV} {s : Store} : kSeq (.tup l) s = some (l, s) := by unfold kSeq; rw [hid_eq]
@[simp] theorem kSeq_lst {l : List PV} {s : Store} : kSeq (.lst l) s = some (l, s) := by unfold kSeq; rw [hid_eq]
@[simp] theorem kSeq_fz {l : List PV} {s : Store} : kSeq (.fz l) s = some (l, s) := by unfold kSeq; rw [hid_eq]
@[simp] theorem kSeq_wv {l : List Int} {s : Store} : kSeq (wv l) s = some (l.map .int, s) := kSeq_tup
@[simp] theorem z_iseq {e : CE} : evi Φ (.seq e) fr st = (ev Φ e fr st).bind (kPr fun v s1 => kSeq v s1) := by rw [evi]; simp only [kPr_def, kSeq, hid_eq] <;> rfl
noncomputable def kEn (v : PV) (s : Store) : Option (List PV × Store) := hid (match v with
    | .tup l => some (enumL 0 l, s)
    | .lst l => some (enumL 0 l, s)
    | _ => none)
@[simp] theorem kEn_tup {l : List PV} {s : Store} : kEn (.tup l) s = some (enumL 0 l, s) := by unfold kEn; rw [hid_eq]
@[simp] theorem kEn_wv {l : List Int} {s : Store} : kEn (wv l) s = some (enumL 0 (l.map .int), s) := kEn_tup
noncomputable def kItm (v : PV) (s : Store) : Option (List PV × Store) := hid (match v with
    | .dct _ kvs => some (kvs.map fun p => .tup [p.1, p.2], s)
    | _ => none)
@[simp] theorem kItm_dct {t : Bool} {kvs : List (PV × PV)} {s : Store} : kItm (.dct t kvs) s = some (kvs.map fun p => .tup [p.1, p.2], s) := by unfold kItm; rw [hid_eq]
theorem kR1_ex : ∃ f : PV → Store → Option (List PV × Store), ∀ v s, f v s = (match v with
    | .int n => if rngOk 0 n then some (rngL 0 n, s) else none
    | _ => none) := ⟨_, fun _ _ => rfl⟩
/-- nobody looks into it -/
noncomputable def kR1 : PV → Store → Option (List PV × Store) := Classical.choose kR1_ex
theorem kR1_eq (v : PV) (s : Store) : kR1 v s = (match v with
    | .int n => if rngOk 0 n then some (rngL 0 n, s) else none
    | _ => none) := Classical.choose_spec kR1_ex v s
theorem kR2_ex : ∃ f : PV → PV → Store → Option (List PV × Store), ∀ v u s, f v u s = (match v, u with
    | .int m, .int n => if rngOk m n then some (rngL m n, s) else none
    | _, _ => none) := ⟨_, fun _ _ _ => rfl⟩
noncomputable def kR2 : PV → PV → Store → Option (List PV × Store) := Classical.choose kR2_ex
theorem kR2_eq (v u : PV) (s : Store) : kR2 v u s = (match v, u with
    | .int m, .int n => if rngOk m n then some (rngL m n, s) else none
    | _, _ => none) := Classical.choose_spec kR2_ex v u s
theorem kR1_int {n : Int} {s : Store} (h1 : -1000000 ≤ n) (h2 : n ≤ 1000000) : kR1 (.int n) s = some ((rngI 0 n).map .int, s) := by
  rw [kR1_eq]
  simp only [rngOk_of (Int.le_refl 0) (by omega) h1 h2, if_true, rngL_int]
theorem kR2_int {m n : Int} {s : Store} (h0 : 0 ≤ m) (h : m ≤ 1000000) (h1 : -1000000 ≤ n) (h2 : n ≤ 1000000) : kR2 (.int m) (.int n) s = some ((rngI m n).map .int, s) := by
  rw [kR2_eq]
  simp only [rngOk_of h0 h h1 h2, if_true, rngL_int]
@[simp] theorem z_ir1 {a : CE} : evi Φ (.rng1 a) fr st = (ev Φ a fr st).bind (kPr fun v s1 => kR1 v s1) := by
  rw [evi]
  simp only [kR1_eq, kPr_def] <;> rfl
@[simp] theorem z_ir2 {a b : CE} : evi Φ (.rng2 a b) fr st = (ev Φ a fr st).bind (kPr fun v s1 => (ev Φ b fr s1).bind (kPr fun u s2 => kR2 v u s2)) := by
  rw [evi]
  simp only [kR2_eq, kPr_def] <;> rfl
@[simp] theorem z_ien {e : CE} : evi Φ (.enum e) fr st = (ev Φ e fr st).bind (kPr fun v s1 => kEn v s1) := by rw [evi]; simp only [kPr_def, kEn, hid_eq] <;> rfl
@[simp] theorem z_iit {e : CE} : evi Φ (.items e) fr st = (ev Φ e fr st).bind (kPr fun v s1 => kItm v s1) := by rw [evi]; simp only [kPr_def, kItm, hid_eq] <;> rfl
end
/-! ### what is asked of typed dicts -/
section
variable {α β : Type} [DecidableEq α] {ke : α → PV} {ve : β → PV} {F : List (α × β)} {a : α} {t : Bool} {x : PV} {st : Store} {l : List α}
theorem dctOf_loc {k : Nat} {kvs : List (PV × PV)} (h : st[k]? = some (.dct t kvs)) : dctOf st (.loc k) = some (t, kvs) := by simp [dctOf, h]
theorem dctOf_lck {k : Nat} {kvs : List (PV × PV)} (h : st[k]? = some (.lck t kvs)) : dctOf st (.loc k) = some (t, kvs) := by simp [dctOf, h]
theorem dctOf_val {kvs : List (PV × PV)} : dctOf st (.dct t kvs) = some (t, kvs) := rfl
theorem idx_enc (hk : ∀ x y, ke x = ke y → x = y) (hd : dctOf st x = some (t, encD ke ve F)) (hf : kFor t (ke a) = true) {b : β} (hl : lookT F a = some b) : idxP x (ke a) st = some (ve b) := by
  unfold idxP
  simp only [hd, hf, if_true, look_enc hk, hl, Option.map_some]
theorem in_enc (hk : ∀ x y, ke x = ke y → x = y) (hd : dctOf st x = some (t, encD ke ve F)) (hf : kFor t (ke a) = true) : cmpP .inn (ke a) x st = some (lookT F a).isSome := by
  unfold cmpP inP
  simp only [hd, hf, if_true, look_enc hk, Option.isSome_map]
theorem nin_enc (hk : ∀ x y, ke x = ke y → x = y) (hd : dctOf st x = some (t, encD ke ve F)) (hf : kFor t (ke a) = true) : cmpP .nin (ke a) x st = some (lookT F a).isNone := by
  unfold cmpP inP
  simp only [hd, hf, if_true, look_enc hk, Option.isSome_map, Option.map_some]
  cases lookT F a <;> rfl
theorem get_enc (hk : ∀ x y, ke x = ke y → x = y) (hd : dctOf st x = some (t, encD ke ve F)) (hf : kFor t (ke a) = true) {d : PV} : getP x (ke a) d st = some (((lookT F a).map ve).getD d, st) := by
  unfold getP
  simp only [hd, hf, if_true, look_enc hk]
theorem in_encS (hk : ∀ x y, ke x = ke y → x = y) (hd : dctOf st x = some (t, encS ke l)) (hf : kFor t (ke a) = true) : cmpP .inn (ke a) x st = some (decide (a ∈ l)) := by
  unfold cmpP inP
  simp only [hd, hf, if_true, look_encS hk]
  by_cases h : a ∈ l <;> simp [h]
theorem nin_encS (hk : ∀ x y, ke x = ke y → x = y) (hd : dctOf st x = some (t, encS ke l)) (hf : kFor t (ke a) = true) : cmpP .nin (ke a) x st = some (decide (a ∉ l)) := by
  unfold cmpP inP
  simp only [hd, hf, if_true, look_encS hk]
  by_cases h : a ∈ l <;> simp [h]
end
/-! ### a frozen value without cells -/
mutual
theorem frz_isD {st : Store} : ∀ (k : Nat) (v : PV), isD k v = true → frzV (k + 1) v st = some (v, st)
  | k, .non, _ => by simp [frzV]
  | k, .bl _, _ => by simp [frzV]
  | k, .int _, _ => by simp [frzV]
  | k, .str _, _ => by simp [frzV]
  | 0, .tup _, h => by simp [isD] at h
  | k + 1, .tup l, h => by
    rw [isD] at h
    rw [frzV]
    simp [frz_isDL k l h]
  | 0, .lst _, h => by simp [isD] at h
  | k + 1, .lst l, h => by
    rw [isD] at h
    rw [frzV]
    simp [frz_isDL k l h]
  | _, .dct _ _, h => by simp [isD] at h
  | _, .loc _, h => by simp [isD] at h
  | _, .fz _, h => by simp [isD] at h
theorem frz_isDL {st : Store} : ∀ (k : Nat) (l : List PV), isDL k l = true → frzL (frzV (k + 1)) l st = some (l, st)
  | _, [], _ => by simp [frzL]
  | k, a :: l, h => by
    rw [isDL, Bool.and_eq_true] at h
    rw [frzL, frz_isD k a h.1]
    simp [frz_isDL k l h.2]
end
theorem frzD_of {k : Nat} {st : Store} : ∀ {l : List (PV × PV)}, (∀ p ∈ l, frzV k p.2 st = some (p.2, st)) → frzD (frzV k) l st = some (l, st)
  | [], _ => rfl
  | p :: l, h => by
    rw [frzD, h p (List.mem_cons_self ..)]
    simp [frzD_of fun q hq => h q (List.mem_cons_of_mem _ hq)]
mutual
theorem isD_up : ∀ (k : Nat) (v : PV), isD k v = true → isD (k + 1) v = true
  | k, .non, _ => by simp [isD]
  | k, .bl _, _ => by simp [isD]
  | k, .int _, _ => by simp [isD]
  | k, .str x, h => by rw [isD] at h ⊢; exact h
  | 0, .tup _, h => by simp [isD] at h
  | k + 1, .tup l, h => by
    rw [isD] at h ⊢
    exact isDL_up k l h
  | 0, .lst _, h => by simp [isD] at h
  | k + 1, .lst l, h => by
    rw [isD] at h ⊢
    exact isDL_up k l h
  | _, .dct _ _, h => by simp [isD] at h
  | _, .loc _, h => by simp [isD] at h
  | _, .fz _, h => by simp [isD] at h
theorem isDL_up : ∀ (k : Nat) (l : List PV), isDL k l = true → isDL (k + 1) l = true
  | _, [], _ => by simp [isDL]
  | k, a :: l, h => by
    rw [isDL, Bool.and_eq_true] at h ⊢
    exact ⟨isD_up k a h.1, isDL_up k l h.2⟩
end
theorem isD_mono {v : PV} {k m : Nat} (h : isD k v = true) (hm : k ≤ m) : isD m v = true := by
  induction hm with
  | refl => exact h
  | step _ ih => exact isD_up _ _ ih
theorem frz_le {st : Store} {k m : Nat} {v : PV} (h : isD k v = true) (hm : k < m) : frzV m v st = some (v, st) := by
  cases m with
  | zero => omega
  | succ m => exact frz_isD m v (isD_mono h (by omega))
theorem isD_wv {w : List Int} {k : Nat} (h : 0 < k) : isD k (wv w) = true := by
  cases k with
  | zero => omega
  | succ k => unfold wv; rw [isD]; exact isDL_int k w
theorem noD_wv {w : List Int} : noD (wv w) = true := by
  unfold wv
  rw [noD]
  induction w with
  | nil => rfl
  | cons a w ih => simp [noDL, noD, ih]
theorem lf_wv {w : List Int} : lf (wv w) = true := by
  unfold wv
  rw [lf]
  induction w with
  | nil => rfl
  | cons a w ih => simp [lfL, lf, ih]
theorem lfL_of : ∀ {l : List PV}, (∀ x ∈ l, lf x = true) → lfL l = true
  | [], _ => rfl
  | a :: l, h => by
    rw [lfL, h a (List.mem_cons_self ..), lfL_of fun x hx => h x (List.mem_cons_of_mem _ hx)]; rfl
theorem lfD_of : ∀ {l : List (PV × PV)}, (∀ p ∈ l, lf p.1 = true ∧ lf p.2 = true) → lfD l = true
  | [], _ => rfl
  | (a, b) :: l, h => by
    have := h _ (List.mem_cons_self ..)
    rw [lfD, this.1, this.2, lfD_of fun x hx => h x (List.mem_cons_of_mem _ hx)]; rfl
end Pv
namespace Pv
theorem b_all {α : Type} {p : α → Bool} {l : List α} {st : Store} : biP .all [.lst (l.map fun x => .bl (p x))] st = some (.bl (l.all p)) := by simp [biP, lstOf, blsOf_map, all_map_id]
@[simp] theorem b_len_tup {l : List PV} {st : Store} : biP .len [.tup l] st = some (.int l.length) := by unfold biP; rfl
@[simp] theorem b_len_wv {l : List Int} {st : Store} : biP .len [wv l] st = some (.int l.length) := by simp [wv]
@[simp] theorem b_len_lst {l : List PV} {st : Store} : biP .len [.lst l] st = some (.int l.length) := by unfold biP; rfl
@[simp] theorem mkT2 {a b : PV} : mkT [a, b] = some (.tup [a, b]) := by unfold mkT; rfl
@[simp] theorem mkT1 {a : PV} : mkT [a] = some (.tup [a]) := by unfold mkT; rfl
@[simp] theorem mkT0 : mkT [] = some (.tup []) := by unfold mkT; rfl
@[simp] theorem mkT3 {a b c : PV} : mkT [a, b, c] = some (.tup [a, b, c]) := by unfold mkT; rfl
end Pv
namespace Pv
theorem get1_enc {α β : Type} [DecidableEq α] {ke : α → PV} {ve : β → PV} {F : List (α × β)} {a : α} {t : Bool} {x : PV} {st : Store} (hk : ∀ x y, ke x = ke y → x = y) (hd : dctOf st x = some (t, encD ke ve F)) (hf : kFor t (ke a) = true) : bmP .get1 x [ke a] st = some (((lookT F a).map ve).getD .non, st) := get_enc hk hd hf
theorem get2_enc {α β : Type} [DecidableEq α] {ke : α → PV} {ve : β → PV} {F : List (α × β)} {a : α} {t : Bool} {x d : PV} {st : Store} (hk : ∀ x y, ke x = ke y → x = y) (hd : dctOf st x = some (t, encD ke ve F)) (hf : kFor t (ke a) = true) : bmP .get2 x [ke a, d] st = some (((lookT F a).map ve).getD d, st) := get_enc hk hd hf
end Pv
namespace Pv
section
variable {b : Fr → Store → Option (Fl × Fr × Store)}
/-- a pass that may stop -/
theorem fr_ret {α : Type} {F : α → PV} {asg : PV → Fr → Option Fr} (xs : List α) (I : List α → Fr → Store → Prop) (Q : Fl → Fr → Store → Prop)
    (h : ∀ (l : List α) (x : α) (r : List α) (fr : Fr) (st : Store), xs = l ++ x :: r → I l fr st → ∃ fr1 f fr2 s2, asg (F x) fr = some fr1 ∧ b fr1 st = some (f, fr2, s2) ∧ (match f with
      | .nx => I (l ++ [x]) fr2 s2
      | .cnt => I (l ++ [x]) fr2 s2
      | .brk => Q .nx fr2 s2
      | .ret v => Q (.ret v) fr2 s2)) (fr : Fr) (st : Store) (h0 : I [] fr st) (hE : ∀ fr st, I xs fr st → Q .nx fr st) :
    ∃ f fr' s', frL asg b (xs.map F) fr st = some (f, fr', s') ∧ Q f fr' s' := by
  have key : ∀ (r l : List α) (fr : Fr) (st : Store), xs = l ++ r → I l fr st → ∃ f fr' s', frL asg b (r.map F) fr st = some (f, fr', s') ∧ Q f fr' s' := by
    intro r
    induction r with
    | nil => intro l fr st e hi; rw [List.append_nil] at e; subst e; exact ⟨.nx, fr, st, rfl, hE fr st hi⟩
    | cons x r ih =>
      intro l fr st e hi
      obtain ⟨fr1, f, fr2, s2, e1, e2, e3⟩ := h l x r fr st e hi
      rw [List.map_cons, frL, e1]
      simp only [Option.bind_some, e2]
      cases f with
      | nx => exact ih (l ++ [x]) fr2 s2 (by simp [e]) e3
      | cnt => exact ih (l ++ [x]) fr2 s2 (by simp [e]) e3
      | brk => exact ⟨_, _, _, rfl, e3⟩
      | ret v => exact ⟨_, _, _, rfl, e3⟩
  exact key xs [] fr st rfl h0
theorem fr_go {α : Type} {F : α → PV} {asg : PV → Fr → Option Fr} (xs : List α) (I : List α → Fr → Store → Prop)
    (h : ∀ (l : List α) (x : α) (r : List α) (fr : Fr) (st : Store), xs = l ++ x :: r → I l fr st → ∃ fr1 fr2 s2, asg (F x) fr = some fr1 ∧ b fr1 st = some (.nx, fr2, s2) ∧ I (l ++ [x]) fr2 s2) (fr : Fr) (st : Store) (h0 : I [] fr st) :
    ∃ fr' s', frL asg b (xs.map F) fr st = some (.nx, fr', s') ∧ I xs fr' s' := by
  obtain ⟨f, fr', s', e, rfl, hi⟩ := fr_ret (F := F) (asg := asg) (b := b) xs I (fun f fr st => f = .nx ∧ I xs fr st) (fun l x r fr st e hi => by
    obtain ⟨fr1, fr2, s2, e1, e2, e3⟩ := h l x r fr st e hi
    exact ⟨fr1, .nx, fr2, s2, e1, e2, e3⟩) fr st h0 fun fr st hi => ⟨rfl, hi⟩
  exact ⟨fr', s', e, hi⟩
end
theorem rngL_nat {i j : Nat} : rngL (i : Int) (j : Int) = (List.range' i (j - i)).map fun m : Nat => PV.int m := by
  unfold rngL
  have e : ((j : Int) - (i : Int)).toNat = j - i := by omega
  rw [e, List.range'_eq_map_range, List.map_map]
  refine List.map_congr_left fun x _ => ?_
  simp
theorem kR2_nat {i j : Nat} {s : Store} (h1 : i ≤ 1000000) (h2 : j ≤ 1000000) : kR2 (.int i) (.int j) s = some ((List.range' i (j - i)).map fun m : Nat => PV.int m, s) := by
  rw [kR2_eq]
  simp only [rngOk_of (show (0 : Int) ≤ i by omega) (by omega) (show (-1000000 : Int) ≤ j by omega) (by omega), if_true, rngL_nat]
theorem kR1_nat {j : Nat} {s : Store} (h2 : j ≤ 1000000) : kR1 (.int j) s = some ((List.range j).map fun m : Nat => PV.int m, s) := by
  rw [kR1_eq]
  have := rngL_nat (i := 0) (j := j)
  simp only [rngOk_of (Int.le_refl 0) (by omega) (show (-1000000 : Int) ≤ j by omega) (by omega), if_true]
  rw [show ((0 : Nat) : Int) = 0 from rfl] at this
  rw [this, List.range_eq_range']
  simp
theorem map_enum {α : Type} {f : α → PV} : ∀ (l : List α) (k : Nat), enumL k (l.map f) = (l.zipIdx k).map fun p => .tup [.int p.2, f p.1]
  | [], _ => rfl
  | a :: l, k => by
    rw [List.map_cons, enumL, map_enum l (k + 1)]
    rfl
end Pv
namespace Pv
section
variable {st : Store} {i j : Int}
@[simp] theorem cmp_eq_int : cmpP .eq (.int i) (.int j) st = some (decide (i = j)) := by
  simp [cmpP, dv, both, isD, eqv]
  by_cases h : i = j <;> simp [h]
@[simp] theorem cmp_ne_int : cmpP .ne (.int i) (.int j) st = some (!decide (i = j)) := by
  simp [cmpP, dv, both, isD, eqv]
  by_cases h : i = j <;> simp [h]
@[simp] theorem cmp_lt_int : cmpP .lt (.int i) (.int j) st = some (decide (i < j)) := by unfold cmpP; rfl
@[simp] theorem cmp_le_int : cmpP .le (.int i) (.int j) st = some (decide (i ≤ j)) := by unfold cmpP; rfl
@[simp] theorem cmp_gt_int : cmpP .gt (.int i) (.int j) st = some (decide (j < i)) := by unfold cmpP; rfl
@[simp] theorem cmp_ge_int : cmpP .ge (.int i) (.int j) st = some (decide (j ≤ i)) := by unfold cmpP; rfl
@[simp] theorem cmp_isn_non : cmpP .isn .non .non st = some false := by unfold cmpP; rfl
@[simp] theorem cmp_isn_tup {l : List PV} : cmpP .isn (.tup l) .non st = some true := by unfold cmpP; rfl
@[simp] theorem cmp_isn_int : cmpP .isn (.int i) .non st = some true := by unfold cmpP; rfl
@[simp] theorem cmp_is_non : cmpP .is .non .non st = some true := by unfold cmpP; rfl
@[simp] theorem cmp_is_tup {l : List PV} : cmpP .is (.tup l) .non st = some false := by unfold cmpP; rfl
@[simp] theorem cmp_is_int : cmpP .is (.int i) .non st = some false := by unfold cmpP; rfl
@[simp] theorem cmp_is_lst {l : List PV} : cmpP .is (.lst l) .non st = some false := by unfold cmpP; rfl
@[simp] theorem cmp_is_str {x : PySem.Str} : cmpP .is (.str x) .non st = some false := by unfold cmpP; rfl
@[simp] theorem cmp_is_bl {a b : Bool} : cmpP .is (.bl a) (.bl b) st = some (decide (a = b)) := by unfold cmpP; rfl
theorem cmp_isn_nn {v : PV} (h : v ≠ .non) : cmpP .isn v .non st = some true := by
  cases v <;> first | rfl | exact absurd rfl h
theorem cmp_eq_wv {a b : List Int} : cmpP .eq (wv a) (wv b) st = some (decide (a = b)) := by
  simp [cmpP, dv, both, wv, isD, eqv, isDL_int, eqvL_int]
@[simp] theorem cmp_eq_wv0 {a : List Int} : cmpP .eq (wv a) (.tup []) st = some (decide (a = [])) := cmp_eq_wv (b := [])
@[simp] theorem bin_add : binP .add (.int i) (.int j) st = some (.int (i + j)) := by unfold binP; rfl
@[simp] theorem bin_sub : binP .sub (.int i) (.int j) st = some (.int (i - j)) := by unfold binP; rfl
theorem bin_tup {a b : List PV} (h : a.length + b.length ≤ SZ) : binP .add (.tup a) (.tup b) st = some (.tup (a ++ b)) := by
  unfold binP
  simp only [h, if_true]
theorem bin_wv {a b : List Int} (h : a.length + b.length ≤ SZ) : binP .add (wv a) (wv b) st = some (wv (a ++ b)) := by
  unfold wv
  rw [bin_tup (by simpa using h), List.map_append]
theorem bin_lst {a b : List PV} (h : a.length + b.length ≤ SZ) : binP .add (.lst a) (.lst b) st = some (.lst (a ++ b)) := by
  unfold binP
  simp only [lstOf, h, if_true]
end
end Pv
namespace Pv
theorem denF_own {Φ : Den} {f : Fn} {vs : List PV} {st s1 : Store} {v : PV} (hr : runB Φ f.body (vs.map some ++ List.replicate (f.ns - f.np) none) [] = some (v, s1)) (hl : vs.length = f.np) (ho : f.own = true) (hv : lfL vs = true) (hz : lf v = true) : denF Φ f vs st = some (v, st) := by
  unfold denF
  rw [if_pos hl, if_pos ho, if_pos hv, hr]
  simp [hz]
end Pv
namespace Pv
@[simp] theorem blOf_bl {b : Bool} : blOf (.bl b) = some b := by unfold blOf; rfl
theorem set_same {α : Type} {l : List α} {k : Nat} {a : α} (h : l[k]? = some a) : l.set k a = l := by
  obtain ⟨hk, rfl⟩ := List.getElem?_eq_some_iff.mp h
  exact List.set_getElem_self hk
end Pv
namespace Pv
theorem range_at {n x : Nat} {l r : List Nat} (h : List.range n = l ++ x :: r) : x = l.length ∧ x < n := by
  have hlt : l.length < n := by
    have := congrArg List.length h
    rw [List.length_range, List.length_append, List.length_cons] at this
    omega
  have : (List.range n)[l.length]? = some x := by rw [h, List.getElem?_append_right (Nat.le_refl _)]; simp
  rw [List.getElem?_range hlt] at this
  cases this
  exact ⟨rfl, hlt⟩
theorem clL_S {α β : Type} {step : PV → Store → Option (List β × Store)} {F : α → PV} {g : α → List β} (St : List α → Store) (xs : List α) (h : ∀ l x r, xs = l ++ x :: r → step (F x) (St l) = some (g x, St (l ++ [x]))) : clL step (xs.map F) (St []) = some ((xs.map g).flatten, St xs) := by
  have key : ∀ (r l : List α), xs = l ++ r → clL step (r.map F) (St l) = some ((r.map g).flatten, St xs) := by
    intro r
    induction r with
    | nil => intro l e; rw [List.append_nil] at e; subst e; rfl
    | cons x r ih =>
      intro l e
      rw [List.map_cons, clL, h l x r e]
      simp only [Option.bind_some]
      rw [ih (l ++ [x]) (by simp [e])]
      simp
  exact key xs [] rfl
theorem ev_dcS {α : Type} {Φ : Den} {own : List Nat} {c s : Bool} {k v : CE} {t : CT} {i : CI} {fr : Fr} {st : Store} {xs : List α} (F : α → PV) (K V : α → PV) (St : List α → Store) (hi : evi Φ i fr st = some (xs.map F, St []))
    (h : ∀ l x r, xs = l ++ x :: r → ∃ fr1, asgT t (F x) (wipeF fr own) = some fr1 ∧ ev Φ k fr1 (St l) = some (K x, St l) ∧ ev Φ v fr1 (St l) = some (V x, St (l ++ [x])) ∧ kFor s (K x) = true)
    (hz : xs.length ≤ SZ) :
    ev Φ (.dc c s own k v t i none) fr st = some (mkD c s (dctL (xs.map fun x => (K x, V x))) (St xs)) := by
  rw [ev, hi]
  simp only [Option.bind_some]
  rw [clL_S (g := fun x => [(K x, V x)]) St xs fun l x r hx => ?_]
  · have e : (xs.map fun x => [(K x, V x)]).flatten = xs.map fun x => (K x, V x) := by
      clear hi h hz
      induction xs with
      | nil => rfl
      | cons a l ih => simp [ih]
    simp only [Option.bind_some, e]
    rw [if_pos (by rw [List.length_map]; exact hz)]
  · obtain ⟨fr1, h1, h2, h3, h4⟩ := h l x r hx
    simp only [h1, Option.bind_some, z_f0, if_true, h2, h3, h4]
end Pv
namespace Pv
theorem exs_app {Φ : Den} {a b : List CS} {fr : Fr} {st : Store} : exs Φ (a ++ b) fr st = (exs Φ a fr st).bind (kSq Φ b) := by
  induction a generalizing fr st with
  | nil => simp
  | cons c a ih =>
    rw [List.cons_append, z_s1, z_s1]
    cases ex Φ c fr st with
    | none => rfl
    | some p =>
      obtain ⟨f, fr1, s1⟩ := p
      cases f <;> simp [ih]
theorem exs_two {Φ : Den} {c d : CS} {b : List CS} {fr fr1 : Fr} {st s1 : Store} (h : exs Φ [c, d] fr st = some (.nx, fr1, s1)) : exs Φ (c :: d :: b) fr st = exs Φ b fr1 s1 := by
  have := exs_app (Φ := Φ) (a := [c, d]) (b := b) (fr := fr) (st := st)
  rw [h] at this
  rw [show c :: d :: b = [c, d] ++ b from rfl, this]
  simp
end Pv
namespace Pv
theorem denF_out {Φ : Den} {f : Fn} {vs : List PV} {st : Store} (hl : vs.length = f.np) (ho : f.own = false) : denF Φ f vs st = runB Φ f.body (vs.map some ++ List.replicate (f.ns - f.np) none) st := by
  unfold denF
  rw [if_pos hl, ho]
  rfl
end Pv
end

section
set_option Elab.async false
set_option linter.all false
set_option maxRecDepth 100000
set_option autoImplicit false
namespace K89
open PySem Pv

def topS (i : Nat) : Stmt := PySem.Challenge.pw_everystack_k89_grammars_by_trying.main.body.getD i (.Pass ⟨0, 0, 0, 0⟩)
def inS (i j : Nat) : Stmt := match topS i with
  | .ClassDef _ _ _ b _ _ _ _ _ _ _ => b.getD j (.Pass ⟨0, 0, 0, 0⟩)
  | _ => .Pass ⟨0, 0, 0, 0⟩
/-- is_integer: 0 thing -/
def dIsInteger_N : List Str := ["thing"]
def dIsInteger : Fn := ⟨false, 1, 1, [.ret (.and (.isi (.var 0) [.int]) (.nt (.isi (.var 0) [.bool])))]⟩
abbrev dIsInteger_S : Stmt := topS 7
/-- is_from: 0 low 1 thing -/
def dIsFrom_N : List Str := ["low", "thing"]
def dIsFrom : Fn := ⟨false, 2, 2, [.ret (.and (.call 0 [(.var 1)]) (.cmp .ge (.var 1) (.var 0)))]⟩
abbrev dIsFrom_S : Stmt := topS 8
/-- is_between: 0 low 1 thing 2 high -/
def dIsBetween_N : List Str := ["low", "thing", "high"]
def dIsBetween : Fn := ⟨false, 3, 3, [.ret (.and (.call 0 [(.var 1)]) (.cmp2 .le .le (.var 0) (.var 1) (.var 2)))]⟩
abbrev dIsBetween_S : Stmt := topS 9
/-- is_index_of: 0 count 1 thing -/
def dIsIndexOf_N : List Str := ["count", "thing"]
def dIsIndexOf : Fn := ⟨false, 2, 2, [.ret (.call 2 [(.con (.int 0)), (.var 1), (.bin .sub (.var 0) (.con (.int 1)))])]⟩
abbrev dIsIndexOf_S : Stmt := topS 10
/-- is_ascending: 0 things 1 part 2 later -/
def dIsAscending_N : List Str := ["things", "part", "later"]
def dIsAscending_c1 : CE := (.lc false [1, 2] (.cmp .lt (.var 1) (.var 2)) (.tp [(.nm 1), (.nm 2)]) (.zip (.var 0) (.slc (.var 0) (some (.con (.int 1))) none)) none)
def dIsAscending : Fn := ⟨false, 1, 3, [.ret (.bi .all [dIsAscending_c1])]⟩
abbrev dIsAscending_S : Stmt := topS 11
/-- is_word: 0 letters 1 thing 2 letter -/
def dIsWord_N : List Str := ["letters", "thing", "letter"]
def dIsWord_c1 : CE := (.lc false [2] (.call 3 [(.var 0), (.var 2)]) (.nm 2) (.seq (.var 1)) none)
def dIsWord : Fn := ⟨false, 2, 3, [.ret (.and (.isi (.var 1) [.tup]) (.bi .all [dIsWord_c1]))]⟩
abbrev dIsWord_S : Stmt := topS 12
/-- check_number: 0 thing -/
def dCheckNumber_N : List Str := ["thing"]
def dCheckNumber : Fn := ⟨false, 1, 1, [.ife (.nt (.call 1 [(.con (.int 0)), (.var 0)])) [.nev] []]⟩
abbrev dCheckNumber_S : Stmt := topS 13
/-- check_index: 0 count 1 thing -/
def dCheckIndex_N : List Str := ["count", "thing"]
def dCheckIndex : Fn := ⟨false, 2, 2, [.ife (.nt (.call 3 [(.var 0), (.var 1)])) [.nev] []]⟩
abbrev dCheckIndex_S : Stmt := topS 14
/-- Chart.children: 0 self 1 word 2 start 3 end 4 row 5 middle 6 first 7 second -/
def dChartChildren_N : List Str := ["self", "word", "start", "end", "row", "middle", "first", "second"]
def dChartChildren_l1b : List CS := [.set (.tp [(.nm 6), (.nm 7)]) (.tup [(.idx (.fld (.var 0) "rows") (.tup [(.var 2), (.var 5)])), (.idx (.fld (.var 0) "rows") (.tup [(.var 5), (.var 3)]))]), .ife (.and (.cmp .inn (.idx (.var 1) (.con (.int 0))) (.var 6)) (.cmp .inn (.idx (.var 1) (.con (.int 1))) (.var 7))) [.ret (.tup [(.idx (.var 6) (.idx (.var 1) (.con (.int 0)))), (.idx (.var 7) (.idx (.var 1) (.con (.int 1))))])] []]
def dChartChildren_l1 : CS := .frr (.nm 5) (.rng2 (.var 2) (.bin .add (.var 3) (.con (.int 1)))) dChartChildren_l1b
def dChartChildren : Fn := ⟨false, 4, 8, [.ife (.cmp .lt (.bi .len [(.var 1)]) (.con (.int 2))) [.set (.nm 4) (.idx (.fld (.var 0) "rows") (.tup [(.var 2), (.var 3)])), .ife (.cmp .eq (.var 1) (.tup [])) [.ret (.ife (.cmp .eq (.var 2) (.var 3)) (.tup []) (.con (.non)))] [], .ret (.ife (.cmp .inn (.idx (.var 1) (.con (.int 0))) (.var 4)) (.tup [(.idx (.var 4) (.idx (.var 1) (.con (.int 0))))]) (.con (.non)))] [], dChartChildren_l1, .ret (.con (.non))]⟩
abbrev dChartChildren_S : Stmt := inS 17 2
/-- Chart.fill: 0 self 1 start 2 end 3 row 4 is_changed 5 index 6 name 7 word 8 children -/
def dChartFill_N : List Str := ["self", "start", "end", "row", "is_changed", "index", "name", "word", "children"]
def dChartFill_l2b : List CS := [.set (.nm 8) (.ife (.cmp .nin (.var 6) (.var 3)) (.meth 8 "Chart" "children" (.var 0) [(.var 7), (.var 1), (.var 2)]) (.con (.non))), .ife (.cmp .isn (.var 8) (.con (.non))) [.seti (.var 3) (.var 6) (.tup [(.var 5), (.var 8)]), .set (.nm 4) (.con (.bl true))] []]
def dChartFill_l2 : CS := .frr (.tp [(.nm 5), (.tp [(.nm 6), (.nm 7)])]) (.enum (.fld (.var 0) "rules")) dChartFill_l2b
def dChartFill_l1b : List CS := [.set (.nm 4) (.con (.bl false)), dChartFill_l2]
def dChartFill_l1 : CS := .whl (.var 4) dChartFill_l1b
def dChartFill : Fn := ⟨false, 3, 9, [.set (.tp [(.nm 3), (.nm 4)]) (.tup [(.idx (.fld (.var 0) "rows") (.tup [(.var 1), (.var 2)])), (.con (.bl true))]), dChartFill_l1]⟩
abbrev dChartFill_S : Stmt := inS 17 1
/-- Chart.__init__: 0 self 1 grammar 2 word 3 length 4 start -/
def dChartInit_N : List Str := ["self", "grammar", "word", "length", "start"]
def dChartInit_l2b : List CS := [.seti (.fld (.var 0) "rows") (.tup [(.var 4), (.bin .add (.var 4) (.var 3))]) (.ife (.cmp .eq (.var 3) (.con (.int 1))) (.dctd true false [(.idx (.var 2) (.var 4)), (.idx (.var 2) (.var 4))]) (.dctd true false [])), .ex (.meth 9 "Chart" "fill" (.var 0) [(.var 4), (.bin .add (.var 4) (.var 3))])]
def dChartInit_l2 : CS := .frr (.nm 4) (.rng1 (.bin .sub (.bin .add (.bi .len [(.var 2)]) (.con (.int 1))) (.var 3))) dChartInit_l2b
def dChartInit_l1b : List CS := [dChartInit_l2]
def dChartInit_l1 : CS := .frr (.nm 3) (.rng1 (.bin .add (.bi .len [(.var 2)]) (.con (.int 1)))) dChartInit_l1b
def dChartInit : Fn := ⟨false, 3, 5, [.setf (.var 0) "rules" (.idx (.var 1) (.con (.int 2))), .setf (.var 0) "rows" (.dctd true true []), dChartInit_l1]⟩
abbrev dChartInit_S : Stmt := inS 17 0
/-- is_grammar_rule: 0 names 1 signs 2 thing -/
def dIsGrammarRule_N : List Str := ["names", "signs", "thing"]
def dIsGrammarRule : Fn := ⟨false, 3, 3, [.ife (.or (.nt (.isi (.var 2) [.tup])) (.or (.cmp .ne (.bi .len [(.var 2)]) (.con (.int 2))) (.nt (.call 3 [(.var 0), (.idx (.var 2) (.con (.int 0)))])))) [.ret (.con (.bl false))] [], .ret (.and (.call 5 [(.var 1), (.idx (.var 2) (.con (.int 1)))]) (.cmp .le (.bi .len [(.idx (.var 2) (.con (.int 1)))]) (.glb "MOST_OF_A_WORD" (.int 2))))]⟩
abbrev dIsGrammarRule_S : Stmt := topS 18
/-- is_grammar_form: 0 thing 1 names 2 ends 3 rules 4 rule -/
def dIsGrammarForm_N : List Str := ["thing", "names", "ends", "rules", "rule"]
def dIsGrammarForm_c1 : CE := (.lc false [4] (.call 11 [(.var 1), (.bin .add (.var 1) (.var 2)), (.var 4)]) (.nm 4) (.seq (.var 3)) none)
def dIsGrammarForm : Fn := ⟨false, 1, 5, [.ife (.or (.nt (.isi (.var 0) [.tup])) (.or (.cmp .ne (.bi .len [(.var 0)]) (.con (.int 3))) (.or (.nt (.call 1 [(.con (.int 1)), (.idx (.var 0) (.con (.int 0)))])) (.nt (.call 1 [(.con (.int 1)), (.idx (.var 0) (.con (.int 1)))]))))) [.ret (.con (.bl false))] [], .set (.tp [(.nm 1), (.nm 2), (.nm 3)]) (.var 0), .ife (.or (.nt (.isi (.var 3) [.tup])) (.nt (.bi .all [dIsGrammarForm_c1]))) [.ret (.con (.bl false))] [], .ret (.call 4 [(.var 3)])]⟩
abbrev dIsGrammarForm_S : Stmt := topS 19
/-- is_end: 0 grammar 1 thing -/
def dIsEnd_N : List Str := ["grammar", "thing"]
def dIsEnd : Fn := ⟨false, 2, 2, [.ret (.call 2 [(.idx (.var 0) (.con (.int 0))), (.var 1), (.bin .sub (.bin .add (.idx (.var 0) (.con (.int 0))) (.idx (.var 0) (.con (.int 1)))) (.con (.int 1)))])]⟩
abbrev dIsEnd_S : Stmt := topS 20
/-- check_grammar: 0 thing -/
def dCheckGrammar_N : List Str := ["thing"]
def dCheckGrammar : Fn := ⟨false, 1, 1, [.ife (.nt (.call 12 [(.var 0)])) [.nev] []]⟩
abbrev dCheckGrammar_S : Stmt := topS 21
/-- check_named: 0 grammar 1 name -/
def dCheckNamed_N : List Str := ["grammar", "name"]
def dCheckNamed : Fn := ⟨false, 2, 2, [.ex (.call 14 [(.var 0)]), .ex (.call 7 [(.idx (.var 0) (.con (.int 0))), (.var 1)])]⟩
abbrev dCheckNamed_S : Stmt := topS 22
/-- check_spelled: 0 grammar 1 name 2 word 3 sign -/
def dCheckSpelled_N : List Str := ["grammar", "name", "word", "sign"]
def dCheckSpelled_c1 : CE := (.lc false [3] (.call 13 [(.var 0), (.var 3)]) (.nm 3) (.seq (.var 2)) none)
def dCheckSpelled : Fn := ⟨false, 3, 4, [.ex (.call 15 [(.var 0), (.var 1)]), .ife (.or (.nt (.isi (.var 2) [.tup])) (.nt (.bi .all [dCheckSpelled_c1]))) [.nev] []]⟩
abbrev dCheckSpelled_S : Stmt := topS 23
/-- tree_of: 0 grammar 1 name 2 word -/
def dTreeOf_N : List Str := ["grammar", "name", "word"]
def dTreeOf : Fn := ⟨true, 3, 3, [.ret (.bm .get1 (.idx (.fld (.mk 10 "Chart" [(.var 0), (.var 2)]) "rows") (.tup [(.con (.int 0)), (.bi .len [(.var 2)])])) [(.var 1)])]⟩
abbrev dTreeOf_S : Stmt := topS 24
/-- put_in_place: 0 word 1 words 2 sign 3 end -/
def dPutInPlace_N : List Str := ["word", "words", "sign", "end"]
def dPutInPlace_c1 : CE := (.lc2 false [2, 3] [3] (.var 3) (.nm 2) (.seq (.var 0)) none (.nm 3) (.seq (.idx (.var 1) (.var 2))) none)
def dPutInPlace : Fn := ⟨false, 2, 4, [.ret (.bi .tuple [dPutInPlace_c1])]⟩
abbrev dPutInPlace_S : Stmt := topS 25
/-- first_words: 0 grammar 1 names 2 ends 3 rules 4 found 5 is_changed 6 name 7 word 8 told 9 end 10 sign -/
def dFirstWords_N : List Str := ["grammar", "names", "ends", "rules", "found", "is_changed", "name", "word", "told", "end", "sign"]
def dFirstWords_c1 : CE := (.dc true false [9] (.var 9) (.tup [(.var 9)]) (.nm 9) (.rng2 (.var 1) (.bin .add (.var 1) (.var 2))) none)
def dFirstWords_c2 : CE := (.lc false [10] (.cmp .inn (.var 10) (.var 4)) (.nm 10) (.seq (.var 7)) none)
def dFirstWords_l2b : List CS := [.ife (.bi .all [dFirstWords_c2]) [.set (.nm 8) (.call 18 [(.var 7), (.var 4)]), .ife (.or (.cmp .nin (.var 6) (.var 4)) (.cmp .lt (.tup [(.bi .len [(.var 8)]), (.var 8)]) (.tup [(.bi .len [(.idx (.var 4) (.var 6))]), (.idx (.var 4) (.var 6))]))) [.seti (.var 4) (.var 6) (.var 8), .set (.nm 5) (.con (.bl true))] []] []]
def dFirstWords_l2 : CS := .frr (.tp [(.nm 6), (.nm 7)]) (.seq (.var 3)) dFirstWords_l2b
def dFirstWords_l1b : List CS := [.set (.nm 5) (.con (.bl false)), dFirstWords_l2]
def dFirstWords_l1 : CS := .whl (.var 5) dFirstWords_l1b
def dFirstWords : Fn := ⟨true, 1, 11, [.set (.tp [(.nm 1), (.nm 2), (.nm 3)]) (.var 0), .set (.tp [(.nm 4), (.nm 5)]) (.tup [dFirstWords_c1, (.con (.bl true))]), dFirstWords_l1, .frz 4, .ret (.var 4)]⟩
abbrev dFirstWords_S : Stmt := topS 26
/-- units_of: 0 grammar 1 empties 2 found 3 is_changed 4 name 5 word 6 place 7 sign 8 more 9 other 10 one -/
def dUnitsOf_N : List Str := ["grammar", "empties", "found", "is_changed", "name", "word", "place", "sign", "more", "other", "one"]
def dUnitsOf_c1 : CE := (.dc true false [7] (.var 7) (.dctd true false [(.var 7), (.con (.bl true))]) (.nm 7) (.rng1 (.bin .add (.idx (.var 0) (.con (.int 0))) (.idx (.var 0) (.con (.int 1))))) none)
def dUnitsOf_c2 : CE := (.lc false [9] (.cmp .inn (.var 9) (.var 1)) (.nm 9) (.seq (.bin .add (.slc (.var 5) none (some (.var 6))) (.slc (.var 5) (some (.bin .add (.var 6) (.con (.int 1)))) none))) none)
def dUnitsOf_c3 : CE := (.lcl [10] (.var 10) (.nm 10) (.idx (.var 2) (.var 7)) (some (.cmp .nin (.var 10) (.idx (.var 2) (.var 4)))))
def dUnitsOf_c4 : CE := (.dc false false [10] (.var 10) (.con (.bl true)) (.nm 10) (.seq (.var 8)) none)
def dUnitsOf_l3b : List CS := [.ife (.bi .all [dUnitsOf_c2]) [.set (.nm 8) dUnitsOf_c3, .ex (.bm .upd (.idx (.var 2) (.var 4)) [dUnitsOf_c4]), .set (.nm 3) (.or (.var 3) (.cmp .ne (.var 8) (.lstd false [])))] []]
def dUnitsOf_l3 : CS := .frr (.tp [(.nm 6), (.nm 7)]) (.enum (.var 5)) dUnitsOf_l3b
def dUnitsOf_l2b : List CS := [dUnitsOf_l3]
def dUnitsOf_l2 : CS := .frr (.tp [(.nm 4), (.nm 5)]) (.seq (.idx (.var 0) (.con (.int 2)))) dUnitsOf_l2b
def dUnitsOf_l1b : List CS := [.set (.nm 3) (.con (.bl false)), dUnitsOf_l2]
def dUnitsOf_l1 : CS := .whl (.var 3) dUnitsOf_l1b
def dUnitsOf : Fn := ⟨true, 2, 11, [.set (.tp [(.nm 2), (.nm 3)]) (.tup [dUnitsOf_c1, (.con (.bl true))]), dUnitsOf_l1, .frz 2, .ret (.var 2)]⟩
abbrev dUnitsOf_S : Stmt := topS 27
/-- parted_words: 0 rules 1 found 2 length 3 told 4 name 5 word 6 row 7 middle 8 first 9 second 10 one 11 other -/
def dPartedWords_N : List Str := ["rules", "found", "length", "told", "name", "word", "row", "middle", "first", "second", "one", "other"]
def dPartedWords_c1 : CE := (.dc2 false true [10, 11] [11] (.bin .add (.var 10) (.var 11)) (.con (.bl true)) (.nm 10) (.seq (.var 8)) none (.nm 11) (.seq (.var 9)) none)
def dPartedWords_l2b : List CS := [.set (.tp [(.nm 8), (.nm 9)]) (.tup [(.bm .get2 (.idx (.var 1) (.var 7)) [(.idx (.var 5) (.con (.int 0))), (.lstd false [])]), (.bm .get2 (.idx (.var 1) (.bin .sub (.var 2) (.var 7))) [(.idx (.var 5) (.con (.int 1))), (.lstd false [])])]), .ex (.bm .upd (.var 6) [dPartedWords_c1])]
def dPartedWords_l2 : CS := .frr (.nm 7) (.rng2 (.con (.int 1)) (.var 2)) dPartedWords_l2b
def dPartedWords_l1b : List CS := [.ife (.cmp .eq (.bi .len [(.var 5)]) (.con (.int 2))) [.set (.nm 6) (.bm .setd (.var 3) [(.var 4), (.dctd true true [])]), dPartedWords_l2] []]
def dPartedWords_l1 : CS := .frr (.tp [(.nm 4), (.nm 5)]) (.seq (.var 0)) dPartedWords_l1b
def dPartedWords : Fn := ⟨false, 3, 12, [.set (.nm 3) (.dctd true false []), dPartedWords_l1, .ret (.var 3)]⟩
abbrev dPartedWords_S : Stmt := topS 28
/-- words_by_length: 0 grammar 1 most 2 names 3 ends 4 rules 5 empties 6 units 7 found 8 length 9 bare 10 rows 11 name 12 end 13 sign 14 one 15 row 16 word -/
def dWordsByLength_N : List Str := ["grammar", "most", "names", "ends", "rules", "empties", "units", "found", "length", "bare", "rows", "name", "end", "sign", "one", "row", "word"]
def dWordsByLength_c1 : CE := (.dc false false [11] (.var 11) (.lstd false [(.tup [])]) (.nm 11) (.seq (.var 5)) none)
def dWordsByLength_c2 : CE := (.dc false false [12] (.var 12) (.dctd false true [(.tup [(.var 12)]), (.con (.bl true))]) (.nm 12) (.rng2 (.var 2) (.bin .add (.var 2) (.var 3))) none)
def dWordsByLength_c4 : CE := (.lc2 false [14, 15] [15] (.var 15) (.nm 14) (.seq (.idx (.var 6) (.var 13))) none (.nm 15) (.seq (.bm .get2 (.var 9) [(.var 14), (.dctd false false [])])) none)
def dWordsByLength_c3 : CE := (.dc false false [13] (.var 13) dWordsByLength_c4 (.nm 13) (.seq (.var 6)) none)
def dWordsByLength_c6 : CE := (.dc false true [16] (.var 16) (.con (.bl true)) (.nm 16) (.seq (.var 15)) none)
def dWordsByLength_c5 : CE := (.dc false false [13, 15] (.var 13) (.bi .list [dWordsByLength_c6]) (.tp [(.nm 13), (.nm 15)]) (.items (.var 10)) none)
def dWordsByLength_l1b : List CS := [.set (.nm 9) (.call 21 [(.var 4), (.var 7), (.var 8)]), .ife (.cmp .eq (.var 8) (.con (.int 1))) [.ex (.bm .upd (.var 9) [dWordsByLength_c2])] [], .frz 9, .set (.nm 10) dWordsByLength_c3, .ex (.bm .append (.var 7) [dWordsByLength_c5])]
def dWordsByLength_l1 : CS := .frr (.nm 8) (.rng2 (.con (.int 1)) (.bin .add (.var 1) (.con (.int 1)))) dWordsByLength_l1b
def dWordsByLength : Fn := ⟨true, 2, 17, [.set (.tp [(.nm 2), (.nm 3), (.nm 4)]) (.var 0), .set (.nm 5) (.idx (.fld (.mk 10 "Chart" [(.var 0), (.tup [])]) "rows") (.tup [(.con (.int 0)), (.con (.int 0))])), .frz 5, .set (.tp [(.nm 6), (.nm 7)]) (.tup [(.call 20 [(.var 0), (.var 5)]), (.lstd true [dWordsByLength_c1])]), dWordsByLength_l1, .frz 7, .ret (.var 7)]⟩
abbrev dWordsByLength_S : Stmt := topS 29
/-- is_grammar: 0 value -/
def dIsGrammar_N : List Str := ["value"]
def dIsGrammar : Fn := ⟨false, 1, 1, [.ret (.call 12 [(.var 0)])]⟩
abbrev dIsGrammar_S : Stmt := topS 30
/-- is_of: 0 grammar 1 name 2 word -/
def dIsOf_N : List Str := ["grammar", "name", "word"]
def dIsOf : Fn := ⟨false, 3, 3, [.ex (.call 16 [(.var 0), (.var 1), (.var 2)]), .ret (.cmp .isn (.call 17 [(.var 0), (.var 1), (.var 2)]) (.con (.non)))]⟩
abbrev dIsOf_S : Stmt := topS 31
/-- shortest: 0 grammar 1 name -/
def dShortest_N : List Str := ["grammar", "name"]
def dShortest : Fn := ⟨false, 2, 2, [.ex (.call 15 [(.var 0), (.var 1)]), .ret (.bm .get1 (.call 19 [(.var 0)]) [(.var 1)])]⟩
abbrev dShortest_S : Stmt := topS 32
/-- count_words: 0 grammar 1 name 2 number -/
def dCountWords_N : List Str := ["grammar", "name", "number"]
def dCountWords : Fn := ⟨false, 3, 3, [.ex (.call 15 [(.var 0), (.var 1)]), .ex (.call 6 [(.var 2)]), .ife (.cmp .gt (.var 2) (.glb "MOST_COUNTED" (.int 8))) [.nev] [], .ret (.bi .len [(.bm .get2 (.idx (.call 22 [(.var 0), (.var 2)]) (.var 2)) [(.var 1), (.lstd false [])])])]⟩
abbrev dCountWords_S : Stmt := topS 33
/-- _law_bag: 0 script 1 at 2 cell -/
def dLawBag_N : List Str := ["script", "at", "cell"]
def dLawBag : Fn := ⟨false, 2, 3, [.set (.nm 2) (.ife (.cmp .lt (.var 1) (.bi .len [(.var 0)])) (.bi .int [(.bi .abs [(.idx (.var 0) (.var 1))])]) (.bin .add (.bin .mul (.con (.int 29)) (.var 1)) (.con (.int 11)))), .set (.nm 2) (.bin .mod (.bi .int [(.var 2)]) (.bin .mul (.bin .mul (.bin .mul (.bin .pow (.con (.int 10)) (.con (.int 64))) (.bin .pow (.con (.int 10)) (.con (.int 64)))) (.bin .pow (.con (.int 10)) (.con (.int 64)))) (.bin .pow (.con (.int 10)) (.con (.int 64))))), .ret (.lstd true [(.var 2), (.bi .int [(.cmp .ge (.var 2) (.bin .pow (.con (.int 10)) (.con (.int 18))))]), (.bin .add (.bin .mul (.con (.int 3)) (.var 1)) (.con (.int 1)))])]⟩
abbrev dLawBag_S : Stmt := topS 35
/-- _law_draw: 0 bag 1 many 2 digit 3 one -/
def dLawDraw_N : List Str := ["bag", "many", "digit", "one"]
def dLawDraw : Fn := ⟨false, 2, 4, [.seti (.var 0) (.con (.int 2)) (.bin .add (.idx (.var 0) (.con (.int 2))) (.con (.int 1))), .ife (.and (.cmp .eq (.idx (.var 0) (.con (.int 1))) (.con (.int 1))) (.cmp .gt (.idx (.var 0) (.con (.int 0))) (.con (.int 0)))) [.set (.nm 2) (.bin .mod (.bi .int [(.idx (.var 0) (.con (.int 0)))]) (.var 1)), .seti (.var 0) (.con (.int 0)) (.bin .fdiv (.idx (.var 0) (.con (.int 0))) (.var 1)), .ret (.var 2)] [], .set (.nm 3) (.bin .mod (.bi .int [(.bin .add (.bin .mul (.bin .add (.idx (.var 0) (.con (.int 0))) (.bin .mul (.con (.int 7919)) (.idx (.var 0) (.con (.int 2))))) (.con (.int 48611))) (.con (.int 577)))]) (.con (.int 2147483579))), .set (.nm 3) (.bin .mod (.bi .int [(.bin .add (.bin .mul (.var 3) (.var 3)) (.bin .mul (.con (.int 17)) (.idx (.var 0) (.con (.int 2)))))]) (.con (.int 2147483587))), .ret (.bin .mod (.bi .int [(.bin .fdiv (.var 3) (.con (.int 11)))]) (.var 1))]⟩
abbrev dLawDraw_S : Stmt := topS 36
/-- _law_one: 0 bag 1 rows -/
def dLawOne_N : List Str := ["bag", "rows"]
def dLawOne : Fn := ⟨false, 2, 2, [.ret (.idx (.var 1) (.call 28 [(.var 0), (.bi .len [(.var 1)])]))]⟩
abbrev dLawOne_S : Stmt := topS 37
/-- _law_same@0: 0 found 1 due 2 k -/
def dLawSame0_N : List Str := ["found", "due", "k"]
def dLawSame0 : Fn := ⟨false, 2, 3, [.nev]⟩
abbrev dLawSame0_S : Stmt := topS 38
/-- _law_same@1: 0 found 1 due 2 k -/
def dLawSame1_N : List Str := ["found", "due", "k"]
def dLawSame1_c1 : CE := (.lc false [2] (.call 30 [(.idx (.var 0) (.var 2)), (.idx (.var 1) (.var 2))]) (.nm 2) (.rng1 (.bi .len [(.var 1)])) none)
def dLawSame1 : Fn := ⟨false, 2, 3, [.ife (.isi (.var 1) [.tup, .lst]) [.ife (.or (.and (.isi (.var 1) [.tup]) (.nt (.isi (.var 0) [.tup]))) (.and (.isi (.var 1) [.lst]) (.nt (.isi (.var 0) [.lst])))) [.ret (.con (.bl false))] [], .ret (.and (.cmp .eq (.bi .len [(.var 0)]) (.bi .len [(.var 1)])) (.bi .all [dLawSame1_c1]))] [], .ife (.cmp .is (.var 1) (.con (.non))) [.ret (.cmp .is (.var 0) (.con (.non)))] [], .ife (.or (.isi (.var 1) [.bool]) (.isi (.var 0) [.bool])) [.ret (.and (.isi (.var 1) [.bool]) (.and (.isi (.var 0) [.bool]) (.cmp .eq (.var 0) (.var 1))))] [], .ife (.isi (.var 1) [.str]) [.ret (.and (.isi (.var 0) [.str]) (.cmp .eq (.var 0) (.var 1)))] [], .ret (.and (.isi (.var 0) [.int]) (.cmp .eq (.var 0) (.var 1)))]⟩
abbrev dLawSame1_S : Stmt := topS 38
/-- _law_same@2: 0 found 1 due 2 k -/
def dLawSame2_N : List Str := ["found", "due", "k"]
def dLawSame2_c1 : CE := (.lc false [2] (.call 31 [(.idx (.var 0) (.var 2)), (.idx (.var 1) (.var 2))]) (.nm 2) (.rng1 (.bi .len [(.var 1)])) none)
def dLawSame2 : Fn := ⟨false, 2, 3, [.ife (.isi (.var 1) [.tup, .lst]) [.ife (.or (.and (.isi (.var 1) [.tup]) (.nt (.isi (.var 0) [.tup]))) (.and (.isi (.var 1) [.lst]) (.nt (.isi (.var 0) [.lst])))) [.ret (.con (.bl false))] [], .ret (.and (.cmp .eq (.bi .len [(.var 0)]) (.bi .len [(.var 1)])) (.bi .all [dLawSame2_c1]))] [], .ife (.cmp .is (.var 1) (.con (.non))) [.ret (.cmp .is (.var 0) (.con (.non)))] [], .ife (.or (.isi (.var 1) [.bool]) (.isi (.var 0) [.bool])) [.ret (.and (.isi (.var 1) [.bool]) (.and (.isi (.var 0) [.bool]) (.cmp .eq (.var 0) (.var 1))))] [], .ife (.isi (.var 1) [.str]) [.ret (.and (.isi (.var 0) [.str]) (.cmp .eq (.var 0) (.var 1)))] [], .ret (.and (.isi (.var 0) [.int]) (.cmp .eq (.var 0) (.var 1)))]⟩
abbrev dLawSame2_S : Stmt := topS 38
/-- _law_grammar: 0 bag 1 names 2 ends 3 most 4 rules 5 k 6 name 7 length 8 one 9 two -/
def dLawGrammar_N : List Str := ["bag", "names", "ends", "most", "rules", "k", "name", "length", "one", "two"]
def dLawGrammar_l1b : List CS := [.set (.tp [(.nm 6), (.nm 7)]) (.tup [(.call 28 [(.var 0), (.var 1)]), (.call 29 [(.var 0), (.lstd false [(.con (.int 2)), (.con (.int 0)), (.con (.int 1)), (.con (.int 2)), (.con (.int 1)), (.con (.int 2))])])]), .set (.tp [(.nm 8), (.nm 9)]) (.tup [(.call 28 [(.var 0), (.bin .add (.var 1) (.var 2))]), (.call 28 [(.var 0), (.bin .add (.var 1) (.var 2))])]), .seti (.var 4) (.tup [(.var 6), (.slc (.tup [(.var 8), (.var 9)]) none (some (.var 7)))]) (.con (.bl true))]
def dLawGrammar_l1 : CS := .frr (.nm 5) (.rng1 (.call 28 [(.var 0), (.bin .add (.var 3) (.con (.int 1)))])) dLawGrammar_l1b
def dLawGrammar : Fn := ⟨false, 4, 10, [.set (.nm 4) (.dctd true true []), dLawGrammar_l1, .ret (.tup [(.var 1), (.var 2), (.bi .tuple [(.bi .sorted [(.var 4)])])])]⟩
abbrev dLawGrammar_S : Stmt := topS 39
/-- _law_is_int: 0 thing -/
def dLawIsInt_N : List Str := ["thing"]
def dLawIsInt : Fn := ⟨false, 1, 1, [.ret (.and (.isi (.var 0) [.int]) (.nt (.isi (.var 0) [.bool])))]⟩
abbrev dLawIsInt_S : Stmt := topS 40
/-- _law_is_row: 0 names 1 signs 2 row 3 sign -/
def dLawIsRow_N : List Str := ["names", "signs", "row", "sign"]
def dLawIsRow_c1 : CE := (.lc false [3] (.and (.call 34 [(.var 3)]) (.cmp2 .le .lt (.con (.int 0)) (.var 3) (.var 1))) (.nm 3) (.seq (.idx (.var 2) (.con (.int 1)))) none)
def dLawIsRow : Fn := ⟨false, 3, 4, [.ife (.or (.nt (.isi (.var 2) [.tup])) (.or (.cmp .ne (.bi .len [(.var 2)]) (.con (.int 2))) (.or (.nt (.call 34 [(.idx (.var 2) (.con (.int 0)))])) (.nt (.cmp2 .le .lt (.con (.int 0)) (.idx (.var 2) (.con (.int 0))) (.var 0)))))) [.ret (.con (.bl false))] [], .ife (.or (.nt (.isi (.idx (.var 2) (.con (.int 1))) [.tup])) (.cmp .gt (.bi .len [(.idx (.var 2) (.con (.int 1)))]) (.con (.int 2)))) [.ret (.con (.bl false))] [], .ret (.bi .all [dLawIsRow_c1])]⟩
abbrev dLawIsRow_S : Stmt := topS 41
/-- _law_judged: 0 thing 1 row 2 k -/
def dLawJudged_N : List Str := ["thing", "row", "k"]
def dLawJudged_c1 : CE := (.lc false [1] (.call 35 [(.idx (.var 0) (.con (.int 0))), (.bin .add (.idx (.var 0) (.con (.int 0))) (.idx (.var 0) (.con (.int 1)))), (.var 1)]) (.nm 1) (.seq (.idx (.var 0) (.con (.int 2)))) none)
def dLawJudged_c2 : CE := (.lc false [2] (.cmp .lt (.idx (.idx (.var 0) (.con (.int 2))) (.var 2)) (.idx (.idx (.var 0) (.con (.int 2))) (.bin .add (.var 2) (.con (.int 1))))) (.nm 2) (.rng1 (.bin .sub (.bi .len [(.idx (.var 0) (.con (.int 2)))]) (.con (.int 1)))) none)
def dLawJudged : Fn := ⟨false, 1, 3, [.ife (.or (.nt (.isi (.var 0) [.tup])) (.or (.cmp .ne (.bi .len [(.var 0)]) (.con (.int 3))) (.or (.nt (.call 34 [(.idx (.var 0) (.con (.int 0)))])) (.nt (.call 34 [(.idx (.var 0) (.con (.int 1)))]))))) [.ret (.con (.bl false))] [], .ife (.or (.cmp .lt (.idx (.var 0) (.con (.int 0))) (.con (.int 1))) (.or (.cmp .lt (.idx (.var 0) (.con (.int 1))) (.con (.int 1))) (.nt (.isi (.idx (.var 0) (.con (.int 2))) [.tup])))) [.ret (.con (.bl false))] [], .ife (.nt (.bi .all [dLawJudged_c1])) [.ret (.con (.bl false))] [], .ret (.bi .all [dLawJudged_c2])]⟩
abbrev dLawJudged_S : Stmt := topS 42
/-- _law_odd: 0 bag -/
def dLawOdd_N : List Str := ["bag"]
def dLawOdd : Fn := ⟨false, 1, 1, [.ret (.call 29 [(.var 0), (.lstd false [(.con (.non)), (.con (.bl true)), (.con (.bl false)), (.con (.int 0)), (.con (.int 1)), (.neg (.con (.int 1))), (.con (.str "")), (.con (.str "a")), (.tup []), (.lstd false []), (.tup [(.con (.int 1)), (.con (.int 1))]), (.tup [(.con (.int 1)), (.con (.int 1)), (.tup [])]), (.lstd false [(.con (.int 1)), (.con (.int 1)), (.tup [])]), (.tup [(.con (.int 1)), (.con (.int 1)), (.tup [(.tup [(.con (.int 0)), (.tup [])])])]), (.bin .pow (.con (.int 10)) (.con (.int 39))), (.tup [(.tup [])])])])]⟩
abbrev dLawOdd_S : Stmt := topS 43
/-- _law_bent: 0 bag 1 grammar 2 names 3 ends 4 rules 5 k 6 row 7 head 8 word 9 rows 10 put 11 some -/
def dLawBent_N : List Str := ["bag", "grammar", "names", "ends", "rules", "k", "row", "head", "word", "rows", "put", "some"]
def dLawBent : Fn := ⟨false, 2, 12, [.set (.tp [(.nm 2), (.nm 3), (.nm 4)]) (.var 1), .set (.nm 5) (.call 28 [(.var 0), (.bin .add (.bi .len [(.var 4)]) (.con (.int 1)))]), .set (.nm 6) (.ife (.cmp .lt (.var 5) (.bi .len [(.var 4)])) (.idx (.var 4) (.var 5)) (.tup [(.bin .sub (.var 2) (.con (.int 1))), (.tup [(.con (.int 0)), (.var 2)])])), .set (.tp [(.nm 7), (.nm 8)]) (.var 6), .set (.nm 9) (.lstd false [(.con (.non)), (.bi .list [(.var 6)]), (.bin .add (.var 6) (.tup [(.con (.int 0))])), (.slc (.var 6) none (some (.con (.int 1)))), (.tup [(.var 7), (.bi .list [(.var 8)])]), (.tup [(.var 7), (.bin .add (.var 8) (.tup [(.con (.int 0)), (.con (.int 0)), (.con (.int 0))]))]), (.tup [(.neg (.con (.int 1))), (.var 8)]), (.tup [(.var 2), (.var 8)]), (.tup [(.con (.bl true)), (.var 8)]), (.tup [(.var 7), (.tup [(.bin .add (.var 2) (.var 3))])])]), .set (.nm 9) (.bin .add (.var 9) (.lstd false [(.tup [(.var 7), (.tup [(.con (.int 0)), (.var 2), (.con (.int 0))])]), (.tup [(.var 7), (.tup [(.neg (.con (.int 1)))])]), (.tup [(.var 7), (.tup [(.con (.non))])]), (.tup [(.var 7), (.tup [(.con (.bl true))])]), (.tup [(.var 7), (.tup [(.con (.int 0)), (.bin .sub (.bin .add (.var 2) (.var 3)) (.con (.int 1)))])]), (.tup [(.var 7), (.con (.non))]), (.tup [(.var 7), (.con (.int 0))]), (.tup [(.var 7), (.tup [(.con (.int 0)), (.con (.bl false))])]), (.var 6)])), .set (.nm 10) (.bin .add (.bin .add (.slc (.var 4) none (some (.var 5))) (.tup [(.call 29 [(.var 0), (.var 9)])])) (.slc (.var 4) (some (.bin .add (.var 5) (.con (.int 1)))) none)), .set (.nm 11) (.bin .add (.bin .mul (.lstd false [(.tup [(.var 2), (.var 3), (.var 10)])]) (.con (.int 12))) (.lstd false [(.call 37 [(.var 0)]), (.bi .list [(.var 1)]), (.slc (.var 1) none (some (.con (.int 2)))), (.bin .add (.var 1) (.tup [(.con (.int 0))])), (.tup [(.con (.int 0)), (.var 3), (.tup [])]), (.tup [(.con (.bl true)), (.var 3), (.tup [])]), (.tup [(.var 2), (.con (.int 0)), (.tup [])]), (.tup [(.var 2), (.neg (.con (.int 1))), (.tup [])])])), .set (.nm 11) (.bin .add (.var 11) (.lstd false [(.tup [(.var 2), (.var 3), (.bi .list [(.var 4)])]), (.tup [(.var 2), (.var 3), (.con (.non))]), (.tup [(.var 2), (.var 3), (.rev (.var 4))]), (.tup [(.var 2), (.var 3), (.bin .add (.var 4) (.slc (.var 4) (some (.neg (.con (.int 1)))) none))]), (.tup [(.bin .add (.var 2) (.con (.int 1))), (.var 3), (.var 4)]), (.tup [(.var 2), (.bin .add (.var 3) (.con (.int 1))), (.var 4)])])), .ret (.call 29 [(.var 0), (.bin .add (.var 11) (.lstd false [(.tup [(.con (.int 1)), (.var 3), (.var 4)]), (.tup [(.var 2), (.con (.int 1)), (.var 4)]), (.tup [(.con (.str "1")), (.var 3), (.var 4)]), (.tup [(.var 2), (.var 3), (.slc (.var 4) (some (.con (.int 1))) none)]), (.tup [(.var 2), (.con (.non)), (.var 4)]), (.tup [(.var 2), (.var 3), (.tup [(.var 4)])])]))])]⟩
abbrev dLawBent_S : Stmt := topS 44
/-- _law_words: 0 grammar 1 most 2 names 3 ends 4 rules 5 table 6 is_new 7 name 8 end 9 word 10 told 11 sign 12 longer 13 one 14 row 15 other -/
def dLawWords_N : List Str := ["grammar", "most", "names", "ends", "rules", "table", "is_new", "name", "end", "word", "told", "sign", "longer", "one", "row", "other"]
def dLawWords_l1b : List CS := [.seti (.var 5) (.var 7) (.dctd true true [])]
def dLawWords_l1 : CS := .frr (.nm 7) (.rng1 (.var 2)) dLawWords_l1b
def dLawWords_l2b : List CS := [.seti (.var 5) (.var 8) (.dctd true true [(.tup [(.var 8)]), (.con (.bl true))])]
def dLawWords_l2 : CS := .frr (.nm 8) (.rng2 (.var 2) (.bin .add (.var 2) (.var 3))) dLawWords_l2b
def dLawWords_c1 : CE := (.lcl [15] (.bin .add (.var 13) (.var 15)) (.nm 15) (.idx (.var 5) (.var 11)) (some (.cmp .le (.bin .add (.bi .len [(.var 13)]) (.bi .len [(.var 15)])) (.var 1))))
def dLawWords_l6b : List CS := [.set (.nm 12) (.bin .add (.var 12) dLawWords_c1)]
def dLawWords_l6 : CS := .frr (.nm 13) (.seq (.var 10)) dLawWords_l6b
def dLawWords_l5b : List CS := [.set (.nm 12) (.lstd false []), dLawWords_l6, .set (.nm 10) (.var 12)]
def dLawWords_l5 : CS := .frr (.nm 11) (.seq (.var 9)) dLawWords_l5b
def dLawWords_l7b : List CS := [.ife (.cmp .nin (.var 13) (.var 14)) [.seti (.var 14) (.var 13) (.con (.bl true)), .set (.nm 6) (.con (.bl true))] []]
def dLawWords_l7 : CS := .frr (.nm 13) (.seq (.var 10)) dLawWords_l7b
def dLawWords_l4b : List CS := [.set (.nm 10) (.lstd false [(.tup [])]), dLawWords_l5, .set (.nm 14) (.idx (.var 5) (.var 7)), dLawWords_l7]
def dLawWords_l4 : CS := .frr (.tp [(.nm 7), (.nm 9)]) (.seq (.var 4)) dLawWords_l4b
def dLawWords_l3b : List CS := [.set (.nm 6) (.con (.bl false)), dLawWords_l4]
def dLawWords_l3 : CS := .whl (.var 6) dLawWords_l3b
def dLawWords : Fn := ⟨true, 2, 16, [.set (.tp [(.nm 2), (.nm 3), (.nm 4)]) (.var 0), .set (.tp [(.nm 5), (.nm 6)]) (.tup [(.dctd true false []), (.con (.bl true))]), dLawWords_l1, dLawWords_l2, dLawWords_l3, .frz 5, .ret (.var 5)]⟩
abbrev dLawWords_S : Stmt := topS 45
/-- _law_least: 0 grammar 1 names 2 ends 3 rules 4 found 5 is_new 6 end 7 name 8 word 9 total 10 sign -/
def dLawLeast_N : List Str := ["grammar", "names", "ends", "rules", "found", "is_new", "end", "name", "word", "total", "sign"]
def dLawLeast_l1b : List CS := [.seti (.var 4) (.var 6) (.con (.int 1))]
def dLawLeast_l1 : CS := .frr (.nm 6) (.rng2 (.var 1) (.bin .add (.var 1) (.var 2))) dLawLeast_l1b
def dLawLeast_c1 : CE := (.lc false [10] (.cmp .inn (.var 10) (.var 4)) (.nm 10) (.seq (.var 8)) none)
def dLawLeast_c2 : CE := (.lc false [10] (.idx (.var 4) (.var 10)) (.nm 10) (.seq (.var 8)) none)
def dLawLeast_l3b : List CS := [.ife (.bi .all [dLawLeast_c1]) [.set (.nm 9) (.bi .sum [dLawLeast_c2]), .ife (.or (.cmp .nin (.var 7) (.var 4)) (.cmp .lt (.var 9) (.idx (.var 4) (.var 7)))) [.seti (.var 4) (.var 7) (.var 9), .set (.nm 5) (.con (.bl true))] []] []]
def dLawLeast_l3 : CS := .frr (.tp [(.nm 7), (.nm 8)]) (.seq (.var 3)) dLawLeast_l3b
def dLawLeast_l2b : List CS := [.set (.nm 5) (.con (.bl false)), dLawLeast_l3]
def dLawLeast_l2 : CS := .whl (.var 5) dLawLeast_l2b
def dLawLeast : Fn := ⟨true, 1, 11, [.set (.tp [(.nm 1), (.nm 2), (.nm 3)]) (.var 0), .set (.tp [(.nm 4), (.nm 5)]) (.tup [(.dctd true false []), (.con (.bl true))]), dLawLeast_l1, dLawLeast_l2, .frz 4, .ret (.var 4)]⟩
abbrev dLawLeast_S : Stmt := topS 46
/-- _law_all_words: 0 grammar 1 most 2 names 3 ends 4 rules 5 layer 6 found 7 length 8 longer 9 word 10 end -/
def dLawAllWords_N : List Str := ["grammar", "most", "names", "ends", "rules", "layer", "found", "length", "longer", "word", "end"]
def dLawAllWords_c1 : CE := (.lc false [10] (.bin .add (.var 9) (.tup [(.var 10)])) (.nm 10) (.rng2 (.var 2) (.bin .add (.var 2) (.var 3))) none)
def dLawAllWords_l2b : List CS := [.set (.nm 8) (.bin .add (.var 8) dLawAllWords_c1)]
def dLawAllWords_l2 : CS := .frr (.nm 9) (.seq (.var 5)) dLawAllWords_l2b
def dLawAllWords_l1b : List CS := [.set (.nm 8) (.lstd false []), dLawAllWords_l2, .set (.tp [(.nm 5), (.nm 6)]) (.tup [(.var 8), (.bin .add (.var 6) (.var 8))])]
def dLawAllWords_l1 : CS := .frr (.nm 7) (.rng1 (.var 1)) dLawAllWords_l1b
def dLawAllWords : Fn := ⟨false, 2, 11, [.set (.tp [(.nm 2), (.nm 3), (.nm 4)]) (.var 0), .set (.tp [(.nm 5), (.nm 6)]) (.tup [(.lstd false [(.tup [])]), (.lstd false [(.tup [])])]), dLawAllWords_l1, .ret (.var 6)]⟩
abbrev dLawAllWords_S : Stmt := topS 47
/-- _law_shortest_right: 0 grammar 1 name 2 row 3 least 4 told 5 rows 6 word 7 sign -/
def dLawShortestRight_N : List Str := ["grammar", "name", "row", "least", "told", "rows", "word", "sign"]
def dLawShortestRight_c1 : CE := (.lc false [6] (.tup [(.bi .len [(.var 6)]), (.var 6)]) (.nm 6) (.seq (.var 2)) none)
def dLawShortestRight_c2 : CE := (.lc false [7] (.and (.call 34 [(.var 7)]) (.cmp2 .le .lt (.idx (.var 0) (.con (.int 0))) (.var 7) (.bin .add (.idx (.var 0) (.con (.int 0))) (.idx (.var 0) (.con (.int 1)))))) (.nm 7) (.seq (.var 4)) none)
def dLawShortestRight : Fn := ⟨false, 4, 8, [.set (.tp [(.nm 4), (.nm 5)]) (.tup [(.call 25 [(.var 0), (.var 1)]), (.bi .sorted [dLawShortestRight_c1])]), .ife (.cmp .ne (.var 5) (.lstd false [])) [.ret (.call 32 [(.var 4), (.idx (.idx (.var 5) (.con (.int 0))) (.con (.int 1)))])] [], .ife (.cmp .nin (.var 1) (.var 3)) [.ret (.cmp .is (.var 4) (.con (.non)))] [], .ife (.or (.nt (.isi (.var 4) [.tup])) (.cmp .ne (.bi .len [(.var 4)]) (.idx (.var 3) (.var 1)))) [.ret (.con (.bl false))] [], .ife (.nt (.bi .all [dLawShortestRight_c2])) [.ret (.con (.bl false))] [], .ret (.cmp .is (.call 24 [(.var 0), (.var 1), (.var 4)]) (.con (.bl true)))]⟩
abbrev dLawShortestRight_S : Stmt := topS 48
/-- law: 0 script 1 at 2 bag 3 grammar 4 turn 5 value 6 table 7 least 8 name 9 row 10 word 11 number -/
def dLaw_N : List Str := ["script", "at", "bag", "grammar", "turn", "value", "table", "least", "name", "row", "word", "number"]
def dLaw_l2b : List CS := [.set (.nm 5) (.call 38 [(.var 2), (.var 3)]), .ife (.nt (.call 32 [(.call 23 [(.var 5)]), (.call 36 [(.var 5)])])) [.ret (.con (.bl false))] []]
def dLaw_l2 : CS := .frr (.nm 4) (.rng1 (.con (.int 10))) dLaw_l2b
def dLaw_l4b : List CS := [.ife (.nt (.call 32 [(.call 24 [(.var 3), (.var 8), (.var 10)]), (.cmp .inn (.var 10) (.var 9))])) [.ret (.con (.bl false))] []]
def dLaw_l4 : CS := .frr (.nm 10) (.seq (.call 41 [(.var 3), (.con (.int 4))])) dLaw_l4b
def dLaw_c1 : CE := (.lc false [10] (.var 10) (.nm 10) (.seq (.var 9)) (some (.cmp .eq (.bi .len [(.var 10)]) (.var 11))))
def dLaw_l5b : List CS := [.ife (.nt (.call 32 [(.call 26 [(.var 3), (.var 8), (.var 11)]), (.bi .len [dLaw_c1])])) [.ret (.con (.bl false))] []]
def dLaw_l5 : CS := .frr (.nm 11) (.rng1 (.con (.int 5))) dLaw_l5b
def dLaw_l3b : List CS := [.set (.nm 9) (.idx (.var 6) (.var 8)), dLaw_l4, dLaw_l5, .ife (.nt (.call 42 [(.var 3), (.var 8), (.var 9), (.var 7)])) [.ret (.con (.bl false))] []]
def dLaw_l3 : CS := .frr (.nm 8) (.rng1 (.idx (.var 3) (.con (.int 0)))) dLaw_l3b
def dLaw_l1b : List CS := [.set (.nm 2) (.call 27 [(.var 0), (.var 1)]), .set (.nm 3) (.call 33 [(.var 2), (.bin .add (.con (.int 1)) (.call 28 [(.var 2), (.con (.int 3))])), (.bin .add (.con (.int 1)) (.call 28 [(.var 2), (.con (.int 2))])), (.con (.int 9))]), .ife (.cmp .isn (.call 23 [(.var 3)]) (.con (.bl true))) [.ret (.con (.bl false))] [], dLaw_l2, .set (.tp [(.nm 6), (.nm 7)]) (.tup [(.call 39 [(.var 3), (.con (.int 4))]), (.call 40 [(.var 3)])]), dLaw_l3]
def dLaw_l1 : CS := .frr (.nm 1) (.rng1 (.bi .max2 [(.con (.int 2)), (.bi .min2 [(.bi .len [(.var 0)]), (.con (.int 4))])])) dLaw_l1b
def dLaw : Fn := ⟨false, 1, 12, [dLaw_l1, .ret (.con (.bl true))]⟩
abbrev dLaw_S : Stmt := topS 49
def tab : List Ent := [⟨.fn "is_integer", 2⟩, ⟨.fn "is_from", 4⟩, ⟨.fn "is_between", 4⟩, ⟨.fn "is_index_of", 6⟩, ⟨.fn "is_ascending", 2⟩, ⟨.fn "is_word", 8⟩, ⟨.fn "check_number", 6⟩, ⟨.fn "check_index", 8⟩, ⟨.meth "Chart" "children", 2⟩, ⟨.meth "Chart" "fill", 4⟩, ⟨.init "Chart" "Chart", 6⟩, ⟨.fn "is_grammar_rule", 10⟩, ⟨.fn "is_grammar_form", 12⟩, ⟨.fn "is_end", 6⟩, ⟨.fn "check_grammar", 14⟩, ⟨.fn "check_named", 16⟩, ⟨.fn "check_spelled", 18⟩, ⟨.fn "tree_of", 9⟩, ⟨.fn "put_in_place", 2⟩, ⟨.fn "first_words", 4⟩, ⟨.fn "units_of", 2⟩, ⟨.fn "parted_words", 2⟩, ⟨.fn "words_by_length", 9⟩, ⟨.fn "is_grammar", 14⟩, ⟨.fn "is_of", 20⟩, ⟨.fn "shortest", 18⟩, ⟨.fn "count_words", 18⟩, ⟨.fn "_law_bag", 2⟩, ⟨.fn "_law_draw", 2⟩, ⟨.fn "_law_one", 4⟩, ⟨.fn "_law_same", 2⟩, ⟨.fn "_law_same", 4⟩, ⟨.fn "_law_same", 6⟩, ⟨.fn "_law_grammar", 6⟩, ⟨.fn "_law_is_int", 2⟩, ⟨.fn "_law_is_row", 4⟩, ⟨.fn "_law_judged", 6⟩, ⟨.fn "_law_odd", 6⟩, ⟨.fn "_law_bent", 8⟩, ⟨.fn "_law_words", 2⟩, ⟨.fn "_law_least", 2⟩, ⟨.fn "_law_all_words", 2⟩, ⟨.fn "_law_shortest_right", 22⟩, ⟨.fn "law", 24⟩]
def G : Gb := ⟨tab, ["abs", "all", "bool", "enumerate", "int", "isinstance", "len", "list", "max", "min", "range", "sorted", "str", "sum", "tuple", "zip"], [("MOST_COUNTED", .int 8), ("MOST_OF_A_WORD", .int 2)], ["rows", "rules"]⟩
def fnT : List Fn := [dIsInteger, dIsFrom, dIsBetween, dIsIndexOf, dIsAscending, dIsWord, dCheckNumber, dCheckIndex, dChartChildren, dChartFill, dChartInit, dIsGrammarRule, dIsGrammarForm, dIsEnd, dCheckGrammar, dCheckNamed, dCheckSpelled, dTreeOf, dPutInPlace, dFirstWords, dUnitsOf, dPartedWords, dWordsByLength, dIsGrammar, dIsOf, dShortest, dCountWords, dLawBag, dLawDraw, dLawOne, dLawSame0, dLawSame1, dLawSame2, dLawGrammar, dLawIsInt, dLawIsRow, dLawJudged, dLawOdd, dLawBent, dLawWords, dLawLeast, dLawAllWords, dLawShortestRight, dLaw]
theorem dIsInteger_at {n : Nat} (h : 0 < n) : denT fnT n 0 = denF (denT fnT 0) dIsInteger := denT_at h
theorem dIsFrom_at {n : Nat} (h : 1 < n) : denT fnT n 1 = denF (denT fnT 1) dIsFrom := denT_at h
theorem dIsBetween_at {n : Nat} (h : 2 < n) : denT fnT n 2 = denF (denT fnT 2) dIsBetween := denT_at h
theorem dIsIndexOf_at {n : Nat} (h : 3 < n) : denT fnT n 3 = denF (denT fnT 3) dIsIndexOf := denT_at h
theorem dIsAscending_at {n : Nat} (h : 4 < n) : denT fnT n 4 = denF (denT fnT 4) dIsAscending := denT_at h
theorem dIsWord_at {n : Nat} (h : 5 < n) : denT fnT n 5 = denF (denT fnT 5) dIsWord := denT_at h
theorem dCheckNumber_at {n : Nat} (h : 6 < n) : denT fnT n 6 = denF (denT fnT 6) dCheckNumber := denT_at h
theorem dCheckIndex_at {n : Nat} (h : 7 < n) : denT fnT n 7 = denF (denT fnT 7) dCheckIndex := denT_at h
theorem dChartChildren_at {n : Nat} (h : 8 < n) : denT fnT n 8 = denF (denT fnT 8) dChartChildren := denT_at h
theorem dChartFill_at {n : Nat} (h : 9 < n) : denT fnT n 9 = denF (denT fnT 9) dChartFill := denT_at h
theorem dChartInit_at {n : Nat} (h : 10 < n) : denT fnT n 10 = denF (denT fnT 10) dChartInit := denT_at h
theorem dIsGrammarRule_at {n : Nat} (h : 11 < n) : denT fnT n 11 = denF (denT fnT 11) dIsGrammarRule := denT_at h
theorem dIsGrammarForm_at {n : Nat} (h : 12 < n) : denT fnT n 12 = denF (denT fnT 12) dIsGrammarForm := denT_at h
theorem dIsEnd_at {n : Nat} (h : 13 < n) : denT fnT n 13 = denF (denT fnT 13) dIsEnd := denT_at h
theorem dCheckGrammar_at {n : Nat} (h : 14 < n) : denT fnT n 14 = denF (denT fnT 14) dCheckGrammar := denT_at h
theorem dCheckNamed_at {n : Nat} (h : 15 < n) : denT fnT n 15 = denF (denT fnT 15) dCheckNamed := denT_at h
theorem dCheckSpelled_at {n : Nat} (h : 16 < n) : denT fnT n 16 = denF (denT fnT 16) dCheckSpelled := denT_at h
theorem dTreeOf_at {n : Nat} (h : 17 < n) : denT fnT n 17 = denF (denT fnT 17) dTreeOf := denT_at h
theorem dPutInPlace_at {n : Nat} (h : 18 < n) : denT fnT n 18 = denF (denT fnT 18) dPutInPlace := denT_at h
theorem dFirstWords_at {n : Nat} (h : 19 < n) : denT fnT n 19 = denF (denT fnT 19) dFirstWords := denT_at h
theorem dUnitsOf_at {n : Nat} (h : 20 < n) : denT fnT n 20 = denF (denT fnT 20) dUnitsOf := denT_at h
theorem dPartedWords_at {n : Nat} (h : 21 < n) : denT fnT n 21 = denF (denT fnT 21) dPartedWords := denT_at h
theorem dWordsByLength_at {n : Nat} (h : 22 < n) : denT fnT n 22 = denF (denT fnT 22) dWordsByLength := denT_at h
theorem dIsGrammar_at {n : Nat} (h : 23 < n) : denT fnT n 23 = denF (denT fnT 23) dIsGrammar := denT_at h
theorem dIsOf_at {n : Nat} (h : 24 < n) : denT fnT n 24 = denF (denT fnT 24) dIsOf := denT_at h
theorem dShortest_at {n : Nat} (h : 25 < n) : denT fnT n 25 = denF (denT fnT 25) dShortest := denT_at h
theorem dCountWords_at {n : Nat} (h : 26 < n) : denT fnT n 26 = denF (denT fnT 26) dCountWords := denT_at h
theorem dLawBag_at {n : Nat} (h : 27 < n) : denT fnT n 27 = denF (denT fnT 27) dLawBag := denT_at h
theorem dLawDraw_at {n : Nat} (h : 28 < n) : denT fnT n 28 = denF (denT fnT 28) dLawDraw := denT_at h
theorem dLawOne_at {n : Nat} (h : 29 < n) : denT fnT n 29 = denF (denT fnT 29) dLawOne := denT_at h
theorem dLawSame0_at {n : Nat} (h : 30 < n) : denT fnT n 30 = denF (denT fnT 30) dLawSame0 := denT_at h
theorem dLawSame1_at {n : Nat} (h : 31 < n) : denT fnT n 31 = denF (denT fnT 31) dLawSame1 := denT_at h
theorem dLawSame2_at {n : Nat} (h : 32 < n) : denT fnT n 32 = denF (denT fnT 32) dLawSame2 := denT_at h
theorem dLawGrammar_at {n : Nat} (h : 33 < n) : denT fnT n 33 = denF (denT fnT 33) dLawGrammar := denT_at h
theorem dLawIsInt_at {n : Nat} (h : 34 < n) : denT fnT n 34 = denF (denT fnT 34) dLawIsInt := denT_at h
theorem dLawIsRow_at {n : Nat} (h : 35 < n) : denT fnT n 35 = denF (denT fnT 35) dLawIsRow := denT_at h
theorem dLawJudged_at {n : Nat} (h : 36 < n) : denT fnT n 36 = denF (denT fnT 36) dLawJudged := denT_at h
theorem dLawOdd_at {n : Nat} (h : 37 < n) : denT fnT n 37 = denF (denT fnT 37) dLawOdd := denT_at h
theorem dLawBent_at {n : Nat} (h : 38 < n) : denT fnT n 38 = denF (denT fnT 38) dLawBent := denT_at h
theorem dLawWords_at {n : Nat} (h : 39 < n) : denT fnT n 39 = denF (denT fnT 39) dLawWords := denT_at h
theorem dLawLeast_at {n : Nat} (h : 40 < n) : denT fnT n 40 = denF (denT fnT 40) dLawLeast := denT_at h
theorem dLawAllWords_at {n : Nat} (h : 41 < n) : denT fnT n 41 = denF (denT fnT 41) dLawAllWords := denT_at h
theorem dLawShortestRight_at {n : Nat} (h : 42 < n) : denT fnT n 42 = denF (denT fnT 42) dLawShortestRight := denT_at h
theorem dLaw_at {n : Nat} (h : 43 < n) : denT fnT n 43 = denF (denT fnT 43) dLaw := denT_at h
theorem dIsInteger_ok : (C8.scC dIsInteger_N (dIsInteger_N.take 1) (L2.defScope dIsInteger_S) && okSs (G.upto 0) dIsInteger.body ⟨dIsInteger_N, L2.defScope dIsInteger_S, none, 0⟩ (L2.defBody dIsInteger_S)) = true := by decide +kernel
theorem dIsFrom_ok : (C8.scC dIsFrom_N (dIsFrom_N.take 2) (L2.defScope dIsFrom_S) && okSs (G.upto 1) dIsFrom.body ⟨dIsFrom_N, L2.defScope dIsFrom_S, none, 2⟩ (L2.defBody dIsFrom_S)) = true := by decide +kernel
theorem dIsBetween_ok : (C8.scC dIsBetween_N (dIsBetween_N.take 3) (L2.defScope dIsBetween_S) && okSs (G.upto 2) dIsBetween.body ⟨dIsBetween_N, L2.defScope dIsBetween_S, none, 2⟩ (L2.defBody dIsBetween_S)) = true := by decide +kernel
theorem dIsIndexOf_ok : (C8.scC dIsIndexOf_N (dIsIndexOf_N.take 2) (L2.defScope dIsIndexOf_S) && okSs (G.upto 3) dIsIndexOf.body ⟨dIsIndexOf_N, L2.defScope dIsIndexOf_S, none, 4⟩ (L2.defBody dIsIndexOf_S)) = true := by decide +kernel
theorem dIsAscending_ok : (C8.scC dIsAscending_N (dIsAscending_N.take 1) (L2.defScope dIsAscending_S) && okSs (G.upto 4) dIsAscending.body ⟨dIsAscending_N, L2.defScope dIsAscending_S, none, 0⟩ (L2.defBody dIsAscending_S)) = true := by decide +kernel
theorem dIsWord_ok : (C8.scC dIsWord_N (dIsWord_N.take 2) (L2.defScope dIsWord_S) && okSs (G.upto 5) dIsWord.body ⟨dIsWord_N, L2.defScope dIsWord_S, none, 6⟩ (L2.defBody dIsWord_S)) = true := by decide +kernel
theorem dCheckNumber_ok : (C8.scC dCheckNumber_N (dCheckNumber_N.take 1) (L2.defScope dCheckNumber_S) && okSs (G.upto 6) dCheckNumber.body ⟨dCheckNumber_N, L2.defScope dCheckNumber_S, none, 4⟩ (L2.defBody dCheckNumber_S)) = true := by decide +kernel
theorem dCheckIndex_ok : (C8.scC dCheckIndex_N (dCheckIndex_N.take 2) (L2.defScope dCheckIndex_S) && okSs (G.upto 7) dCheckIndex.body ⟨dCheckIndex_N, L2.defScope dCheckIndex_S, none, 6⟩ (L2.defBody dCheckIndex_S)) = true := by decide +kernel
theorem dChartChildren_ok : (C8.scC dChartChildren_N (dChartChildren_N.take 4) (L2.defScope dChartChildren_S) && okSs (G.upto 8) dChartChildren.body ⟨dChartChildren_N, L2.defScope dChartChildren_S, none, 0⟩ (L2.defBody dChartChildren_S)) = true := by decide +kernel
theorem dChartFill_ok : (C8.scC dChartFill_N (dChartFill_N.take 3) (L2.defScope dChartFill_S) && okSs (G.upto 9) dChartFill.body ⟨dChartFill_N, L2.defScope dChartFill_S, none, 2⟩ (L2.defBody dChartFill_S)) = true := by decide +kernel
theorem dChartInit_ok : (C8.scC dChartInit_N (dChartInit_N.take 3) (L2.defScope dChartInit_S) && okSs (G.upto 10) dChartInit.body ⟨dChartInit_N, L2.defScope dChartInit_S, none, 4⟩ (L2.defBody dChartInit_S)) = true := by decide +kernel
theorem dIsGrammarRule_ok : (C8.scC dIsGrammarRule_N (dIsGrammarRule_N.take 3) (L2.defScope dIsGrammarRule_S) && okSs (G.upto 11) dIsGrammarRule.body ⟨dIsGrammarRule_N, L2.defScope dIsGrammarRule_S, none, 8⟩ (L2.defBody dIsGrammarRule_S)) = true := by decide +kernel
theorem dIsGrammarForm_ok : (C8.scC dIsGrammarForm_N (dIsGrammarForm_N.take 1) (L2.defScope dIsGrammarForm_S) && okSs (G.upto 12) dIsGrammarForm.body ⟨dIsGrammarForm_N, L2.defScope dIsGrammarForm_S, none, 10⟩ (L2.defBody dIsGrammarForm_S)) = true := by decide +kernel
theorem dIsEnd_ok : (C8.scC dIsEnd_N (dIsEnd_N.take 2) (L2.defScope dIsEnd_S) && okSs (G.upto 13) dIsEnd.body ⟨dIsEnd_N, L2.defScope dIsEnd_S, none, 4⟩ (L2.defBody dIsEnd_S)) = true := by decide +kernel
theorem dCheckGrammar_ok : (C8.scC dCheckGrammar_N (dCheckGrammar_N.take 1) (L2.defScope dCheckGrammar_S) && okSs (G.upto 14) dCheckGrammar.body ⟨dCheckGrammar_N, L2.defScope dCheckGrammar_S, none, 12⟩ (L2.defBody dCheckGrammar_S)) = true := by decide +kernel
theorem dCheckNamed_ok : (C8.scC dCheckNamed_N (dCheckNamed_N.take 2) (L2.defScope dCheckNamed_S) && okSs (G.upto 15) dCheckNamed.body ⟨dCheckNamed_N, L2.defScope dCheckNamed_S, none, 14⟩ (L2.defBody dCheckNamed_S)) = true := by decide +kernel
theorem dCheckSpelled_ok : (C8.scC dCheckSpelled_N (dCheckSpelled_N.take 3) (L2.defScope dCheckSpelled_S) && okSs (G.upto 16) dCheckSpelled.body ⟨dCheckSpelled_N, L2.defScope dCheckSpelled_S, none, 16⟩ (L2.defBody dCheckSpelled_S)) = true := by decide +kernel
theorem dTreeOf_ok : (C8.scC dTreeOf_N (dTreeOf_N.take 3) (L2.defScope dTreeOf_S) && okSs (G.upto 17) dTreeOf.body ⟨dTreeOf_N, L2.defScope dTreeOf_S, none, 7⟩ (L2.defBody dTreeOf_S)) = true := by decide +kernel
theorem dPutInPlace_ok : (C8.scC dPutInPlace_N (dPutInPlace_N.take 2) (L2.defScope dPutInPlace_S) && okSs (G.upto 18) dPutInPlace.body ⟨dPutInPlace_N, L2.defScope dPutInPlace_S, none, 0⟩ (L2.defBody dPutInPlace_S)) = true := by decide +kernel
theorem dFirstWords_ok : (C8.scC dFirstWords_N (dFirstWords_N.take 1) (L2.defScope dFirstWords_S) && okSs (G.upto 19) dFirstWords.body ⟨dFirstWords_N, L2.defScope dFirstWords_S, none, 2⟩ (L2.defBody dFirstWords_S)) = true := by decide +kernel
theorem dUnitsOf_ok : (C8.scC dUnitsOf_N (dUnitsOf_N.take 2) (L2.defScope dUnitsOf_S) && okSs (G.upto 20) dUnitsOf.body ⟨dUnitsOf_N, L2.defScope dUnitsOf_S, none, 0⟩ (L2.defBody dUnitsOf_S)) = true := by decide +kernel
theorem dPartedWords_ok : (C8.scC dPartedWords_N (dPartedWords_N.take 3) (L2.defScope dPartedWords_S) && okSs (G.upto 21) dPartedWords.body ⟨dPartedWords_N, L2.defScope dPartedWords_S, none, 0⟩ (L2.defBody dPartedWords_S)) = true := by decide +kernel
theorem dWordsByLength_ok : (C8.scC dWordsByLength_N (dWordsByLength_N.take 2) (L2.defScope dWordsByLength_S) && okSs (G.upto 22) dWordsByLength.body ⟨dWordsByLength_N, L2.defScope dWordsByLength_S, none, 7⟩ (L2.defBody dWordsByLength_S)) = true := by decide +kernel
theorem dIsGrammar_ok : (C8.scC dIsGrammar_N (dIsGrammar_N.take 1) (L2.defScope dIsGrammar_S) && okSs (G.upto 23) dIsGrammar.body ⟨dIsGrammar_N, L2.defScope dIsGrammar_S, none, 12⟩ (L2.defBody dIsGrammar_S)) = true := by decide +kernel
theorem dIsOf_ok : (C8.scC dIsOf_N (dIsOf_N.take 3) (L2.defScope dIsOf_S) && okSs (G.upto 24) dIsOf.body ⟨dIsOf_N, L2.defScope dIsOf_S, none, 18⟩ (L2.defBody dIsOf_S)) = true := by decide +kernel
theorem dShortest_ok : (C8.scC dShortest_N (dShortest_N.take 2) (L2.defScope dShortest_S) && okSs (G.upto 25) dShortest.body ⟨dShortest_N, L2.defScope dShortest_S, none, 16⟩ (L2.defBody dShortest_S)) = true := by decide +kernel
theorem dCountWords_ok : (C8.scC dCountWords_N (dCountWords_N.take 3) (L2.defScope dCountWords_S) && okSs (G.upto 26) dCountWords.body ⟨dCountWords_N, L2.defScope dCountWords_S, none, 16⟩ (L2.defBody dCountWords_S)) = true := by decide +kernel
theorem dLawBag_ok : (C8.scC dLawBag_N (dLawBag_N.take 2) (L2.defScope dLawBag_S) && okSs (G.upto 27) dLawBag.body ⟨dLawBag_N, L2.defScope dLawBag_S, none, 0⟩ (L2.defBody dLawBag_S)) = true := by decide +kernel
theorem dLawDraw_ok : (C8.scC dLawDraw_N (dLawDraw_N.take 2) (L2.defScope dLawDraw_S) && okSs (G.upto 28) dLawDraw.body ⟨dLawDraw_N, L2.defScope dLawDraw_S, none, 0⟩ (L2.defBody dLawDraw_S)) = true := by decide +kernel
theorem dLawOne_ok : (C8.scC dLawOne_N (dLawOne_N.take 2) (L2.defScope dLawOne_S) && okSs (G.upto 29) dLawOne.body ⟨dLawOne_N, L2.defScope dLawOne_S, none, 2⟩ (L2.defBody dLawOne_S)) = true := by decide +kernel
theorem dLawSame0_ok : (C8.scC dLawSame0_N (dLawSame0_N.take 2) (L2.defScope dLawSame0_S) && okSs (G.upto 30) dLawSame0.body ⟨dLawSame0_N, L2.defScope dLawSame0_S, none, 0⟩ (L2.defBody dLawSame0_S)) = true := by decide +kernel
theorem dLawSame1_ok : (C8.scC dLawSame1_N (dLawSame1_N.take 2) (L2.defScope dLawSame1_S) && okSs (G.upto 31) dLawSame1.body ⟨dLawSame1_N, L2.defScope dLawSame1_S, none, 2⟩ (L2.defBody dLawSame1_S)) = true := by decide +kernel
theorem dLawSame2_ok : (C8.scC dLawSame2_N (dLawSame2_N.take 2) (L2.defScope dLawSame2_S) && okSs (G.upto 32) dLawSame2.body ⟨dLawSame2_N, L2.defScope dLawSame2_S, none, 4⟩ (L2.defBody dLawSame2_S)) = true := by decide +kernel
theorem dLawGrammar_ok : (C8.scC dLawGrammar_N (dLawGrammar_N.take 4) (L2.defScope dLawGrammar_S) && okSs (G.upto 33) dLawGrammar.body ⟨dLawGrammar_N, L2.defScope dLawGrammar_S, none, 4⟩ (L2.defBody dLawGrammar_S)) = true := by decide +kernel
theorem dLawIsInt_ok : (C8.scC dLawIsInt_N (dLawIsInt_N.take 1) (L2.defScope dLawIsInt_S) && okSs (G.upto 34) dLawIsInt.body ⟨dLawIsInt_N, L2.defScope dLawIsInt_S, none, 0⟩ (L2.defBody dLawIsInt_S)) = true := by decide +kernel
theorem dLawIsRow_ok : (C8.scC dLawIsRow_N (dLawIsRow_N.take 3) (L2.defScope dLawIsRow_S) && okSs (G.upto 35) dLawIsRow.body ⟨dLawIsRow_N, L2.defScope dLawIsRow_S, none, 2⟩ (L2.defBody dLawIsRow_S)) = true := by decide +kernel
theorem dLawJudged_ok : (C8.scC dLawJudged_N (dLawJudged_N.take 1) (L2.defScope dLawJudged_S) && okSs (G.upto 36) dLawJudged.body ⟨dLawJudged_N, L2.defScope dLawJudged_S, none, 4⟩ (L2.defBody dLawJudged_S)) = true := by decide +kernel
theorem dLawOdd_ok : (C8.scC dLawOdd_N (dLawOdd_N.take 1) (L2.defScope dLawOdd_S) && okSs (G.upto 37) dLawOdd.body ⟨dLawOdd_N, L2.defScope dLawOdd_S, none, 4⟩ (L2.defBody dLawOdd_S)) = true := by decide +kernel
theorem dLawBent_ok : (C8.scC dLawBent_N (dLawBent_N.take 2) (L2.defScope dLawBent_S) && okSs (G.upto 38) dLawBent.body ⟨dLawBent_N, L2.defScope dLawBent_S, none, 6⟩ (L2.defBody dLawBent_S)) = true := by decide +kernel
theorem dLawWords_ok : (C8.scC dLawWords_N (dLawWords_N.take 2) (L2.defScope dLawWords_S) && okSs (G.upto 39) dLawWords.body ⟨dLawWords_N, L2.defScope dLawWords_S, none, 0⟩ (L2.defBody dLawWords_S)) = true := by decide +kernel
theorem dLawLeast_ok : (C8.scC dLawLeast_N (dLawLeast_N.take 1) (L2.defScope dLawLeast_S) && okSs (G.upto 40) dLawLeast.body ⟨dLawLeast_N, L2.defScope dLawLeast_S, none, 0⟩ (L2.defBody dLawLeast_S)) = true := by decide +kernel
theorem dLawAllWords_ok : (C8.scC dLawAllWords_N (dLawAllWords_N.take 2) (L2.defScope dLawAllWords_S) && okSs (G.upto 41) dLawAllWords.body ⟨dLawAllWords_N, L2.defScope dLawAllWords_S, none, 0⟩ (L2.defBody dLawAllWords_S)) = true := by decide +kernel
theorem dLawShortestRight_ok : (C8.scC dLawShortestRight_N (dLawShortestRight_N.take 4) (L2.defScope dLawShortestRight_S) && okSs (G.upto 42) dLawShortestRight.body ⟨dLawShortestRight_N, L2.defScope dLawShortestRight_S, none, 20⟩ (L2.defBody dLawShortestRight_S)) = true := by decide +kernel
theorem dLaw_ok : (C8.scC dLaw_N (dLaw_N.take 1) (L2.defScope dLaw_S) && okSs (G.upto 43) dLaw.body ⟨dLaw_N, L2.defScope dLaw_S, none, 22⟩ (L2.defBody dLaw_S)) = true := by decide +kernel
end K89
end

section
set_option Elab.async false
set_option linter.all false
set_option maxRecDepth 100000
set_option autoImplicit false
namespace K89
open PySem (Str)
open Pv

def isI : PV → Bool
  | .int _ => true
  | _ => false
def inI (lo : Int) (v : PV) (hi : Int) : Bool := match v with
  | .int i => decide (lo ≤ i ∧ i ≤ hi)
  | _ => false
theorem q0 {n : Nat} (h : 0 < n) {v : PV} {st : Store} (hv : tyOk st v = true) : denT fnT n 0 [v] st = some (.bl (isI v), st) := by
  rw [dIsInteger_at h]
  cases v <;> simp [dIsInteger, denF, runB, exs, ex, ev, evs, tyIs, blOf, isI, hv] <;> simp_all [tyOk, lstOf, dctOf]
def fromI (i : Int) : PV → Bool
  | .int j => decide (i ≤ j)
  | _ => false
theorem fromI_int {i : Int} {v : PV} (h : fromI i v = true) : ∃ j, v = .int j ∧ i ≤ j := by
  cases v with
  | int j => exact ⟨j, rfl, by simpa [fromI] using h⟩
  | _ => simp [fromI] at h
theorem q1 {n : Nat} (h : 1 < n) {v : PV} {i : Int} {st : Store} (hv : tyOk st v = true) : denT fnT n 1 [.int i, v] st = some (.bl (fromI i v), st) := by
  rw [dIsFrom_at h]
  cases v <;> simp [fromI, dIsFrom, denF, runB, exs, ex, ev, evs, q0, hv, isI, blOf, cmpP]
theorem q2 {n : Nat} (h : 2 < n) {v : PV} {i j : Int} {st : Store} (hv : tyOk st v = true) : denT fnT n 2 [.int i, v, .int j] st = some (.bl (inI i v j), st) := by
  rw [dIsBetween_at h]
  cases v with
  | int k =>
    by_cases h1 : i ≤ k <;> simp [dIsBetween, denF, runB, exs, ex, ev, evs, q0, hv, isI, blOf, cmpP, inI, h1]
  | _ => simp [dIsBetween, denF, runB, exs, ex, ev, evs, q0, hv, isI, blOf, cmpP, inI]
theorem q3 {n : Nat} (h : 3 < n) {v : PV} {i : Int} {st : Store} (hv : tyOk st v = true) : denT fnT n 3 [.int i, v] st = some (.bl (inI 0 v (i - 1)), st) := by
  rw [dIsIndexOf_at h]
  simp [dIsIndexOf, denF, runB, exs, ex, ev, evs, q2, hv, binP, binI]
end K89
namespace K89
open PySem (Str)
open Pv
def isW (n : Int) : PV → Bool
  | .tup l => l.all fun x => inI 0 x (n - 1)
  | _ => false
theorem c5 {v : List PV} {i : Int} {st : Store} {o : Option PV} (hv : plV (.tup v) = true) : ev (denT fnT 5) dIsWord_c1 [some (.int i), some (.tup v), o] st = some (.lst (v.map fun x => .bl (inI 0 x (i - 1))), st) := by
  obtain ⟨h1, h2⟩ := plV_tup hv
  refine ev_lcm (xs := v) (s1 := st) (fun x => .bl (inI 0 x (i - 1))) (by simp [evi, ev]) (fun x hx => ⟨_, rfl, ?_⟩) (sz_1000 h1)
  simp [wipeF, ev, evs, q3, tyOk_pl (h2 x hx)]
theorem q5 {n : Nat} (h : 5 < n) {v : PV} {i : Int} {st : Store} (hv : plV v = true) : denT fnT n 5 [.int i, v] st = some (.bl (isW i v), st) := by
  rw [dIsWord_at h]
  cases v with
  | tup l => simp [dIsWord, denF, runB, exs, ex, ev, evs, tyOk_pl hv, tyIs, blOf, isW, c5 hv, biP, lstOf, blsOf_map, all_map_id]
  | _ => simp [dIsWord, denF, runB, exs, ex, ev, evs, tyOk_pl hv, tyIs, blOf, isW] <;> simp_all [plV]
end K89
end

section
set_option Elab.async false
set_option linter.all false
set_option maxRecDepth 100000
set_option autoImplicit false
namespace K89
open PySem (Str)
open Pv

/-! rules as typed things -/
abbrev Ru := Int × List Int
def rv (r : Ru) : PV := .tup [.int r.1, wv r.2]
def ltR (r s : Ru) : Bool := if r.1 = s.1 then ltW r.2 s.2 else decide (r.1 < s.1)
theorem lt_rv (r s : Ru) : ltP (rv r) (rv s) = ltR r s := by
  unfold rv wv ltR
  simp only [ltP, ltL, eqv, eqvL_int, ltL_int]
  by_cases h : r.1 = s.1
  · by_cases h2 : r.2 = s.2
    · have : ltW s.2 s.2 = false := by
        generalize s.2 = l
        induction l with
        | nil => rfl
        | cons a t ih => simp [ltW, ih]
      simp [h, h2, this]
    · simp [h, h2]
  · simp [h]
theorem alk_rv (r s : Ru) : alk (rv r) (rv s) = true := by simp [rv, wv, alk, alkL, alkL_int]
theorem isD_rv (r : Ru) : isD 30 (rv r) = true := by simp [rv, wv, isD, isDL, isDL_int]
def ascR (rs : List Ru) : Bool := (rs.zip rs.tail).all fun p => ltR p.1 p.2
theorem zip_rv : ∀ (a b : List Ru), zipL (a.map rv) (b.map rv) = (a.zip b).map fun p => .tup [rv p.1, rv p.2]
  | [], _ => by simp [zipL]
  | _ :: _, [] => by simp [zipL]
  | x :: a, y :: b => by simp [zipL, zip_rv a b]
theorem c4 {rs : List Ru} {st : Store} {o u : Option PV} (h1 : rs.length ≤ 1000) : ev (denT fnT 4) dIsAscending_c1 [some (.tup (rs.map rv)), o, u] st = some (.lst ((rs.zip rs.tail).map fun p => .bl (ltR p.1 p.2)), st) := by
  refine ev_lcmT (xs := rs.zip rs.tail) (s1 := st) (fun p => .tup [rv p.1, rv p.2]) (fun p => .bl (ltR p.1 p.2)) ?_ (fun x hx => ⟨_, rfl, ?_⟩) (sz_1000 (by rw [List.length_zip]; omega))
  · simp [evi, ev, evo, slcP, sliP, cut_tail, ← List.map_tail, zip_rv]
  · have nn : ∀ r : Ru, rv r ≠ .non := fun r h => by simp [rv] at h
    have hb : ∀ r s : Ru, cmpP .lt (rv r) (rv s) st = some (ltR r s) := fun r s => by
      have e : cmpP .lt (rv r) (rv s) st = if both (rv r) (rv s) && alk (rv r) (rv s) && !decide (rv r = .non) then some (ltP (rv r) (rv s)) else none := rfl
      rw [e]
      simp [both, isD_rv, alk_rv, nn, lt_rv]
    simp [wipeF, ev, hb]
theorem q4 {n : Nat} (h : 4 < n) {rs : List Ru} {st : Store} (h1 : rs.length ≤ 1000) : denT fnT n 4 [.tup (rs.map rv)] st = some (.bl (ascR rs), st) := by
  rw [dIsAscending_at h]
  simp [dIsAscending, denF, runB, exs, ex, ev, evs, c4 h1, biP, lstOf, blsOf_map, all_map_id, ascR]

def shortP : PV → Bool
  | .tup l => decide (l.length ≤ 2)
  | _ => false
def isRule (n s : Int) : PV → Bool
  | .tup [a, w] => inI 0 a (n - 1) && (isW s w && shortP w)
  | _ => false
theorem q11 {n : Nat} (h : 11 < n) {v : PV} {i j : Int} {st : Store} (hv : plV v = true) : denT fnT n 11 [.int i, .int j, v] st = some (.bl (isRule i j v), st) := by
  rw [dIsGrammarRule_at h]
  cases v with
  | tup l =>
    obtain ⟨h1, h2⟩ := plV_tup hv
    match l, h1, h2 with
    | [], h1, h2 => simp [dIsGrammarRule, denF, runB, exs, ex, ev, evs, tyIs, tyOk_pl hv, blOf, isRule, biP, dctOf, seqOf, cmpP, dv, both, isD, eqv]
    | [a], h1, h2 => simp [dIsGrammarRule, denF, runB, exs, ex, ev, evs, tyIs, tyOk_pl hv, blOf, isRule, biP, dctOf, seqOf, cmpP, dv, both, isD, eqv]
    | [a, w], h1, h2 =>
      have ha := h2 a (by simp)
      have hw := h2 w (by simp)
      cases e : inI 0 a (i - 1) with
      | false => simp [dIsGrammarRule, denF, runB, exs, ex, ev, evs, tyIs, tyOk_pl hv, blOf, isRule, biP, dctOf, seqOf, cmpP, dv, both, isD, eqv, q3, tyOk_pl ha, idxP, ixOf, e]
      | true =>
        cases e2 : isW j w with
        | false => simp [dIsGrammarRule, denF, runB, exs, ex, ev, evs, tyIs, tyOk_pl hv, blOf, isRule, biP, dctOf, seqOf, cmpP, dv, both, isD, eqv, q3, q5, tyOk_pl ha, hw, idxP, ixOf, e, e2]
        | true =>
          cases w with
          | tup l => simp [dIsGrammarRule, denF, runB, exs, ex, ev, evs, tyIs, tyOk_pl hv, blOf, isRule, biP, dctOf, seqOf, cmpP, dv, both, isD, eqv, q3, q5, tyOk_pl ha, hw, idxP, ixOf, e, e2, shortP] <;> omega
          | _ => simp [isW] at e2
    | a :: b :: c :: r, h1, h2 =>
      have e : ¬ ((r.length : Int) + 1 + 1 + 1 = 2) := by omega
      simp [dIsGrammarRule, denF, runB, exs, ex, ev, evs, tyIs, tyOk_pl hv, blOf, isRule, biP, dctOf, seqOf, cmpP, dv, both, isD, eqv, e]
  | _ => simp [dIsGrammarRule, denF, runB, exs, ex, ev, evs, tyOk_pl hv, tyIs, blOf, isRule] <;> simp_all [plV]
/-! a grammar, typed -/
theorem isW_typed {n : Int} {v : PV} (h : isW n v = true) : ∃ w : List Int, v = wv w ∧ ∀ x ∈ w, 0 ≤ x ∧ x ≤ n - 1 := by
  cases v with
  | tup l =>
    unfold isW at h
    induction l with
    | nil => exact ⟨[], rfl, by simp⟩
    | cons a r ih =>
      simp only [List.all_cons, Bool.and_eq_true] at h
      obtain ⟨w, e, hw⟩ := ih h.2
      cases a with
      | int i =>
        refine ⟨i :: w, ?_, fun x hx => ?_⟩
        · unfold wv at e ⊢; simp only [PV.tup.injEq] at e; simp [e]
        · rcases List.mem_cons.mp hx with rfl | hx
          · simpa [inI] using h.1
          · exact hw x hx
      | _ => simp [inI] at h
  | _ => simp [isW] at h
theorem isRule_typed {n s : Int} {v : PV} (h : isRule n s v = true) : ∃ r : Ru, v = rv r ∧ 0 ≤ r.1 ∧ r.1 ≤ n - 1 ∧ (∀ x ∈ r.2, 0 ≤ x ∧ x ≤ s - 1) ∧ r.2.length ≤ 2 := by
  unfold isRule at h
  split at h
  · rename_i a w
    simp only [Bool.and_eq_true] at h
    obtain ⟨h1, h2, h3⟩ := h
    obtain ⟨w, rfl, hw⟩ := isW_typed h2
    cases a with
    | int i =>
      simp only [inI, decide_eq_true_eq] at h1
      exact ⟨(i, w), rfl, h1.1, h1.2, hw, by simpa [wv, shortP] using h3⟩
    | _ => simp [inI] at h1
  · cases h
theorem rules_typed {n s : Int} : ∀ {l : List PV}, l.all (isRule n s) = true → ∃ rs : List Ru, l = rs.map rv
  | [], _ => ⟨[], rfl⟩
  | a :: l, h => by
    simp only [List.all_cons, Bool.and_eq_true] at h
    obtain ⟨r, rfl, _⟩ := isRule_typed h.1
    obtain ⟨rs, rfl⟩ := rules_typed h.2
    exact ⟨r :: rs, rfl⟩
/-- neighbours rise -/
def ascP (l : List PV) : Bool := (l.zip l.tail).all fun p => ltP p.1 p.2
theorem ascP_rv (rs : List Ru) : ascP (rs.map rv) = ascR rs := by
  unfold ascP ascR
  rw [← List.map_tail, List.zip_map, List.all_map]
  congr 1
  funext p
  simp [lt_rv]
def asInt : PV → Int
  | .int i => i
  | _ => 0
def isRs (n s : Int) : PV → Bool
  | .tup rs => rs.all (isRule n s) && ascP rs
  | _ => false
def isG : PV → Bool
  | .tup [a, b, c] => fromI 1 a && (fromI 1 b && isRs (asInt a) (asInt a + asInt b) c)
  | _ => false
end K89
end

section
set_option Elab.async false
set_option linter.all false
set_option maxRecDepth 100000
set_option autoImplicit false
set_option maxHeartbeats 4000000
namespace K89
open PySem (Str)
open Pv

theorem c12 {l : List PV} {i j : Int} {st : Store} {t o : Option PV} (hv : plV (.tup l) = true) : ev (denT fnT 12) dIsGrammarForm_c1 [t, some (.int i), some (.int j), some (.tup l), o] st = some (.lst (l.map fun x => .bl (isRule i (i + j) x)), st) := by
  obtain ⟨h1, h2⟩ := plV_tup hv
  refine ev_lcm (xs := l) (s1 := st) (fun x => .bl (isRule i (i + j) x)) (by simp [evi]) (fun x hx => ⟨_, rfl, ?_⟩) (sz_1000 h1)
  simp [wipeF, q11, h2 x hx, binP, binI]
theorem q12 {n : Nat} (h : 12 < n) {v : PV} {st : Store} (hv : plV v = true) : denT fnT n 12 [v] st = some (.bl (isG v), st) := by
  rw [dIsGrammarForm_at h]
  cases v with
  | tup l =>
    obtain ⟨h1, h2⟩ := plV_tup hv
    match l, h1, h2, hv with
    | [], h1, h2, hv => simp [dIsGrammarForm, denF, tyIs, tyOk_pl hv, blOf, isG, biP, dctOf, seqOf, cmpP, dv, both, isD, eqv]
    | [a], h1, h2, hv => simp [dIsGrammarForm, denF, tyIs, tyOk_pl hv, blOf, isG, biP, dctOf, seqOf, cmpP, dv, both, isD, eqv]
    | [a, b], h1, h2, hv => simp [dIsGrammarForm, denF, tyIs, tyOk_pl hv, blOf, isG, biP, dctOf, seqOf, cmpP, dv, both, isD, eqv]
    | [a, b, c], h1, h2, hv =>
      have ha := h2 a (by simp)
      have hb := h2 b (by simp)
      have hc := h2 c (by simp)
      cases ea : fromI 1 a with
      | false => simp [dIsGrammarForm, denF, tyIs, tyOk_pl hv, blOf, isG, biP, dctOf, seqOf, cmpP, dv, both, isD, eqv, q1, tyOk_pl ha, tyOk_pl hb, idxP, ixOf, ea]
      | true =>
        cases eb : fromI 1 b with
        | false => simp [dIsGrammarForm, denF, tyIs, tyOk_pl hv, blOf, isG, biP, dctOf, seqOf, cmpP, dv, both, isD, eqv, q1, tyOk_pl ha, tyOk_pl hb, idxP, ixOf, ea, eb]
        | true =>
          obtain ⟨i, rfl, hi⟩ := fromI_int ea
          obtain ⟨j, rfl, hj⟩ := fromI_int eb
          cases c with
          | tup rs =>
            cases e : rs.all (isRule i (i + j)) with
            | false => simp [dIsGrammarForm, denF, tyIs, tyOk_pl hv, tyOk_pl hc, blOf, isG, isRs, asInt, biP, dctOf, seqOf, cmpP, dv, both, isD, eqv, q1, tyOk_pl ha, tyOk_pl hb, idxP, ixOf, ea, eb, c12 hc, lstOf, blsOf_map, all_map_id, e]
            | true =>
              obtain ⟨ts, rfl⟩ := rules_typed e
              have hz := (plV_tup hc).1
              rw [List.length_map] at hz
              simp [dIsGrammarForm, denF, tyIs, tyOk_pl hv, tyOk_pl hc, blOf, isG, isRs, asInt, biP, dctOf, seqOf, cmpP, dv, both, isD, eqv, q1, tyOk_pl ha, tyOk_pl hb, idxP, ixOf, ea, eb, c12 hc, lstOf, blsOf_map, all_map_id, e, q4, hz, ascP_rv, -List.map_map, -List.all_map]
          | _ => simp [dIsGrammarForm, denF, tyIs, tyOk_pl hv, tyOk_pl hc, blOf, isG, isRs, asInt, biP, dctOf, seqOf, cmpP, dv, both, isD, eqv, q1, tyOk_pl ha, tyOk_pl hb, idxP, ixOf, ea, eb] <;> simp_all [plV]
    | a :: b :: c :: d :: r, h1, h2, hv =>
      have e : ((r.length : Int) + 1 + 1 + 1 + 1 == 3) = false := beq_eq_false_iff_ne.mpr (by omega)
      simp [dIsGrammarForm, denF, tyIs, tyOk_pl hv, blOf, isG, biP, dctOf, seqOf, cmpP, dv, both, isD, eqv, e]
  | _ => simp [dIsGrammarForm, denF, tyOk_pl hv, tyIs, blOf, isG] <;> simp_all [plV]
end K89
end

section
set_option Elab.async false
set_option linter.all false
set_option maxRecDepth 100000
set_option autoImplicit false
set_option maxHeartbeats 4000000
namespace K89
open PySem (Str)
open Pv

theorem q34 {n : Nat} (h : 34 < n) {v : PV} {st : Store} (hv : plV v = true) : denT fnT n 34 [v] st = some (.bl (isI v), st) := by
  rw [dLawIsInt_at h]
  cases v <;> simp [dLawIsInt, denF, tyIs, isI, tyOk_pl hv] <;> simp_all [plV]
theorem isI_int {v : PV} (h : isI v = true) : ∃ i, v = .int i := by
  cases v with
  | int i => exact ⟨i, rfl⟩
  | _ => simp [isI] at h
theorem c35 {l : List PV} {i j : Int} {a : PV} {st : Store} {o : Option PV} (hv : plV (.tup l) = true) : ev (denT fnT 35) dLawIsRow_c1 [some (.int i), some (.int j), some (.tup [a, .tup l]), o] st = some (.lst (l.map fun x => .bl (inI 0 x (j - 1))), st) := by
  obtain ⟨h1, h2⟩ := plV_tup hv
  refine ev_lcm (xs := l) (s1 := st) (fun x => .bl (inI 0 x (j - 1))) (by simp [evi, idxP, dctOf, seqOf, ixOf]) (fun x hx => ⟨_, rfl, ?_⟩) (sz_1000 h1)
  have hx' := h2 x hx
  cases x with
  | int k =>
    by_cases hk : 0 ≤ k
    · have e : decide (k < j) = decide (k ≤ j - 1) := decide_eq_decide.mpr (by omega)
      simp [wipeF, q34, hx', isI, inI, cmpP, hk, e]
    · simp [wipeF, q34, hx', isI, inI, cmpP, hk]
  | _ => simp [wipeF, q34, hx', isI, inI]
theorem q35 {n : Nat} (h : 35 < n) {v : PV} {i j : Int} {st : Store} (hv : plV v = true) : denT fnT n 35 [.int i, .int j, v] st = some (.bl (isRule i j v), st) := by
  rw [dLawIsRow_at h]
  cases v with
  | tup l =>
    obtain ⟨h1, h2⟩ := plV_tup hv
    match l, h1, h2, hv with
    | [], h1, h2, hv => simp [dLawIsRow, denF, tyIs, tyOk_pl hv, isRule, biP, dctOf, seqOf, cmpP, dv, both, isD, eqv]
    | [a], h1, h2, hv => simp [dLawIsRow, denF, tyIs, tyOk_pl hv, isRule, biP, dctOf, seqOf, cmpP, dv, both, isD, eqv]
    | [a, w], h1, h2, hv =>
      have ha := h2 a (by simp)
      have hw := h2 w (by simp)
      cases ea : isI a with
      | false => 
        have e : inI 0 a (i - 1) = false := by cases a <;> simp_all [isI, inI]
        simp [dLawIsRow, denF, tyIs, tyOk_pl hv, isRule, biP, dctOf, seqOf, cmpP, dv, both, isD, eqv, q34, ha, idxP, ixOf, ea, e]
      | true =>
        obtain ⟨k, rfl⟩ := isI_int ea
        by_cases hk : 0 ≤ k
        · by_cases hk2 : k < i
          · have hk3 : k ≤ i - 1 := by omega
            cases w with
            | tup m =>
              by_cases hm : m.length ≤ 2
              · have hm' : ¬ (2 : Int) < m.length := by omega
                simp [dLawIsRow, denF, tyIs, tyOk_pl hv, tyOk_pl hw, isRule, biP, dctOf, seqOf, cmpP, dv, both, isD, eqv, q34, ha, idxP, ixOf, ea, hk, hk2, hk3, inI, isW, shortP, hm, hm', c35 hw, lstOf, blsOf_map, all_map_id]
              · have hm' : (2 : Int) < m.length := by omega
                simp [dLawIsRow, denF, tyIs, tyOk_pl hv, tyOk_pl hw, isRule, biP, dctOf, seqOf, cmpP, dv, both, isD, eqv, q34, ha, idxP, ixOf, ea, hk, hk2, hk3, inI, isW, shortP, hm, hm']
            | _ => simp [dLawIsRow, denF, tyIs, tyOk_pl hv, tyOk_pl hw, isRule, biP, dctOf, seqOf, cmpP, dv, both, isD, eqv, q34, ha, idxP, ixOf, ea, hk, hk2, hk3, inI, isW, shortP] <;> simp_all [plV]
          · have hk3 : ¬ k ≤ i - 1 := by omega
            simp [dLawIsRow, denF, tyIs, tyOk_pl hv, isRule, biP, dctOf, seqOf, cmpP, dv, both, isD, eqv, q34, ha, idxP, ixOf, ea, hk, hk2, hk3, inI]
        · simp [dLawIsRow, denF, tyIs, tyOk_pl hv, isRule, biP, dctOf, seqOf, cmpP, dv, both, isD, eqv, q34, ha, idxP, ixOf, ea, hk, inI]
    | a :: b :: c :: r, h1, h2, hv =>
      have e : ((r.length : Int) + 1 + 1 + 1 == 2) = false := beq_eq_false_iff_ne.mpr (by omega)
      simp [dLawIsRow, denF, tyIs, tyOk_pl hv, isRule, biP, dctOf, seqOf, cmpP, dv, both, isD, eqv, e]
  | _ => simp [dLawIsRow, denF, tyOk_pl hv, tyIs, isRule] <;> simp_all [plV]
end K89
end

section
set_option Elab.async false
set_option linter.all false
set_option maxRecDepth 100000
set_option autoImplicit false
set_option maxHeartbeats 4000000
namespace K89
open PySem (Str)
open Pv

theorem asc_range (d : Ru) : ∀ ts : List Ru, ((List.range (ts.length - 1)).all fun k => ltR (ts.getD k d) (ts.getD (k + 1) d)) = ascR ts
  | [] => rfl
  | [a] => rfl
  | a :: b :: r => by
    have ih := asc_range d (b :: r)
    have e : ascR (a :: b :: r) = (ltR a b && ascR (b :: r)) := by simp [ascR]
    rw [e, ← ih]
    simp only [List.length_cons, Nat.add_sub_cancel, List.range_succ_eq_map, List.all_cons, List.all_map]
    rfl
theorem c36a {l : List PV} {i j : Int} {st : Store} {o u : Option PV} (hv : plV (.tup l) = true) : ev (denT fnT 36) dLawJudged_c1 [some (.tup [.int i, .int j, .tup l]), o, u] st = some (.lst (l.map fun x => .bl (isRule i (i + j) x)), st) := by
  obtain ⟨h1, h2⟩ := plV_tup hv
  refine ev_lcm (xs := l) (s1 := st) (fun x => .bl (isRule i (i + j) x)) (by simp [evi, idxP, dctOf, seqOf, ixOf]) (fun x hx => ⟨_, rfl, ?_⟩) (sz_1000 h1)
  simp [wipeF, q35, h2 x hx, binP, binI, idxP, dctOf, seqOf, ixOf]
theorem lt_cmp {r s : Ru} {st : Store} : cmpP .lt (rv r) (rv s) st = some (ltR r s) := by
  have nn : ∀ r : Ru, rv r ≠ .non := fun r h => by simp [rv] at h
  have e : cmpP .lt (rv r) (rv s) st = if both (rv r) (rv s) && alk (rv r) (rv s) && !decide (rv r = .non) then some (ltP (rv r) (rv s)) else none := rfl
  rw [e]
  simp [both, isD_rv, alk_rv, nn, lt_rv]
theorem c36b {ts : List Ru} {i j : Int} {st : Store} {o u : Option PV} (hz : ts.length ≤ 1000) : ev (denT fnT 36) dLawJudged_c2 [some (.tup [.int i, .int j, .tup (ts.map rv)]), o, u] st = some (.lst ((List.range (ts.length - 1)).map fun k => .bl (ltR (ts.getD k (0, [])) (ts.getD (k + 1) (0, [])))), st) := by
  have hr : rngOk 0 ((ts.length : Int) - 1) = true := by
    unfold rngOk SZ
    apply decide_eq_true
    refine ⟨by decide, by decide, by omega, by omega, by omega⟩
  have hn : ((ts.length : Int) - 1 - 0).toNat = ts.length - 1 := by omega
  refine ev_lcmT (xs := List.range (ts.length - 1)) (s1 := st) (fun k => .int (0 + (k : Nat))) (fun k => .bl (ltR (ts.getD k (0, [])) (ts.getD (k + 1) (0, [])))) ?_ (fun k hk => ⟨_, rfl, ?_⟩) (sz_1000 (by rw [List.length_range]; omega))
  · simp [evi, idxP, dctOf, seqOf, ixOf, biP, binP, binI, hr, rngL, hn]
  · have hk := List.mem_range.mp hk
    have h1 : ixOf ts.length ((0 : Int) + (k : Nat)) = some k := by unfold ixOf; rw [if_pos (by omega), if_pos (by omega)]; congr 1; omega
    have h2 : ixOf ts.length ((0 : Int) + (k : Nat) + 1) = some (k + 1) := by unfold ixOf; rw [if_pos (by omega), if_pos (by omega)]; congr 1; omega
    have g1 : ts[k]? = some (ts.getD k (0, [])) := by rw [List.getD_eq_getElem?_getD, List.getElem?_eq_getElem (by omega)]; rfl
    have g2 : ts[k + 1]? = some (ts.getD (k + 1) (0, [])) := by rw [List.getD_eq_getElem?_getD, List.getElem?_eq_getElem (by omega)]; rfl
    have e0 : ixOf 3 2 = some 2 := rfl
    have i1 : ∀ (x : Int) (k : Nat) (r : Ru), ixOf ts.length x = some k → ts[k]? = some r → idxP (.tup (ts.map rv)) (.int x) st = some (rv r) := fun x k r a b => by simp [idxP, dctOf, seqOf, a, b]
    have i2 : idxP (.tup [.int i, .int j, .tup (ts.map rv)]) (.int 2) st = some (.tup (ts.map rv)) := by simp [idxP, dctOf, seqOf, e0]
    simp only [z_cmp, z_idx, z_var, z_con, z_bin, wipeF, List.set_cons_succ, List.set_cons_zero, List.getElem?_cons_zero, List.getElem?_cons_succ, gv_some, Option.bind_some, kPr_mk, i2, i1 _ _ _ h1 g1, binP, binI, Option.map_some, i1 _ _ _ h2 g2, lt_cmp]
theorem q36 {n : Nat} (h : 36 < n) {v : PV} {st : Store} (hv : plV v = true) : denT fnT n 36 [v] st = some (.bl (isG v), st) := by
  rw [dLawJudged_at h]
  have e03 : ∀ (a b c : PV) (i : Int) (k : Nat), ixOf 3 i = some k → idxP (.tup [a, b, c]) (.int i) st = [a, b, c][k]? := fun a b c i k h => by simp [idxP, dctOf, seqOf, h]
  have x0 : ixOf 3 0 = some 0 := rfl
  have x1 : ixOf 3 1 = some 1 := rfl
  have x2 : ixOf 3 2 = some 2 := rfl
  cases v with
  | tup l =>
    obtain ⟨h1, h2⟩ := plV_tup hv
    match l, h1, h2, hv with
    | [], h1, h2, hv => simp [dLawJudged, denF, tyIs, tyOk_pl hv, isG, biP, dctOf, seqOf, cmpP, dv, both, isD, eqv]
    | [a], h1, h2, hv => simp [dLawJudged, denF, tyIs, tyOk_pl hv, isG, biP, dctOf, seqOf, cmpP, dv, both, isD, eqv]
    | [a, b], h1, h2, hv => simp [dLawJudged, denF, tyIs, tyOk_pl hv, isG, biP, dctOf, seqOf, cmpP, dv, both, isD, eqv]
    | [a, b, c], h1, h2, hv =>
      have ha := h2 a (by simp)
      have hb := h2 b (by simp)
      have hc := h2 c (by simp)
      cases ea : isI a with
      | false =>
        have e : fromI 1 a = false := by cases a <;> simp_all [isI, fromI]
        simp [dLawJudged, denF, tyIs, tyOk_pl hv, isG, biP, dctOf, seqOf, cmpP, dv, both, isD, eqv, q34, ha, e03, x0, ea, e]
      | true =>
        obtain ⟨i, rfl⟩ := isI_int ea
        cases eb : isI b with
        | false =>
          have e : fromI 1 b = false := by cases b <;> simp_all [isI, fromI]
          simp [dLawJudged, denF, tyIs, tyOk_pl hv, isG, biP, dctOf, seqOf, cmpP, dv, both, isD, eqv, q34, ha, hb, e03, x0, x1, ea, eb, e]
        | true =>
          obtain ⟨j, rfl⟩ := isI_int eb
          by_cases hi : i < 1
          · have e : fromI 1 (.int i) = false := by simp [fromI]; omega
            simp [dLawJudged, denF, tyIs, tyOk_pl hv, isG, biP, dctOf, seqOf, cmpP, dv, both, isD, eqv, q34, ha, hb, e03, x0, x1, x2, ea, eb, e, hi]
          · have ei : fromI 1 (.int i) = true := by simp [fromI]; omega
            by_cases hj : j < 1
            · have e : fromI 1 (.int j) = false := by simp [fromI]; omega
              simp [dLawJudged, denF, tyIs, tyOk_pl hv, isG, biP, dctOf, seqOf, cmpP, dv, both, isD, eqv, q34, ha, hb, e03, x0, x1, x2, ea, eb, e, hi, hj]
            · have ej : fromI 1 (.int j) = true := by simp [fromI]; omega
              cases c with
              | tup rs =>
                cases e : rs.all (isRule i (i + j)) with
                | false => simp [dLawJudged, denF, tyIs, tyOk_pl hv, tyOk_pl hc, isG, isRs, asInt, biP, dctOf, seqOf, cmpP, dv, both, isD, eqv, q34, ha, hb, e03, x0, x1, x2, ea, eb, ei, ej, hi, hj, c36a hc, lstOf, blsOf_map, all_map_id, e]
                | true =>
                  obtain ⟨ts, rfl⟩ := rules_typed e
                  have hz := (plV_tup hc).1
                  rw [List.length_map] at hz
                  simp [dLawJudged, denF, tyIs, tyOk_pl hv, tyOk_pl hc, isG, isRs, asInt, biP, dctOf, seqOf, cmpP, dv, both, isD, eqv, q34, ha, hb, e03, x0, x1, x2, ea, eb, ei, ej, hi, hj, c36a hc, c36b hz, lstOf, blsOf_map, all_map_id, e, ascP_rv, -List.map_map, -List.all_map, -List.getD_eq_getElem?_getD, asc_range]
              | _ => simp [dLawJudged, denF, tyIs, tyOk_pl hv, tyOk_pl hc, isG, isRs, asInt, biP, dctOf, seqOf, cmpP, dv, both, isD, eqv, q34, ha, hb, e03, x0, x1, x2, ea, eb, ei, ej, hi, hj] <;> simp_all [plV]
    | a :: b :: c :: d :: r, h1, h2, hv =>
      have e : ((r.length : Int) + 1 + 1 + 1 + 1 == 3) = false := beq_eq_false_iff_ne.mpr (by omega)
      simp [dLawJudged, denF, tyIs, tyOk_pl hv, isG, biP, dctOf, seqOf, cmpP, dv, both, isD, eqv, e]
  | _ => simp [dLawJudged, denF, tyOk_pl hv, tyIs, isG] <;> simp_all [plV]
end K89
end

section
set_option Elab.async false
set_option linter.all false
set_option maxRecDepth 100000
set_option autoImplicit false
set_option maxHeartbeats 4000000
namespace K89
open PySem (Str)
open Pv

theorem q23 {n : Nat} (h : 23 < n) {v : PV} {st : Store} (hv : plV v = true) : denT fnT n 23 [v] st = some (.bl (isG v), st) := by
  rw [dIsGrammar_at h]
  simp [dIsGrammar, denF, q12, hv]
theorem q6 {n : Nat} (h : 6 < n) {i : Int} {st : Store} (hi : 0 ≤ i) : denT fnT n 6 [.int i] st = some (.non, st) := by
  rw [dCheckNumber_at h]
  simp [dCheckNumber, denF, q1, tyOk_pl (v := .int i) rfl, fromI, hi]
theorem q7 {n : Nat} (h : 7 < n) {i c : Int} {st : Store} (hi : 0 ≤ i) (hc : i < c) : denT fnT n 7 [.int c, .int i] st = some (.non, st) := by
  rw [dCheckIndex_at h]
  have : i ≤ c - 1 := by omega
  simp [dCheckIndex, denF, q3, tyOk_pl (v := .int i) rfl, inI, hi, this]
theorem q14 {n : Nat} (h : 14 < n) {v : PV} {st : Store} (hv : plV v = true) (hg : isG v = true) : denT fnT n 14 [v] st = some (.non, st) := by
  rw [dCheckGrammar_at h]
  simp [dCheckGrammar, denF, q12, hv, hg]
/-! a typed grammar -/
structure Gr where
  n : Int
  e : Int
  rs : List Ru
def grv (g : Gr) : PV := .tup [.int g.n, .int g.e, .tup (g.rs.map rv)]
structure Gr.Ok (g : Gr) : Prop where
  pl : plV (grv g) = true
  is : isG (grv g) = true
theorem g_at {g : Gr} {st : Store} : idxP (grv g) (.int 0) st = some (.int g.n) ∧ idxP (grv g) (.int 1) st = some (.int g.e) ∧ idxP (grv g) (.int 2) st = some (.tup (g.rs.map rv)) := by
  have x0 : ixOf 3 0 = some 0 := rfl
  have x1 : ixOf 3 1 = some 1 := rfl
  have x2 : ixOf 3 2 = some 2 := rfl
  refine ⟨?_, ?_, ?_⟩ <;> simp [grv, idxP, dctOf, seqOf, x0, x1, x2]
theorem q13 {n : Nat} (h : 13 < n) {g : Gr} {v : PV} {st : Store} (hv : plV v = true) : denT fnT n 13 [grv g, v] st = some (.bl (inI g.n v (g.n + g.e - 1)), st) := by
  rw [dIsEnd_at h]
  simp [dIsEnd, denF, g_at, q2, tyOk_pl hv, binP, binI]
theorem q15 {n : Nat} (h : 15 < n) {g : Gr} {i : Int} {st : Store} (hg : g.Ok) (h0 : 0 ≤ i) (h1 : i < g.n) : denT fnT n 15 [grv g, .int i] st = some (.non, st) := by
  rw [dCheckNamed_at h]
  simp [dCheckNamed, denF, q14, hg.pl, hg.is, g_at, q7, h0, h1]
theorem c16 {g : Gr} {w : List Int} {i : Int} {st : Store} {o : Option PV} (hz : w.length ≤ 1000) : ev (denT fnT 16) dCheckSpelled_c1 [some (grv g), some (.int i), some (wv w), o] st = some (.lst (w.map fun x => .bl (inI g.n (.int x) (g.n + g.e - 1))), st) := by
  refine ev_lcmT (xs := w) (s1 := st) (fun x => .int x) (fun x => .bl (inI g.n (.int x) (g.n + g.e - 1))) (by simp [evi, wv]) (fun x hx => ⟨_, rfl, ?_⟩) (sz_1000 hz)
  simp [wipeF, q13, show plV (.int x) = true from rfl]
theorem q16 {n : Nat} (h : 16 < n) {g : Gr} {i : Int} {w : List Int} {st : Store} (hg : g.Ok) (h0 : 0 ≤ i) (h1 : i < g.n) (hz : w.length ≤ 1000) (hw : ∀ x ∈ w, g.n ≤ x ∧ x ≤ g.n + g.e - 1) : denT fnT n 16 [grv g, .int i, wv w] st = some (.non, st) := by
  rw [dCheckSpelled_at h]
  have hall : (w.all fun x => inI g.n (.int x) (g.n + g.e - 1)) = true := List.all_eq_true.mpr fun x hx => by simpa [inI] using hw x hx
  have c := c16 (g := g) (w := w) (i := i) (st := st) (o := none) hz
  have t1 : tyOk st (wv w) = true := rfl
  have t2 : tyIs st (wv w) .tup = true := rfl
  simp [dCheckSpelled, denF, q15, hg, h0, h1, c, t1, t2, biP, lstOf, blsOf_map, all_map_id, hall]
end K89
end

section
set_option Elab.async false
set_option linter.all false
set_option maxRecDepth 100000
set_option autoImplicit false
/-! Words that come of signs: no program here. -/
namespace K89
open PySem (Str)
open Pv

/-- what a grammar's numbers are -/
structure Gr.Nice (g : Gr) : Prop where
  n1 : 1 ≤ g.n
  e1 : 1 ≤ g.e
  rng : ∀ r ∈ g.rs, 0 ≤ r.1 ∧ r.1 < g.n ∧ (∀ x ∈ r.2, 0 ≤ x ∧ x < g.n + g.e) ∧ r.2.length ≤ 2
  few : g.rs.length ≤ 1000
theorem isRule_rv {n s : Int} {r : Ru} (h : isRule n s (rv r) = true) : 0 ≤ r.1 ∧ r.1 < n ∧ (∀ x ∈ r.2, 0 ≤ x ∧ x < s) ∧ r.2.length ≤ 2 := by
  unfold rv wv at h
  simp only [isRule, isW, shortP, inI, Bool.and_eq_true, List.all_map, List.all_eq_true, decide_eq_true_eq, Function.comp_apply, List.length_map] at h
  obtain ⟨⟨h0, h1⟩, h2, h3⟩ := h
  exact ⟨h0, by omega, fun x hx => by have := h2 x hx; omega, h3⟩
theorem isRule_mk {n s : Int} {r : Ru} (h : 0 ≤ r.1 ∧ r.1 < n ∧ (∀ x ∈ r.2, 0 ≤ x ∧ x < s) ∧ r.2.length ≤ 2) : isRule n s (rv r) = true := by
  unfold rv wv
  simp only [isRule, isW, shortP, inI, Bool.and_eq_true, List.all_map, List.all_eq_true, decide_eq_true_eq, Function.comp_apply, List.length_map]
  obtain ⟨h0, h1, h2, h3⟩ := h
  exact ⟨⟨h0, by omega⟩, fun x hx => by have := h2 x hx; omega, h3⟩
theorem Gr.Ok.nice {g : Gr} (h : g.Ok) : g.Nice := by
  have h1 := h.is
  have h2 := h.pl
  simp only [grv, isG, fromI, isRs, asInt, Bool.and_eq_true, decide_eq_true_eq, List.all_map, List.all_eq_true, Function.comp_apply] at h1
  obtain ⟨a, b, c, d⟩ := h1
  have h3 := (plV_tup h2).2 (.tup (g.rs.map rv)) (by simp)
  have h4 := (plV_tup h3).1
  rw [List.length_map] at h4
  exact ⟨a, b, fun r hr => isRule_rv (c r hr), h4⟩
theorem Gr.Nice.ok {g : Gr} (h : g.Nice) (ha : ascR g.rs = true) : g.Ok := by
  have hp : ∀ r ∈ g.rs, plV (rv r) = true := fun r hr => by
    have := (h.rng r hr).2.2.2
    have e : plL (r.2.map .int) = true := plL_of fun x hx => by obtain ⟨y, _, rfl⟩ := List.mem_map.mp hx; rfl
    simp [rv, wv, plV, plL, e]
    omega
  constructor
  · have e : plL (g.rs.map rv) = true := plL_of fun x hx => by obtain ⟨y, hy, rfl⟩ := List.mem_map.mp hx; exact hp y hy
    simp [grv, plV, plL, e, h.few]
  · simp only [grv, isG, fromI, isRs, asInt, Bool.and_eq_true, decide_eq_true_eq, List.all_map, List.all_eq_true, Function.comp_apply]
    exact ⟨h.n1, h.e1, fun r hr => isRule_mk (h.rng r hr), by rw [ascP_rv]; exact ha⟩

inductive Der (g : Gr) : Int → List Int → Prop
  | en {s : Int} (h0 : g.n ≤ s) (h1 : s < g.n + g.e) : Der g s [s]
  | r0 {a : Int} (h : (a, ([] : List Int)) ∈ g.rs) : Der g a []
  | r1 {a s : Int} {w : List Int} (h : (a, [s]) ∈ g.rs) (d : Der g s w) : Der g a w
  | r2 {a s t : Int} {u v : List Int} (h : (a, [s, t]) ∈ g.rs) (d : Der g s u) (e : Der g t v) : Der g a (u ++ v)
/-- the same of a row of signs -/
def Ders (g : Gr) : List Int → List Int → Prop
  | [], w => w = []
  | s :: ss, w => ∃ u v, w = u ++ v ∧ Der g s u ∧ Ders g ss v
theorem Ders.rule {g : Gr} {a : Int} {ws w : List Int} (hn : g.Nice) (h : (a, ws) ∈ g.rs) (d : Ders g ws w) : Der g a w := by
  match ws, h, d with
  | [], h, d => cases d; exact .r0 h
  | [s], h, d =>
    obtain ⟨u, v, rfl, d1, d2⟩ := d
    cases d2
    rw [List.append_nil]
    exact .r1 h d1
  | [s, t], h, d =>
    obtain ⟨u, v, rfl, d1, u2, v2, rfl, d2, d3⟩ := d
    cases d3
    rw [List.append_nil]
    exact .r2 h d1 d2
  | a :: b :: c :: r, h, d =>
    have := (hn.rng _ h).2.2.2
    simp at this
theorem Ders.one {g : Gr} {s : Int} {w : List Int} : Ders g [s] w ↔ Der g s w := by
  constructor
  · rintro ⟨u, v, rfl, d, e⟩
    cases e
    rwa [List.append_nil]
  · exact fun d => ⟨w, [], by simp, d, rfl⟩
theorem Ders.append {g : Gr} : ∀ {a b u v : List Int}, Ders g a u → Ders g b v → Ders g (a ++ b) (u ++ v)
  | [], b, u, v, d, e => by cases d; exact e
  | s :: a, b, u, v, d, e => by
    obtain ⟨x, y, rfl, d1, d2⟩ := d
    exact ⟨x, y ++ v, by simp, d1, Ders.append d2 e⟩
theorem Ders.snoc {g : Gr} {a : List Int} {s : Int} {w : List Int} : Ders g (a ++ [s]) w ↔ ∃ u v, w = u ++ v ∧ Ders g a u ∧ Der g s v := by
  constructor
  · induction a generalizing w with
    | nil => exact fun d => ⟨[], w, rfl, rfl, Ders.one.mp d⟩
    | cons x a ih =>
      rintro ⟨u, v, rfl, d1, d2⟩
      obtain ⟨p, q, rfl, d3, d4⟩ := ih d2
      exact ⟨u ++ p, q, by simp, ⟨u, p, rfl, d1, d3⟩, d4⟩
  · rintro ⟨u, v, rfl, d, e⟩
    exact Ders.append d (Ders.one.mpr e)
theorem Der.ends {g : Gr} {s : Int} {w : List Int} (d : Der g s w) : ∀ x ∈ w, g.n ≤ x ∧ x < g.n + g.e := by
  induction d with
  | en h0 h1 => intro x hx; rw [List.mem_singleton] at hx; subst hx; exact ⟨h0, h1⟩
  | r0 => intro x hx; cases hx
  | r1 _ _ ih => exact ih
  | r2 _ _ _ i1 i2 => intro x hx; exact (List.mem_append.mp hx).elim (i1 x) (i2 x)
theorem Ders.ends {g : Gr} : ∀ {a w : List Int}, Ders g a w → ∀ x ∈ w, g.n ≤ x ∧ x < g.n + g.e
  | [], w, d => by cases d; intro x hx; cases hx
  | s :: a, w, d => by
    obtain ⟨u, v, rfl, d1, d2⟩ := d
    intro x hx
    exact (List.mem_append.mp hx).elim (d1.ends x) (Ders.ends d2 x)
/-- a name's rule -/
theorem Der.sign {g : Gr} (hn : g.Nice) {s : Int} {w : List Int} (d : Der g s w) : 0 ≤ s ∧ s < g.n + g.e := by
  have := hn.n1; have := hn.e1
  cases d with
  | en h0 h1 => omega
  | r0 h => have := hn.rng _ h; simp at this; omega
  | r1 h _ => have := hn.rng _ h; simp at this; omega
  | r2 h _ _ => have := hn.rng _ h; simp at this; omega
/-- what a derivation's end is -/
theorem Der.cases_rule {g : Gr} {s : Int} {w : List Int} (d : Der g s w) : (w = [s] ∧ g.n ≤ s ∧ s < g.n + g.e) ∨ ∃ ws, (s, ws) ∈ g.rs ∧ Ders g ws w := by
  cases d with
  | en h0 h1 => exact .inl ⟨rfl, h0, h1⟩
  | r0 h => exact .inr ⟨[], h, rfl⟩
  | r1 h d => exact .inr ⟨_, h, Ders.one.mpr d⟩
  | r2 h d e => exact .inr ⟨_, h, _, _, rfl, d, Ders.one.mpr e⟩

/-! the rank of a word among words of ends -/
def dig (g : Gr) (x : Int) : Nat := (x - g.n).toNat + 1
def bse (g : Gr) : Nat := g.e.toNat + 1
def val (g : Gr) : List Int → Nat
  | [] => 0
  | x :: w => dig g x * bse g ^ w.length + val g w
def InE (g : Gr) (w : List Int) : Prop := ∀ x ∈ w, g.n ≤ x ∧ x < g.n + g.e
theorem bse_pos (g : Gr) : 0 < bse g := Nat.succ_pos _
theorem dig_lt {g : Gr} {x : Int} (h : g.n ≤ x ∧ x < g.n + g.e) : dig g x + 1 ≤ bse g := by unfold dig bse; omega
theorem val_lt {g : Gr} : ∀ {w : List Int}, InE g w → val g w < bse g ^ w.length
  | [], _ => by simp [val]
  | x :: w, h => by
    have h1 := val_lt (w := w) fun y hy => h y (List.mem_cons_of_mem _ hy)
    have h2 := dig_lt (h x (List.mem_cons_self ..))
    have h3 : (dig g x + 1) * bse g ^ w.length ≤ bse g * bse g ^ w.length := Nat.mul_le_mul_right _ h2
    rw [Nat.add_mul, Nat.one_mul] at h3
    rw [val, List.length_cons, Nat.pow_succ, Nat.mul_comm (bse g ^ w.length)]
    omega
theorem val_ge {g : Gr} {x : Int} {w : List Int} : bse g ^ w.length ≤ val g (x :: w) := by
  rw [val]
  have : 1 * bse g ^ w.length ≤ dig g x * bse g ^ w.length := Nat.mul_le_mul_right _ (by unfold dig; omega)
  omega
theorem val_len {g : Gr} {u v : List Int} (hu : InE g u) (hl : u.length < v.length) : val g u < val g v := by
  cases v with
  | nil => simp at hl
  | cons x v =>
    have h1 := val_lt hu
    have h2 := val_ge (g := g) (x := x) (w := v)
    have h3 : bse g ^ u.length ≤ bse g ^ v.length := Nat.pow_le_pow_right (bse_pos g) (by simp at hl; omega)
    omega
theorem len_of_val {g : Gr} {u v : List Int} (hv : InE g v) (h : val g u ≤ val g v) : u.length ≤ v.length := by
  apply Nat.le_of_not_lt
  intro hl
  have := val_len hv hl
  omega
theorem val_append {g : Gr} : ∀ (u v : List Int), val g (u ++ v) = val g u * bse g ^ v.length + val g v
  | [], v => by simp [val]
  | x :: u, v => by
    rw [List.cons_append, val, val_append u v, val, List.length_append, Nat.pow_add, Nat.add_mul, Nat.mul_assoc]
    omega
/-- words put together keep the order -/
theorem val_mono {g : Gr} {u v u' v' : List Int} (hu : InE g u') (hv : InE g v') (h1 : val g u ≤ val g u') (h2 : val g v ≤ val g v') : val g (u ++ v) ≤ val g (u' ++ v') := by
  rw [val_append, val_append]
  have h3 := len_of_val hv h2
  have h4 : bse g ^ v.length ≤ bse g ^ v'.length := Nat.pow_le_pow_right (bse_pos g) h3
  have := Nat.mul_le_mul h1 h4
  omega
def ltS (a b : List Int) : Bool := if a.length = b.length then ltW a b else decide (a.length < b.length)
theorem ltW_val {g : Gr} : ∀ {a b : List Int}, InE g a → InE g b → a.length = b.length → (ltW a b = true ↔ val g a < val g b)
  | [], [], _, _, _ => by simp [ltW]
  | x :: a, y :: b, ha, hb, hl => by
    have ha' : InE g a := fun z hz => ha z (List.mem_cons_of_mem _ hz)
    have hb' : InE g b := fun z hz => hb z (List.mem_cons_of_mem _ hz)
    have hl' : a.length = b.length := by simpa using hl
    have hx := ha x (List.mem_cons_self ..)
    have hy := hb y (List.mem_cons_self ..)
    have ih := ltW_val ha' hb' hl'
    have va := val_lt ha'
    have vb := val_lt hb'
    rw [ltW, val, val, hl']
    rw [hl'] at va
    by_cases h : x = y
    · subst h; simp only [if_true]; rw [ih]; omega
    · rw [if_neg h, decide_eq_true_eq]
      by_cases h2 : x < y
      · have h3 : dig g x + 1 ≤ dig g y := by unfold dig; omega
        have h4 := Nat.mul_le_mul_right (bse g ^ b.length) h3
        rw [Nat.add_mul, Nat.one_mul] at h4
        constructor
        · intro _; omega
        · intro _; exact h2
      · have h3 : dig g y + 1 ≤ dig g x := by unfold dig; omega
        have h4 := Nat.mul_le_mul_right (bse g ^ b.length) h3
        rw [Nat.add_mul, Nat.one_mul] at h4
        constructor
        · intro h; exact absurd h h2
        · intro _; omega
theorem ltS_val {g : Gr} {a b : List Int} (ha : InE g a) (hb : InE g b) : ltS a b = true ↔ val g a < val g b := by
  unfold ltS
  by_cases h : a.length = b.length
  · rw [if_pos h]; exact ltW_val ha hb h
  · rw [if_neg h, decide_eq_true_eq]
    by_cases h2 : a.length < b.length
    · exact ⟨fun _ => val_len ha h2, fun _ => h2⟩
    · have := val_len (g := g) hb (v := a) (by omega)
      exact ⟨fun h => absurd h h2, fun _ => by omega⟩
theorem ltS_iff {g : Gr} {a b : List Int} (ha : InE g a) (hb : InE g b) : ltS a b = decide (val g a < val g b) := by
  rw [Bool.eq_iff_iff, decide_eq_true_eq]; exact ltS_val ha hb
theorem ltW_tri : ∀ {a b : List Int}, a.length = b.length → ltW a b = false → ltW b a = false → a = b
  | [], [], _, _, _ => rfl
  | x :: a, y :: b, hl, h1, h2 => by
    rw [ltW] at h1 h2
    by_cases h : x = y
    · subst h
      simp only [if_true] at h1 h2
      rw [ltW_tri (by simpa using hl) h1 h2]
    · rw [if_neg h] at h1
      rw [if_neg (Ne.symm h)] at h2
      simp at h1 h2
      omega
theorem val_inj {g : Gr} {a b : List Int} (ha : InE g a) (hb : InE g b) (h : val g a = val g b) : a = b := by
  have l1 := len_of_val hb (Nat.le_of_eq h)
  have l2 := len_of_val ha (Nat.le_of_eq h.symm)
  have l : a.length = b.length := by omega
  refine ltW_tri l ?_ ?_
  · rw [Bool.eq_false_iff]; intro h2; have := (ltW_val ha hb l).mp h2; omega
  · rw [Bool.eq_false_iff]; intro h2; have := (ltW_val hb ha l.symm).mp h2; omega

/-! counting -/
theorem nodup_len {α : Type} [DecidableEq α] : ∀ (l u : List α), l.Nodup → (∀ x ∈ l, x ∈ u) → l.length ≤ u.length
  | [], _, _, _ => Nat.zero_le _
  | a :: l, u, hd, hs => by
    have ha := hs a (List.mem_cons_self ..)
    rw [List.nodup_cons] at hd
    have := nodup_len l (u.erase a) hd.2 fun x hx => by
      have hne : x ≠ a := fun e => hd.1 (by rw [← e]; exact hx)
      rw [List.mem_erase_of_ne hne]
      exact hs x (List.mem_cons_of_mem _ hx)
    rw [List.length_erase_of_mem ha] at this
    have h0 := List.length_pos_of_mem ha
    rw [List.length_cons]
    omega
theorem nodup_len_eq {α : Type} [DecidableEq α] {l u : List α} (h1 : l.Nodup) (h2 : u.Nodup) (h : ∀ x, x ∈ l ↔ x ∈ u) : l.length = u.length :=
  Nat.le_antisymm (nodup_len _ _ h1 fun x => (h x).mp) (nodup_len _ _ h2 fun x => (h x).mpr)
theorem countP_lt {α : Type} {p q : α → Bool} {l : List α} (h : ∀ x ∈ l, q x = true → p x = true) {a : α} (ha : a ∈ l) (hp : p a = true) (hq : q a = false) : l.countP q < l.countP p := by
  induction l with
  | nil => cases ha
  | cons b l ih =>
    rw [List.countP_cons, List.countP_cons]
    have hle : l.countP q ≤ l.countP p := List.countP_mono_left fun x hx => h x (List.mem_cons_of_mem _ hx)
    rcases List.mem_cons.mp ha with rfl | ha
    · simp [hp, hq]; omega
    · have := ih (fun x hx => h x (List.mem_cons_of_mem _ hx)) ha
      have hb := h b (List.mem_cons_self ..)
      cases hqb : q b <;> cases hpb : p b <;> simp_all <;> omega
end K89
end

section
set_option Elab.async false
set_option linter.all false
set_option maxRecDepth 100000
set_option autoImplicit false
set_option maxHeartbeats 4000000
/-! first_words -/
namespace K89
open PySem (Str)
open Pv

/-- the words of signs put together -/
def catW (F : List (Int × List Int)) (ws : List Int) : List Int := ws.flatMap fun s => (lookT F s).getD []
theorem c18 {ws : List Int} {k : Nat} {F : List (Int × List Int)} {st : Store} {o1 o2 : Option PV} (hs : st[k]? = some (.dct false (encD .int wv F))) (hw : ∀ s ∈ ws, (lookT F s).isSome = true) (hz : (catW F ws).length ≤ SZ) :
    ev (denT fnT 18) dPutInPlace_c1 [some (wv ws), some (.loc k), o1, o2] st = some (.lst ((catW F ws).map .int), st) := by
  have e : (catW F ws).map PV.int = ws.flatMap fun s => ((lookT F s).getD []).map .int := by
    unfold catW
    rw [List.map_flatMap]
  rw [e]
  refine ev_lc2T (s1 := st) (xs := ws) .int .int (fun s => (lookT F s).getD []) (fun _ y => .int y) (by simp [wv]) (fun x hx => ⟨_, rfl, ?_, fun y hy => ⟨_, rfl, ?_⟩⟩) (by rw [← e, List.length_map]; exact hz)
  · obtain ⟨w, h⟩ := Option.isSome_iff_exists.mp (hw x hx)
    have := idx_enc (ke := .int) (ve := wv) int_inj (dctOf_loc hs) (a := x) rfl h
    simp [wipeF, this, h, wv]
  · simp [wipeF]
theorem q18 {n : Nat} (h : 18 < n) {ws : List Int} {k : Nat} {F : List (Int × List Int)} {st : Store} (hs : st[k]? = some (.dct false (encD .int wv F))) (hw : ∀ s ∈ ws, (lookT F s).isSome = true) (hz : (catW F ws).length ≤ SZ) :
    denT fnT n 18 [wv ws, .loc k] st = some (wv (catW F ws), st) := by
  rw [dPutInPlace_at h]
  have c := c18 (o1 := none) (o2 := none) hs hw hz
  simp [dPutInPlace, denF, c, biP, lstOf]
  rfl

structure FI (g : Gr) (F : List (Int × List Int)) : Prop where
  nd : (F.map (·.1)).Nodup
  snd : ∀ s w, lookT F s = some w → Der g s w
  en : ∀ s, g.n ≤ s → s < g.n + g.e → lookT F s = some [s]
  len : ∀ s w, lookT F s = some w → w.length ≤ 2 ^ F.length
theorem FI.few {g : Gr} (hg : g.Nice) {F : List (Int × List Int)} (h : FI g F) : F.length ≤ (g.n + g.e).toNat := by
  have := nodup_len (F.map (·.1)) (rngI 0 (g.n + g.e)) h.nd fun x hx => by
    rw [List.mem_map] at hx
    obtain ⟨p, hp, rfl⟩ := hx
    have := (h.snd p.1 p.2 (lookT_of_mem h.nd hp)).sign hg
    exact mem_rngI.mpr this
  rw [List.length_map, rngI_len] at this
  simpa using this
def FE (g : Gr) (F : List (Int × List Int)) (k : Bool) (fr : Fr) (st : Store) : Prop :=
  st = [.dct false (encD .int wv F)] ∧ ∃ a b c, fr = [some (grv g), some (.int g.n), some (.int g.e), some (.tup (g.rs.map rv)), some (.loc 0), some (.bl k), a, b, c, none, none]
def Fm1 (g : Gr) (F : List (Int × List Int)) : Nat := (rngI 0 g.n).countP fun a => (lookT F a).isNone
def Fm2 (g : Gr) (F : List (Int × List Int)) : Nat := ((rngI 0 g.n).map fun a => val g ((lookT F a).getD [])).sum
def FC (g : Gr) (r : Ru) (F : List (Int × List Int)) : Prop := (∀ s ∈ r.2, (lookT F s).isSome = true) → ∃ w, lookT F r.1 = some w ∧ val g w ≤ val g (catW F r.2)
theorem catW_ders {g : Gr} {F : List (Int × List Int)} (h : ∀ s w, lookT F s = some w → Der g s w) : ∀ {ws : List Int}, (∀ s ∈ ws, (lookT F s).isSome = true) → Ders g ws (catW F ws)
  | [], _ => rfl
  | s :: ws, hw => by
    obtain ⟨w, e⟩ := Option.isSome_iff_exists.mp (hw s (List.mem_cons_self ..))
    refine ⟨w, catW F ws, ?_, h s w e, catW_ders h fun x hx => hw x (List.mem_cons_of_mem _ hx)⟩
    simp [catW, e]
theorem sum_lt {α : Type} [DecidableEq α] {f f' : α → Nat} : ∀ {l : List α} {a : α}, a ∈ l → (∀ x ∈ l, f' x ≤ f x) → f' a < f a → (l.map f').sum < (l.map f).sum
  | [], _, ha, _, _ => by cases ha
  | b :: l, a, ha, hle, hlt => by
    rw [List.map_cons, List.map_cons, List.sum_cons, List.sum_cons]
    have hb := hle b (List.mem_cons_self ..)
    have hl : (l.map f').sum ≤ (l.map f).sum := by
      have : ∀ m : List α, (∀ x ∈ m, f' x ≤ f x) → (m.map f').sum ≤ (m.map f).sum := by
        intro m
        induction m with
        | nil => intro _; exact Nat.le_refl _
        | cons c m ih =>
          intro h
          rw [List.map_cons, List.map_cons, List.sum_cons, List.sum_cons]
          exact Nat.add_le_add (h c (List.mem_cons_self ..)) (ih fun x hx => h x (List.mem_cons_of_mem _ hx))
      exact this l fun x hx => hle x (List.mem_cons_of_mem _ hx)
    rcases List.mem_cons.mp ha with rfl | ha
    · omega
    · have := sum_lt ha (fun x hx => hle x (List.mem_cons_of_mem _ hx)) hlt
      omega
theorem catW_len {F : List (Int × List Int)} {b : Nat} (h : ∀ s w, lookT F s = some w → w.length ≤ b) : ∀ {ws : List Int}, (catW F ws).length ≤ ws.length * b
  | [] => by simp [catW]
  | s :: ws => by
    have ih := catW_len h (ws := ws)
    have e : (catW F (s :: ws)).length = ((lookT F s).getD []).length + (catW F ws).length := by simp [catW]
    have : ((lookT F s).getD []).length ≤ b := by
      cases e : lookT F s with
      | none => simp
      | some w => exact h s w e
    rw [e, List.length_cons, Nat.add_mul]
    omega
theorem len_lt_cmp {a b : List Int} {st : Store} : cmpP .lt (.tup [.int a.length, wv a]) (.tup [.int b.length, wv b]) st = some (ltS a b) := by
  have h : cmpP .lt (.tup [.int a.length, wv a]) (.tup [.int b.length, wv b]) st = if both (.tup [.int a.length, wv a]) (.tup [.int b.length, wv b]) && alk (.tup [.int a.length, wv a]) (.tup [.int b.length, wv b]) && !decide ((.tup [.int a.length, wv a] : PV) = .non) then some (ltP (.tup [.int a.length, wv a]) (.tup [.int b.length, wv b])) else none := rfl
  have d : ∀ a : List Int, isD 30 (.tup [.int a.length, wv a]) = true := fun a => by simp [isD, isDL, isD_wv]
  have k : alk (.tup [.int a.length, wv a]) (.tup [.int b.length, wv b]) = true := by simp [alk, alkL, wv, alkL_int]
  rw [h]
  simp only [both, d, k, reduceCtorEq, decide_false, Bool.not_false, Bool.and_self, if_true]
  congr 1
  unfold ltS
  simp only [ltP, ltL, eqv, wv, ltL_int, eqvL_int]
  by_cases e : a.length = b.length
  · by_cases e2 : a = b
    · have hf : ltW b b = false := by
        clear h d k e e2
        induction b with
        | nil => rfl
        | cons x r ih => simp [ltW, ih]
      subst e2
      simp [hf]
    · simp [e, e2]
  · have : ¬ (a.length : Int) = (b.length : Int) := by omega
    simp [e, this]
theorem f_turn {g : Gr} (hg : g.Nice) (hs : g.n + g.e ≤ 20) (r : Ru) (hr : r ∈ g.rs) (F : List (Int × List Int)) (k : Bool) (fr : Fr) (st : Store) (hi : FI g F) (he : FE g F k fr st) :
    ∃ fr1 F' k' fr2 s2, asgT (.tp [.nm 6, .nm 7]) (rv r) fr = some fr1 ∧ exs (denT fnT 19) dFirstWords_l2b fr1 st = some (.nx, fr2, s2) ∧ FI g F' ∧ FE g F' k' fr2 s2 ∧ ((F' = F ∧ k' = k ∧ FC g r F) ∨ (k' = true ∧ (Fm1 g F' < Fm1 g F ∨ (Fm1 g F' = Fm1 g F ∧ Fm2 g F' < Fm2 g F)))) := by
  obtain ⟨rfl, a, b, c, rfl⟩ := he
  obtain ⟨nm, ws⟩ := r
  have hrng := hg.rng _ hr
  simp only at hrng
  have hfew := hi.few hg
  have hlen := hi.len
  have hcat : (catW F ws).length ≤ 2 * 2 ^ F.length := Nat.le_trans (catW_len hlen) (Nat.mul_le_mul_right _ hrng.2.2.2)
  have hpow : 2 ^ F.length ≤ 2 ^ 20 := Nat.pow_le_pow_right (by decide) (by omega)
  have hz : (catW F ws).length ≤ SZ := by unfold SZ; omega
  refine ⟨[some (grv g), some (.int g.n), some (.int g.e), some (.tup (g.rs.map rv)), some (.loc 0), some (.bl k), some (.int nm), some (wv ws), c, none, none], ?_⟩
  have hd : dctOf [Cell.dct false (encD PV.int wv F)] (.loc 0) = some (false, encD PV.int wv F) := rfl
  have hc2 : ev (denT fnT 19) dFirstWords_c2 [some (grv g), some (.int g.n), some (.int g.e), some (.tup (g.rs.map rv)), some (.loc 0), some (.bl k), some (.int nm), some (wv ws), c, none, none] [Cell.dct false (encD PV.int wv F)] = some (.lst (ws.map fun s => .bl (lookT F s).isSome), [Cell.dct false (encD PV.int wv F)]) := by
    refine ev_lcmT (xs := ws) .int (fun s => .bl (lookT F s).isSome) (by simp [wv]) (fun x hx => ⟨_, rfl, ?_⟩) (by unfold SZ; omega)
    simp [wipeF, in_enc (ke := .int) (ve := wv) int_inj hd (a := x) rfl]
  have hnin : cmpP .nin (.int nm) (.loc 0) [Cell.dct false (encD PV.int wv F)] = some (lookT F nm).isNone := nin_enc (ke := .int) (ve := wv) int_inj hd rfl
  have hst : ∀ v fr, stI (.loc 0) (.int nm) (wv v) fr [Cell.dct false (encD PV.int wv F)] = some (.nx, fr, [Cell.dct false (encD PV.int wv (putT F nm v))]) := fun v fr => by
    rw [stI_dct (t := false) (kvs := encD PV.int wv F) rfl rfl (by rw [encD_len]; unfold SZ; omega), put_enc int_inj _ hi.nd]
    rfl
  cases hall : ws.all fun s => (lookT F s).isSome with
  | false =>
    refine ⟨F, k, [some (grv g), some (.int g.n), some (.int g.e), some (.tup (g.rs.map rv)), some (.loc 0), some (.bl k), some (.int nm), some (wv ws), c, none, none], [Cell.dct false (encD PV.int wv F)], rfl, ?_, hi, ⟨rfl, _, _, _, rfl⟩, .inl ⟨rfl, rfl, fun h => ?_⟩⟩
    · simp [dFirstWords_l2b, hc2, b_all, hall]
    · have := List.all_eq_true.mpr h
      rw [hall] at this
      cases this
  | true =>
    have hsome := List.all_eq_true.mp hall
    have hq := q18 (n := 19) (by decide) (ws := ws) (k := 0) (F := F) (st := [Cell.dct false (encD PV.int wv F)]) rfl hsome hz
    have hders := catW_ders hi.snd hsome
    have hder : Der g nm (catW F ws) := hders.rule hg hr
    cases hl : lookT F nm with
    | none =>
      rw [hl] at hnin
      refine ⟨putT F nm (catW F ws), true, [some (grv g), some (.int g.n), some (.int g.e), some (.tup (g.rs.map rv)), some (.loc 0), some (.bl true), some (.int nm), some (wv ws), some (wv (catW F ws)), none, none], [Cell.dct false (encD PV.int wv (putT F nm (catW F ws)))], rfl, ?_, ?_, ⟨rfl, _, _, _, rfl⟩, .inr ⟨rfl, .inl ?_⟩⟩
      · simp [dFirstWords_l2b, hc2, b_all, hall, hq, hnin, hst]
      · have el : (putT F nm (catW F ws)).length = F.length + 1 := by rw [putT_new hl]; simp
        refine ⟨putT_nodup hi.nd, fun s w h => ?_, fun s h0 h1 => ?_, fun s w h => ?_⟩
        · rw [lookT_put] at h
          split at h
          · rename_i e; cases h; subst e; exact hder
          · exact hi.snd s w h
        · rw [lookT_put, if_neg (by omega)]; exact hi.en s h0 h1
        · rw [el, Nat.pow_succ]
          rw [lookT_put] at h
          split at h
          · cases h; omega
          · have := hlen s w h; omega
      · refine countP_lt (fun x _ hx => ?_) (mem_rngI.mpr ⟨hrng.1, hrng.2.1⟩) (by simp [hl]) (by rw [lookT_put]; simp)
        rw [lookT_put] at hx
        split at hx
        · cases hx
        · exact hx
    | some w0 =>
      rw [hl] at hnin
      have hidx : idxP (.loc 0) (.int nm) [Cell.dct false (encD PV.int wv F)] = some (wv w0) := idx_enc (ke := .int) (ve := wv) int_inj hd rfl hl
      have hd0 := hi.snd nm w0 hl
      cases hlt : ltS (catW F ws) w0 with
      | false =>
        refine ⟨F, k, [some (grv g), some (.int g.n), some (.int g.e), some (.tup (g.rs.map rv)), some (.loc 0), some (.bl k), some (.int nm), some (wv ws), some (wv (catW F ws)), none, none], [Cell.dct false (encD PV.int wv F)], rfl, ?_, hi, ⟨rfl, _, _, _, rfl⟩, .inl ⟨rfl, rfl, fun h => ⟨w0, hl, ?_⟩⟩⟩
        · simp [dFirstWords_l2b, hc2, b_all, hall, hq, hnin, hidx, len_lt_cmp, hlt]
        · have := ltS_val (g := g) hder.ends hd0.ends
          rw [hlt] at this
          have : ¬ val g (catW F ws) < val g w0 := fun h => by have := this.mpr h; cases this
          show val g w0 ≤ val g (catW F ws)
          omega
      | true =>
        have hv := (ltS_val (g := g) hder.ends hd0.ends).mp hlt
        refine ⟨putT F nm (catW F ws), true, [some (grv g), some (.int g.n), some (.int g.e), some (.tup (g.rs.map rv)), some (.loc 0), some (.bl true), some (.int nm), some (wv ws), some (wv (catW F ws)), none, none], [Cell.dct false (encD PV.int wv (putT F nm (catW F ws)))], rfl, ?_, ?_, ⟨rfl, _, _, _, rfl⟩, .inr ⟨rfl, .inr ⟨?_, ?_⟩⟩⟩
        · simp [dFirstWords_l2b, hc2, b_all, hall, hq, hnin, hidx, len_lt_cmp, hlt, hst]
        · have el : (putT F nm (catW F ws)).length = F.length := by
            have := congrArg List.length (putT_keys_old (b := catW F ws) hl)
            simpa using this
          refine ⟨putT_nodup hi.nd, fun s w h => ?_, fun s h0 h1 => ?_, fun s w h => ?_⟩
          · rw [lookT_put] at h
            split at h
            · rename_i e; cases h; subst e; exact hder
            · exact hi.snd s w h
          · rw [lookT_put, if_neg (by omega)]; exact hi.en s h0 h1
          · rw [el]
            rw [lookT_put] at h
            split at h
            · cases h
              have h1 := len_of_val hd0.ends (Nat.le_of_lt hv)
              have h2 := hlen nm w0 hl
              omega
            · exact hlen s w h
        · unfold Fm1
          apply List.countP_congr
          intro x hx
          rw [lookT_put]
          split
          · rename_i e; subst e; simp [hl]
          · rfl
        · refine sum_lt (mem_rngI.mpr ⟨hrng.1, hrng.2.1⟩) (fun x _ => ?_) ?_
          · rw [lookT_put]
            split
            · rename_i e; subst e; simp [hl]; omega
            · exact Nat.le_refl _
          · rw [lookT_put]; simp [hl, hv]
structure FW (g : Gr) (F : List (Int × List Int)) : Prop extends FI g F where
  low : ∀ s w, Der g s w → ∃ m, lookT F s = some m ∧ val g m ≤ val g w
theorem FI.closed {g : Gr} {F : List (Int × List Int)} (hi : FI g F) (hc : ∀ r ∈ g.rs, FC g r F) : FW g F := by
  refine ⟨hi, fun s w d => ?_⟩
  induction d with
  | en h0 h1 => exact ⟨_, hi.en _ h0 h1, Nat.le_refl _⟩
  | r0 h =>
    obtain ⟨w, e, hv⟩ := hc _ h fun s hs => by cases hs
    exact ⟨w, e, hv⟩
  | r1 h d ih =>
    obtain ⟨m, e, hm⟩ := ih
    obtain ⟨w, e2, hv⟩ := hc _ h fun s hs => by rw [List.mem_singleton] at hs; subst hs; rw [e]; rfl
    refine ⟨w, e2, ?_⟩
    simp only [catW, List.flatMap_cons, List.flatMap_nil, e, Option.getD_some, List.append_nil] at hv
    omega
  | r2 h d d' i1 i2 =>
    obtain ⟨m1, e1, h1⟩ := i1
    obtain ⟨m2, e2, h2⟩ := i2
    obtain ⟨w, e3, hv⟩ := hc _ h fun s hs => by
      rcases List.mem_cons.mp hs with rfl | hs
      · rw [e1]; rfl
      · rw [List.mem_singleton] at hs; subst hs; rw [e2]; rfl
    refine ⟨w, e3, ?_⟩
    simp only [catW, List.flatMap_cons, List.flatMap_nil, e1, e2, Option.getD_some, List.append_nil] at hv
    exact Nat.le_trans hv (val_mono d.ends d'.ends h1 h2)
theorem f_while {g : Gr} (hg : g.Nice) (hs : g.n + g.e ≤ 20) (F : List (Int × List Int)) (fr : Fr) (st : Store) (hi : FI g F) (he : FE g F true fr st) :
    ∃ F' fr2 s2, ex (denT fnT 19) dFirstWords_l1 fr st = some (.nx, fr2, s2) ∧ FI g F' ∧ FE g F' false fr2 s2 ∧ ∀ r ∈ g.rs, FC g r F' := by
  unfold dFirstWords_l1
  rw [z_whl]
  refine wh_fix (FE g) (FI g) (fun F => ∀ r ∈ g.rs, FC g r F) (Fm1 g) (Fm2 g) (fun F k fr st he => ?_) (fun F fr st hi he => ?_) F fr st hi he
  · obtain ⟨rfl, a, b, c, rfl⟩ := he
    exact whc_var rfl
  · obtain ⟨rfl, a, b, c, rfl⟩ := he
    obtain ⟨F', k, fr2, s2, e1, e2, e3, e4, e5⟩ := fr_fix (F := rv) (asg := asgT (.tp [.nm 6, .nm 7])) (b := fun fr st => exs (denT fnT 19) dFirstWords_l2b fr st) (FE g) (FI g) (FC g) (Fm1 g) (Fm2 g) g.rs
      (fun r hr F k fr st hi he => f_turn hg hs r hr F k fr st hi he) F [some (grv g), some (.int g.n), some (.int g.e), some (.tup (g.rs.map rv)), some (.loc 0), some (.bl false), a, b, c, none, none] [.dct false (encD .int wv F)] hi ⟨rfl, _, _, _, rfl⟩
    refine ⟨F', k, fr2, s2, ?_, e2, e3, fun e => ?_, e5⟩
    · simp [dFirstWords_l1b, dFirstWords_l2, z_frr, e1]
    · obtain ⟨h1, h2⟩ := e4 e
      intro r hr
      rw [h1]
      exact h2 r hr
theorem q19 {n : Nat} (h : 19 < n) {g : Gr} (hg : g.Nice) (hs : g.n + g.e ≤ 20) {st : Store} : ∃ F, FW g F ∧ denT fnT n 19 [grv g] st = some (.dct false (encD .int wv F), st) := by
  have h1 := hg.n1
  have h2 := hg.e1
  have hi0 : FI g ((rngI g.n (g.n + g.e)).map fun x => (x, [x])) := by
    have nd : (((rngI g.n (g.n + g.e)).map fun x => (x, [x])).map (·.1)).Nodup := by
      rw [List.map_map]
      have : ((fun x : Int × List Int => x.1) ∘ fun x : Int => (x, [x])) = id := rfl
      rw [this, List.map_id]
      exact rngI_nodup
    refine ⟨nd, fun s w h => ?_, fun s h0 h1 => lookT_of_mem nd (List.mem_map.mpr ⟨s, mem_rngI.mpr ⟨h0, h1⟩, rfl⟩), fun s w h => ?_⟩
    · obtain ⟨x, hx, e⟩ := List.mem_map.mp (lookT_mem h)
      cases e
      exact .en (mem_rngI.mp hx).1 (mem_rngI.mp hx).2
    · obtain ⟨x, hx, e⟩ := List.mem_map.mp (lookT_mem h)
      cases e
      exact Nat.one_le_two_pow
  obtain ⟨F, fr2, s2, e1, hi, ⟨rfl, a, b, c, rfl⟩, hc⟩ := f_while hg hs _ [some (grv g), some (.int g.n), some (.int g.e), some (.tup (g.rs.map rv)), some (.loc 0), some (.bl true), none, none, none, none, none] _ hi0 ⟨rfl, _, _, _, rfl⟩
  refine ⟨F, hi.closed hc, ?_⟩
  rw [dFirstWords_at h]
  have hc1 : ev (denT fnT 19) dFirstWords_c1 [some (grv g), some (.int g.n), some (.int g.e), some (.tup (g.rs.map rv)), none, none, none, none, none, none, none] [] = some (.loc 0, [.dct false (encD .int wv ((rngI g.n (g.n + g.e)).map fun x => (x, [x])))]) := by
    unfold dFirstWords_c1
    rw [ev_dcT (s1 := []) (xs := rngI g.n (g.n + g.e)) .int .int (fun x => wv [x]) (by simp [binP, binI, kR2_int (m := g.n) (n := g.n + g.e) (by omega) (by omega) (by omega) (by omega)]) (fun x hx => ⟨_, rfl, by simp [wipeF], by simp [wipeF, wv], rfl⟩) (by rw [rngI_len]; unfold SZ; omega)]
    have e : ((rngI g.n (g.n + g.e)).map fun x => (PV.int x, wv [x])) = encD .int wv ((rngI g.n (g.n + g.e)).map fun x => (x, [x])) := by simp [encD]
    rw [e, dctL_enc int_inj hi0.nd]
    rfl
  have hfz : frzV 30 (.loc 0) [.dct false (encD .int wv F)] = some (.dct false (encD .int wv F), [.dead]) := by
    rw [frzV]
    simp only [List.getElem?_cons_zero, List.set_cons_zero]
    rw [frzD_of fun p hp => ?_]
    · rfl
    · obtain ⟨q, _, rfl⟩ := List.mem_map.mp hp
      exact frz_le (k := 1) (isD_wv (by decide)) (by decide)
  have hlf : lf (.dct false (encD .int wv F)) = true := by
    rw [lf]
    refine lfD_of fun p hp => ?_
    obtain ⟨q, _, rfl⟩ := List.mem_map.mp hp
    exact ⟨rfl, lf_wv⟩
  have hlg : lfL [grv g] = true := by
    refine lfL_of fun x hx => ?_
    rw [List.mem_singleton] at hx
    subst hx
    simp only [grv, lf, lfL, Bool.and_true, Bool.true_and]
    refine lfL_of fun x hx => ?_
    obtain ⟨r, _, rfl⟩ := List.mem_map.mp hx
    simp [rv, lf, lfL, lf_wv]
  have ha : asgT (.tp [.nm 1, .nm 2, .nm 3]) (grv g) [some (grv g), none, none, none, none, none, none, none, none, none, none] = some [some (grv g), some (.int g.n), some (.int g.e), some (.tup (g.rs.map rv)), none, none, none, none, none, none, none] := rfl
  simp [dFirstWords, denF, hlg, ha, hc1, e1, hfz, hlf]
theorem q25 {n : Nat} (h : 25 < n) {g : Gr} (hk : g.Ok) (hs : g.n + g.e ≤ 20) {i : Int} (h0 : 0 ≤ i) (h1 : i < g.n) {st : Store} : ∃ F, FW g F ∧ denT fnT n 25 [grv g, .int i] st = some (((lookT F i).map wv).getD .non, st) := by
  obtain ⟨F, hF, e⟩ := q19 (n := 25) (by decide) hk.nice hs (st := st)
  refine ⟨F, hF, ?_⟩
  rw [dShortest_at h]
  have hb : bmT .get1 (.dct false (encD .int wv F)) st = true := rfl
  have hg : bmP .get1 (.dct false (encD .int wv F)) [.int i] st = some (((lookT F i).map wv).getD .non, st) := get1_enc (t := false) (ke := .int) (ve := wv) int_inj dctOf_val rfl
  simp [dShortest, denF, q15, hk, h0, h1, e, hb, hg]
end K89
end

section
set_option Elab.async false
set_option linter.all false
set_option maxRecDepth 100000
set_option autoImplicit false
set_option maxHeartbeats 4000000
/-! Chart: the parts of a word -/
namespace K89
open PySem (Str)
open Pv

abbrev Row := List (Int × PV)
abbrev Dg := List ((Nat × Nat) × Row)
/-- a tree that shows that a word is of a sign; how deep it is at most -/
inductive Tr (g : Gr) : Int → List Int → Nat → PV → Prop
  | en {s : Int} {d : Nat} (h0 : g.n ≤ s) (h1 : s < g.n + g.e) : Tr g s [s] d (.int s)
  | r0 {a : Int} {d k : Nat} (h : g.rs[k]? = some (a, [])) : Tr g a [] (d + 1) (.tup [.int k, .tup []])
  | r1 {a s : Int} {w : List Int} {d k : Nat} {t : PV} (h : g.rs[k]? = some (a, [s])) (x : Tr g s w d t) : Tr g a w (d + 1) (.tup [.int k, .tup [t]])
  | r2 {a s z : Int} {u v : List Int} {d k : Nat} {t t' : PV} (h : g.rs[k]? = some (a, [s, z])) (x : Tr g s u d t) (y : Tr g z v d t') : Tr g a (u ++ v) (d + 1) (.tup [.int k, .tup [t, t']])
theorem Tr.der {g : Gr} {s : Int} {w : List Int} {d : Nat} {t : PV} (x : Tr g s w d t) : Der g s w := by
  induction x with
  | en h0 h1 => exact .en h0 h1
  | r0 h => exact .r0 (List.mem_of_getElem? h)
  | r1 h _ ih => exact .r1 (List.mem_of_getElem? h) ih
  | r2 h _ _ i1 i2 => exact .r2 (List.mem_of_getElem? h) i1 i2
theorem Tr.up {g : Gr} {s : Int} {w : List Int} {d : Nat} {t : PV} (x : Tr g s w d t) : ∀ {m : Nat}, d ≤ m → Tr g s w m t := by
  induction x with
  | en h0 h1 => exact fun _ => .en h0 h1
  | r0 h => intro m hm; obtain ⟨m, rfl⟩ : ∃ k, m = k + 1 := ⟨m - 1, by omega⟩; exact .r0 h
  | r1 h _ ih => intro m hm; obtain ⟨m, rfl⟩ : ∃ k, m = k + 1 := ⟨m - 1, by omega⟩; exact .r1 h (ih (by omega))
  | r2 h _ _ i1 i2 => intro m hm; obtain ⟨m, rfl⟩ : ∃ k, m = k + 1 := ⟨m - 1, by omega⟩; exact .r2 h (i1 (by omega)) (i2 (by omega))
theorem Tr.lf {g : Gr} {s : Int} {w : List Int} {d : Nat} {t : PV} (x : Tr g s w d t) : Pv.lf t = true := by
  induction x with
  | en h0 h1 => rfl
  | r0 h => rfl
  | r1 h _ ih => simp [Pv.lf, lfL, ih]
  | r2 h _ _ i1 i2 => simp [Pv.lf, lfL, i1, i2]
theorem Tr.isD {g : Gr} {s : Int} {w : List Int} {d : Nat} {t : PV} (x : Tr g s w d t) : Pv.isD (2 * d) t = true := by
  induction x with
  | en h0 h1 => simp [Pv.isD]
  | r0 h => rw [show ∀ d, 2 * (d + 1) = 2 * d + 1 + 1 from fun d => by omega]; simp [Pv.isD, isDL]
  | r1 h _ ih => rw [show ∀ d, 2 * (d + 1) = 2 * d + 1 + 1 from fun d => by omega]; simp [Pv.isD, isDL, ih]
  | r2 h _ _ i1 i2 => rw [show ∀ d, 2 * (d + 1) = 2 * d + 1 + 1 from fun d => by omega]; simp [Pv.isD, isDL, i1, i2]
theorem Tr.nn {g : Gr} {s : Int} {w : List Int} {d : Nat} {t : PV} (x : Tr g s w d t) : t ≠ .non := by cases x <;> simp

/-! the store -/
def spn : Nat → Dg → List ((Nat × Nat) × Nat)
  | _, [] => []
  | k, p :: r => (p.1, k) :: spn (k + 1) r
theorem spn_app : ∀ (D : Dg) (b : Nat) (x : (Nat × Nat) × Row), spn b (D ++ [x]) = spn b D ++ [(x.1, b + D.length)]
  | [], b, x => rfl
  | p :: D, b, x => by
    rw [List.cons_append, spn, spn_app D (b + 1) x, spn]
    simp
    omega
theorem spn_keys : ∀ (D : Dg) (b : Nat), (spn b D).map (·.1) = D.map (·.1)
  | [], _ => rfl
  | p :: D, b => by rw [spn, List.map_cons, spn_keys D (b + 1)]; rfl
theorem spn_len : ∀ (D : Dg) (b : Nat), (spn b D).length = D.length
  | [], _ => rfl
  | p :: D, b => by rw [spn, List.length_cons, spn_len D (b + 1)]; rfl
theorem spn_look : ∀ {D : Dg} {b : Nat} {p : Nat × Nat} {row : Row}, lookT D p = some row → ∃ k, lookT (spn b D) p = some (b + k) ∧ D[k]? = some (p, row)
  | q :: D, b, p, row, h => by
    rw [lookT] at h
    rw [spn, lookT]
    by_cases e : q.1 = p
    · rw [if_pos e] at h
      cases h
      refine ⟨0, by simp [e], ?_⟩
      subst e
      rfl
    · rw [if_neg e] at h ⊢
      obtain ⟨k, h1, h2⟩ := spn_look (b := b + 1) h
      exact ⟨k + 1, by rw [h1]; congr 1; omega, h2⟩
def chF (g : Gr) : List (Str × PV) := [("rules", .tup (g.rs.map rv)), ("rows", .loc 1)]
def encR (r : Row) : List (PV × PV) := encD .int id r
def chS (g : Gr) (D : Dg) : Store := .ins "Chart" (chF g) :: .dct true (encD ppv .loc (spn 2 D)) :: D.map fun p => .dct false (encR p.2)
theorem ch_row {g : Gr} {D : Dg} {p : Nat × Nat} {row : Row} (h : lookT D p = some row) : ∃ k, idxP (.loc 1) (ppv p) (chS g D) = some (.loc k) ∧ (chS g D)[k]? = some (.dct false (encR row)) := by
  obtain ⟨k, h1, h2⟩ := spn_look (b := 2) h
  refine ⟨2 + k, idx_enc (ke := ppv) (ve := .loc) ppv_inj (t := true) (dctOf_loc rfl) kFor_ppv h1, ?_⟩
  unfold chS
  rw [show 2 + k = k + 1 + 1 by omega, List.getElem?_cons_succ, List.getElem?_cons_succ, List.getElem?_map, h2]
  rfl
theorem ch_ins {g : Gr} {D : Dg} : insOf (chS g D) (.loc 0) = some (("Chart" : Str), chF g) := rfl
theorem ch_rows {g : Gr} : (chF g).lookup ("rows" : Str) = some (PV.loc 1) := rfl
theorem ch_rules {g : Gr} : (chF g).lookup ("rules" : Str) = some (PV.tup (g.rs.map rv)) := rfl
/-- the trees of a rule's word over a part -/
def Ch (D : Dg) : List Int → Nat → Nat → List PV → Prop
  | [], i, j, cs => i = j ∧ cs = []
  | [s], i, j, cs => ∃ row t, lookT D (i, j) = some row ∧ lookT row s = some t ∧ cs = [t]
  | [s, z], i, j, cs => ∃ m r1 r2 a b, i ≤ m ∧ m ≤ j ∧ lookT D (i, m) = some r1 ∧ lookT D (m, j) = some r2 ∧ lookT r1 s = some a ∧ lookT r2 z = some b ∧ cs = [a, b]
  | _, _, _, _ => False
theorem q8l {n : Nat} {g : Gr} {D : Dg} {s z : Int} {i j : Nat} (hij : i ≤ j) (hj : j ≤ 1000) (hD : ∀ a b, i ≤ a → a ≤ b → b ≤ j → (lookT D (a, b)).isSome = true) :
    ∃ f fr' s', frL (asgT (.nm 5)) (fun fr st => exs (denT fnT n) dChartChildren_l1b fr st) ((List.range' i (j + 1 - i)).map fun m : Nat => PV.int m) [some (.loc 0), some (wv [s, z]), some (.int i), some (.int j), none, none, none, none] (chS g D) = some (f, fr', s') ∧
        (s' = chS g D ∧ ((f = .nx ∧ (∃ a b c d, fr' = [some (.loc 0), some (wv [s, z]), some (.int i), some (.int j), a, b, c, d]) ∧ ∀ cs, ¬ Ch D [s, z] i j cs) ∨ ∃ cs, f = .ret (.tup cs) ∧ Ch D [s, z] i j cs)) := by
  have hp : ∀ (a b : Nat), PV.tup [.int a, .int b] = ppv (a, b) := fun a b => rfl
  have h0 : ∀ st, idxP (wv [s, z]) (.int 0) st = some (.int s) := fun st => rfl
  have h1 : ∀ st, idxP (wv [s, z]) (.int 1) st = some (.int z) := fun st => rfl
  refine fr_ret (F := fun m : Nat => PV.int m) _ (fun l fr st => st = chS g D ∧ (∃ a b c d, fr = [some (.loc 0), some (wv [s, z]), some (.int i), some (.int j), a, b, c, d]) ∧ ∀ m ∈ l, ∀ r1 r2, lookT D (i, m) = some r1 → lookT D (m, j) = some r2 → ¬ ((lookT r1 s).isSome = true ∧ (lookT r2 z).isSome = true))
    (fun f fr' s' => s' = chS g D ∧ ((f = .nx ∧ (∃ a b c d, fr' = [some (.loc 0), some (wv [s, z]), some (.int i), some (.int j), a, b, c, d]) ∧ ∀ cs, ¬ Ch D [s, z] i j cs) ∨ ∃ cs, f = .ret (.tup cs) ∧ Ch D [s, z] i j cs)) ?_ _ _ ?_ ?_
  · rintro l m r fr st hl ⟨rfl, ⟨a, b, c, d, rfl⟩, hno⟩
    have hm : m ∈ List.range' i (j + 1 - i) := by rw [hl]; simp
    rw [List.mem_range'_1] at hm
    obtain ⟨r1, hr1⟩ := Option.isSome_iff_exists.mp (hD i m (Nat.le_refl _) hm.1 (by omega))
    obtain ⟨r2, hr2⟩ := Option.isSome_iff_exists.mp (hD m j hm.1 (by omega) (Nat.le_refl _))
    obtain ⟨k1, a1, b1⟩ := ch_row (g := g) hr1
    obtain ⟨k2, a2, b2⟩ := ch_row (g := g) hr2
    have d1 : dctOf (chS g D) (.loc k1) = some (false, encR r1) := dctOf_loc b1
    have d2 : dctOf (chS g D) (.loc k2) = some (false, encR r2) := dctOf_loc b2
    have i1 : cmpP .inn (.int s) (.loc k1) (chS g D) = some (lookT r1 s).isSome := in_enc (ke := .int) (ve := id) int_inj d1 rfl
    have i2 : cmpP .inn (.int z) (.loc k2) (chS g D) = some (lookT r2 z).isSome := in_enc (ke := .int) (ve := id) int_inj d2 rfl
    refine ⟨[some (.loc 0), some (wv [s, z]), some (.int i), some (.int j), a, some (.int m), c, d], ?_⟩
    cases e1 : lookT r1 s with
    | none =>
      rw [e1] at i1
      refine ⟨.nx, [some (.loc 0), some (wv [s, z]), some (.int i), some (.int j), a, some (.int m), some (.loc k1), some (.loc k2)], chS g D, rfl, ?_, rfl, ⟨_, _, _, _, rfl⟩, fun x hx r1' r2' x1 x2 => ?_⟩
      · simp [dChartChildren_l1b, ch_ins, ch_rows, hp, a1, a2, h0, h1, i1]
      · rcases List.mem_append.mp hx with hx | hx
        · exact hno x hx r1' r2' x1 x2
        · rw [List.mem_singleton] at hx; subst hx
          rw [hr1] at x1; cases x1
          rw [e1]; simp
    | some t1 =>
      rw [e1] at i1
      cases e2 : lookT r2 z with
      | none =>
        rw [e2] at i2
        refine ⟨.nx, [some (.loc 0), some (wv [s, z]), some (.int i), some (.int j), a, some (.int m), some (.loc k1), some (.loc k2)], chS g D, rfl, ?_, rfl, ⟨_, _, _, _, rfl⟩, fun x hx r1' r2' x1 x2 => ?_⟩
        · simp [dChartChildren_l1b, ch_ins, ch_rows, hp, a1, a2, h0, h1, i1, i2]
        · rcases List.mem_append.mp hx with hx | hx
          · exact hno x hx r1' r2' x1 x2
          · rw [List.mem_singleton] at hx; subst hx
            rw [hr2] at x2; cases x2
            rw [e2]; simp
      | some t2 =>
        rw [e2] at i2
        have j1 : idxP (.loc k1) (.int s) (chS g D) = some t1 := idx_enc (ke := .int) (ve := id) int_inj d1 rfl e1
        have j2 : idxP (.loc k2) (.int z) (chS g D) = some t2 := idx_enc (ke := .int) (ve := id) int_inj d2 rfl e2
        refine ⟨.ret (.tup [t1, t2]), [some (.loc 0), some (wv [s, z]), some (.int i), some (.int j), a, some (.int m), some (.loc k1), some (.loc k2)], chS g D, rfl, ?_, rfl, .inr ⟨[t1, t2], rfl, m, r1, r2, t1, t2, hm.1, by omega, hr1, hr2, e1, e2, rfl⟩⟩
        simp [dChartChildren_l1b, ch_ins, ch_rows, hp, a1, a2, h0, h1, i1, i2, j1, j2]
  · exact ⟨rfl, ⟨_, _, _, _, rfl⟩, fun m hm => by cases hm⟩
  · rintro fr st ⟨rfl, hfr, hno⟩
    refine ⟨rfl, .inl ⟨rfl, hfr, ?_⟩⟩
    rintro cs ⟨m, r1, r2, a, b, m1, m2, x1, x2, x3, x4, _⟩
    refine hno m (by rw [List.mem_range'_1]; omega) r1 r2 x1 x2 ?_
    rw [x3, x4]; exact ⟨rfl, rfl⟩
theorem q80 {n : Nat} (h : 8 < n) {g : Gr} {D : Dg} {i j : Nat} (hij : i ≤ j) (hj : j ≤ 1000) (hD : ∀ a b, i ≤ a → a ≤ b → b ≤ j → (lookT D (a, b)).isSome = true) :
    ∃ v, denT fnT n 8 [.loc 0, wv [], .int i, .int j] (chS g D) = some (v, chS g D) ∧ ((v = .non ∧ ∀ cs, ¬ Ch D [] i j cs) ∨ ∃ cs, v = .tup cs ∧ Ch D [] i j cs) := by
  rw [dChartChildren_at h]
  have hp : ∀ (a b : Nat), PV.tup [.int a, .int b] = ppv (a, b) := fun a b => rfl
  obtain ⟨row, hrow⟩ := Option.isSome_iff_exists.mp (hD i j (Nat.le_refl _) hij (Nat.le_refl _))
  obtain ⟨k, hk1, hk2⟩ := ch_row (g := g) hrow
  have hdk : dctOf (chS g D) (.loc k) = some (false, encR row) := dctOf_loc hk2
  by_cases e : i = j
  · subst e
    refine ⟨.tup [], ?_, .inr ⟨[], rfl, rfl, rfl⟩⟩
    simp [dChartChildren, denF, ch_ins, ch_rows, hp, hk1]
  · refine ⟨.non, ?_, .inl ⟨rfl, fun cs hc => e hc.1⟩⟩
    have e' : ¬ (i : Int) = (j : Int) := by omega
    simp [dChartChildren, denF, ch_ins, ch_rows, hp, hk1, e']
theorem q81 {n : Nat} (h : 8 < n) {g : Gr} {D : Dg} {s : Int} {i j : Nat} (hij : i ≤ j) (hj : j ≤ 1000) (hD : ∀ a b, i ≤ a → a ≤ b → b ≤ j → (lookT D (a, b)).isSome = true) :
    ∃ v, denT fnT n 8 [.loc 0, wv [s], .int i, .int j] (chS g D) = some (v, chS g D) ∧ ((v = .non ∧ ∀ cs, ¬ Ch D [s] i j cs) ∨ ∃ cs, v = .tup cs ∧ Ch D [s] i j cs) := by
  rw [dChartChildren_at h]
  have hp : ∀ (a b : Nat), PV.tup [.int a, .int b] = ppv (a, b) := fun a b => rfl
  obtain ⟨row, hrow⟩ := Option.isSome_iff_exists.mp (hD i j (Nat.le_refl _) hij (Nat.le_refl _))
  obtain ⟨k, hk1, hk2⟩ := ch_row (g := g) hrow
  have hdk : dctOf (chS g D) (.loc k) = some (false, encR row) := dctOf_loc hk2
  have hin : cmpP .inn (.int s) (.loc k) (chS g D) = some (lookT row s).isSome := in_enc (ke := .int) (ve := id) int_inj hdk rfl
  have h0 : ∀ st, idxP (wv [s]) (.int 0) st = some (.int s) := fun st => rfl
  cases hl : lookT row s with
  | none =>
    refine ⟨.non, ?_, .inl ⟨rfl, fun cs hc => ?_⟩⟩
    · rw [hl] at hin
      simp [dChartChildren, denF, ch_ins, ch_rows, hp, hk1, h0, hin]
    · obtain ⟨r, t, h1, h2, _⟩ := hc
      rw [hrow] at h1
      cases h1
      rw [hl] at h2
      cases h2
  | some t =>
    refine ⟨.tup [t], ?_, .inr ⟨[t], rfl, row, t, hrow, hl, rfl⟩⟩
    rw [hl] at hin
    have hi : idxP (.loc k) (.int s) (chS g D) = some t := idx_enc (ke := .int) (ve := id) int_inj hdk rfl hl
    simp [dChartChildren, denF, ch_ins, ch_rows, hp, hk1, h0, hin, hi]
theorem kR2_succ {i j : Nat} {s : Store} (h1 : i ≤ 1000) (h2 : j ≤ 1000) : kR2 (.int (i : Int)) (.int ((j : Int) + 1)) s = some ((List.range' i (j + 1 - i)).map fun m : Nat => PV.int m, s) := kR2_nat (j := j + 1) (by omega) (by omega)
theorem q8e {g : Gr} {D : Dg} {s z : Int} {i j : Nat} (hij : i ≤ j) (hj : j ≤ 1000) {f : Fl} {fr' : Fr} (e : frL (asgT (.nm 5)) (fun fr st => exs (denT fnT 8) dChartChildren_l1b fr st) ((List.range' i (j + 1 - i)).map fun m : Nat => PV.int m) [some (.loc 0), some (wv [s, z]), some (.int i), some (.int j), none, none, none, none] (chS g D) = some (f, fr', chS g D)) :
    ex (denT fnT 8) dChartChildren_l1 [some (.loc 0), some (wv [s, z]), some (.int i), some (.int j), none, none, none, none] (chS g D) = some (f, fr', chS g D) := by
  have hk := kR2_succ (i := i) (j := j) (s := chS g D) (by omega) (by omega)
  unfold dChartChildren_l1
  rw [z_frr]
  simp [hk, e]
theorem q8f {g : Gr} {D : Dg} {s z : Int} {i j : Nat} {cs : List PV} {fr' : Fr} (hl2 : ex (denT fnT 8) dChartChildren_l1 [some (.loc 0), some (wv [s, z]), some (.int i), some (.int j), none, none, none, none] (chS g D) = some (.ret (.tup cs), fr', chS g D)) :
    denF (denT fnT 8) dChartChildren [.loc 0, wv [s, z], .int i, .int j] (chS g D) = some (.tup cs, chS g D) := by
  simp [dChartChildren, denF, hl2]
theorem q8g {g : Gr} {D : Dg} {s z : Int} {i j : Nat} {a b c d : Option PV} (hl2 : ex (denT fnT 8) dChartChildren_l1 [some (.loc 0), some (wv [s, z]), some (.int i), some (.int j), none, none, none, none] (chS g D) = some (.nx, [some (.loc 0), some (wv [s, z]), some (.int i), some (.int j), a, b, c, d], chS g D)) :
    denF (denT fnT 8) dChartChildren [.loc 0, wv [s, z], .int i, .int j] (chS g D) = some (.non, chS g D) := by
  simp [dChartChildren, denF, hl2]
theorem q82 {n : Nat} (h : 8 < n) {g : Gr} {D : Dg} {s z : Int} {i j : Nat} (hij : i ≤ j) (hj : j ≤ 1000) (hD : ∀ a b, i ≤ a → a ≤ b → b ≤ j → (lookT D (a, b)).isSome = true) :
    ∃ v, denT fnT n 8 [.loc 0, wv [s, z], .int i, .int j] (chS g D) = some (v, chS g D) ∧ ((v = .non ∧ ∀ cs, ¬ Ch D [s, z] i j cs) ∨ ∃ cs, v = .tup cs ∧ Ch D [s, z] i j cs) := by
  rw [dChartChildren_at h]
  have hp : ∀ (a b : Nat), PV.tup [.int a, .int b] = ppv (a, b) := fun a b => rfl
  obtain ⟨row, hrow⟩ := Option.isSome_iff_exists.mp (hD i j (Nat.le_refl _) hij (Nat.le_refl _))
  obtain ⟨k, hk1, hk2⟩ := ch_row (g := g) hrow
  have hdk : dctOf (chS g D) (.loc k) = some (false, encR row) := dctOf_loc hk2
  have hloop := q8l (n := 8) (g := g) (s := s) (z := z) hij hj hD
  obtain ⟨f, fr', s', e, rfl, hor⟩ := hloop
  have hl2 := q8e hij hj e
  rcases hor with ⟨rfl, ⟨a, b, c, d, rfl⟩, hno⟩ | ⟨cs, rfl, hc⟩
  · exact ⟨.non, q8g hl2, .inl ⟨rfl, hno⟩⟩
  · exact ⟨.tup cs, q8f hl2, .inr ⟨cs, rfl, hc⟩⟩
theorem q8 {n : Nat} (h : 8 < n) {g : Gr} {D : Dg} {ws : List Int} {i j : Nat} (hw : ws.length ≤ 2) (hij : i ≤ j) (hj : j ≤ 1000) (hD : ∀ a b, i ≤ a → a ≤ b → b ≤ j → (lookT D (a, b)).isSome = true) :
    ∃ v, denT fnT n 8 [.loc 0, wv ws, .int i, .int j] (chS g D) = some (v, chS g D) ∧ ((v = .non ∧ ∀ cs, ¬ Ch D ws i j cs) ∨ ∃ cs, v = .tup cs ∧ Ch D ws i j cs) := by
  match ws, hw with
  | [], _ => exact q80 h hij hj hD
  | [s], _ => exact q81 h hij hj hD
  | [s, z], _ => exact q82 h hij hj hD
end K89
end

section
set_option Elab.async false
set_option linter.all false
set_option maxRecDepth 100000
set_option autoImplicit false
set_option maxHeartbeats 4000000
namespace K89
open PySem (Str)
open Pv

def sub (w : List Int) (i j : Nat) : List Int := (w.drop i).take (j - i)
theorem sub_len {w : List Int} {i j : Nat} (h1 : i ≤ j) (h2 : j ≤ w.length) : (sub w i j).length = j - i := by
  unfold sub; rw [List.length_take, List.length_drop]; omega
theorem sub_all {w : List Int} : sub w 0 w.length = w := by simp [sub]
theorem sub_self {w : List Int} {i : Nat} : sub w i i = [] := by simp [sub]
theorem sub_cat {w : List Int} {i m j : Nat} (h1 : i ≤ m) (h2 : m ≤ j) (h3 : j ≤ w.length) : sub w i m ++ sub w m j = sub w i j := by
  unfold sub
  rw [show j - i = (m - i) + (j - m) by omega, List.take_add, List.drop_drop, show i + (m - i) = m by omega]
theorem sub_cut {w u v : List Int} {i j : Nat} (h1 : i ≤ j) (h2 : j ≤ w.length) (e : u ++ v = sub w i j) : i + u.length ≤ j ∧ u = sub w i (i + u.length) ∧ v = sub w (i + u.length) j := by
  have hl := sub_len h1 h2
  rw [← e, List.length_append] at hl
  have h3 : i + u.length ≤ j := by omega
  refine ⟨h3, ?_⟩
  have e2 := sub_cat (w := w) (i := i) (m := i + u.length) (j := j) (by omega) h3 h2
  rw [← e] at e2
  have := List.append_inj e2.symm (by rw [sub_len (by omega) (by omega)]; omega)
  exact this
theorem sub_one {w : List Int} {i : Nat} {x : Int} (h : w[i]? = some x) : sub w i (i + 1) = [x] := by
  unfold sub
  rw [show i + 1 - i = 1 by omega]
  obtain ⟨hi, rfl⟩ := List.getElem?_eq_some_iff.mp h
  rw [List.take_one, List.head?_drop]
  rw [h]
  rfl

def kk (g : Gr) : Nat := (g.n + g.e).toNat
/-- a row is right: it shows no more than there is -/
structure RS (g : Gr) (u : List Int) (b : Nat) (row : Row) : Prop where
  nd : (row.map (·.1)).Nodup
  tr : ∀ s t, lookT row s = some t → Tr g s u (b + row.length) t
theorem RS.few {g : Gr} (hg : g.Nice) {u : List Int} {b : Nat} {row : Row} (h : RS g u b row) : row.length ≤ kk g := by
  have := nodup_len (row.map (·.1)) (rngI 0 (g.n + g.e)) h.nd fun x hx => by
    rw [List.mem_map] at hx
    obtain ⟨p, hp, rfl⟩ := hx
    have := (h.tr p.1 p.2 (lookT_of_mem h.nd hp)).der.sign hg
    exact mem_rngI.mpr this
  rw [List.length_map, rngI_len] at this
  unfold kk
  simpa using this
def bs (g : Gr) (i j : Nat) : Nat := (j - i) * (kk g + 1)
/-- all rows are right -/
def DS (g : Gr) (w : List Int) (D : Dg) : Prop := ∀ a b row, lookT D (a, b) = some row → a ≤ b ∧ b ≤ w.length ∧ RS g (sub w a b) (bs g a b) row
/-- all rows are whole -/
def DC (g : Gr) (w : List Int) (D : Dg) : Prop := ∀ a b row, lookT D (a, b) = some row → ∀ s, Der g s (sub w a b) → (lookT row s).isSome = true
theorem lookT_app {D0 : Dg} {i j : Nat} {row : Row} (hnew : lookT D0 (i, j) = none) (p : Nat × Nat) : lookT (D0 ++ [((i, j), row)]) p = if p = (i, j) then some row else lookT D0 p := by
  rw [← putT_new hnew, lookT_put]
  by_cases h : p = (i, j)
  · subst h; simp
  · rw [if_neg h, if_neg (Ne.symm h)]
section
variable {g : Gr} {w : List Int} {D0 : Dg} {i j : Nat} {row : Row}
/-- a rule's trees make a tree -/
theorem Ch.tr {k : Nat} {a : Int} {ws : List Int} {cs : List PV} (hg : g.Nice) (hij : i ≤ j) (hj : j ≤ w.length) (hs : DS g w D0) (hnew : lookT D0 (i, j) = none) (hr : RS g (sub w i j) (bs g i j) row) (hk : g.rs[k]? = some (a, ws)) (h : Ch (D0 ++ [((i, j), row)]) ws i j cs) :
    Tr g a (sub w i j) (bs g i j + (row.length + 1)) (.tup [.int k, .tup cs]) := by
  have key : ∀ x y r s t, i ≤ x → x ≤ y → y ≤ j → lookT (D0 ++ [((i, j), row)]) (x, y) = some r → lookT r s = some t → Tr g s (sub w x y) (bs g i j + row.length) t := by
    intro x y r s t h1 h2 h3 h4 h5
    rw [lookT_app hnew] at h4
    split at h4
    · rename_i e
      cases e
      cases h4
      exact hr.tr s t h5
    · rename_i e
      obtain ⟨_, _, hrs⟩ := hs x y r h4
      refine (hrs.tr s t h5).up ?_
      have h6 := hrs.few hg
      have h7 : y - x + 1 ≤ j - i := by
        have : ¬ (x = i ∧ y = j) := fun ⟨e1, e2⟩ => e (by rw [e1, e2])
        omega
      have h8 := Nat.mul_le_mul_right (kk g + 1) h7
      unfold bs
      rw [Nat.add_mul, Nat.one_mul] at h8
      omega
  match ws, hk, h with
  | [], hk, ⟨e, e2⟩ => subst e; subst e2; rw [sub_self, ← Nat.add_assoc]; exact .r0 hk
  | [s], hk, ⟨r, t, h1, h2, h3⟩ =>
    subst h3
    rw [← Nat.add_assoc]
    exact .r1 hk (key i j r s t (Nat.le_refl _) hij (Nat.le_refl _) h1 h2)
  | [s, z], hk, ⟨m, r1, r2, x, y, m1, m2, h1, h2, h3, h4, h5⟩ =>
    subst h5
    rw [← Nat.add_assoc, ← sub_cat m1 m2 hj]
    exact .r2 hk (key i m r1 s x (Nat.le_refl _) m1 m2 h1 h3) (key m j r2 z y m1 m2 (Nat.le_refl _) h2 h4)
/-- a closed row is whole -/
theorem closed_whole (hij : i ≤ j) (hj : j ≤ w.length) (hc : DC g w D0) (hnew : lookT D0 (i, j) = none) (hD : ∀ a b, i ≤ a → a ≤ b → b ≤ j → ¬ (a = i ∧ b = j) → (lookT D0 (a, b)).isSome = true)
    (hen : ∀ s, sub w i j = [s] → (lookT row s).isSome = true) (hcl : ∀ r ∈ g.rs, (lookT row r.1).isSome = true ∨ ∀ cs, ¬ Ch (D0 ++ [((i, j), row)]) r.2 i j cs) :
    ∀ s u, Der g s u → u = sub w i j → (lookT row s).isSome = true := by
  have key : ∀ s u, Der g s u → ∀ a b, i ≤ a → a ≤ b → b ≤ j → u = sub w a b → ∃ r, lookT (D0 ++ [((i, j), row)]) (a, b) = some r ∧ (lookT r s).isSome = true := by
    intro s u d
    have old : ∀ s u, Der g s u → ∀ a b, i ≤ a → a ≤ b → b ≤ j → u = sub w a b → ¬ (a = i ∧ b = j) → ∃ r, lookT (D0 ++ [((i, j), row)]) (a, b) = some r ∧ (lookT r s).isSome = true := by
      intro s u d a b h1 h2 h3 e hn
      obtain ⟨r, hr⟩ := Option.isSome_iff_exists.mp (hD a b h1 h2 h3 hn)
      refine ⟨r, ?_, hc a b r hr s (e ▸ d)⟩
      rw [lookT_app hnew, if_neg (fun e => hn ⟨congrArg Prod.fst e, congrArg Prod.snd e⟩)]
      exact hr
    have new : lookT (D0 ++ [((i, j), row)]) (i, j) = some row := by rw [lookT_app hnew, if_pos rfl]
    induction d with
    | en h0 h1 =>
      intro a b ha hb hb2 e
      by_cases hn : a = i ∧ b = j
      · obtain ⟨rfl, rfl⟩ := hn
        exact ⟨row, new, hen _ e.symm⟩
      · exact old _ _ (.en h0 h1) a b ha hb hb2 e hn
    | r0 h =>
      intro a b ha hb hb2 e
      by_cases hn : a = i ∧ b = j
      · obtain ⟨rfl, rfl⟩ := hn
        refine ⟨row, new, (hcl _ h).resolve_right fun hno => ?_⟩
        have : a = b := by
          have hl := sub_len hb hj
          rw [← e] at hl
          simp at hl
          omega
        exact hno [] ⟨this, rfl⟩
      · exact old _ _ (.r0 h) a b ha hb hb2 e hn
    | r1 h d ih =>
      intro a b ha hb hb2 e
      by_cases hn : a = i ∧ b = j
      · obtain ⟨rfl, rfl⟩ := hn
        refine ⟨row, new, (hcl _ h).resolve_right fun hno => ?_⟩
        obtain ⟨r, h1, h2⟩ := ih a b ha hb hb2 e
        obtain ⟨t, ht⟩ := Option.isSome_iff_exists.mp h2
        exact hno [t] ⟨r, t, h1, ht, rfl⟩
      · exact old _ _ (.r1 h d) a b ha hb hb2 e hn
    | @r2 nm s1 s2 u v h d d' i1 i2 =>
      intro a b ha hb hb2 e
      by_cases hn : a = i ∧ b = j
      · obtain ⟨rfl, rfl⟩ := hn
        refine ⟨row, new, (hcl _ h).resolve_right fun hno => ?_⟩
        obtain ⟨c1, c2, c3⟩ := sub_cut hb hj e
        obtain ⟨r1, x1, x2⟩ := i1 a (a + u.length) ha (by omega) (by omega) c2
        obtain ⟨r2, y1, y2⟩ := i2 (a + u.length) b (by omega) (by omega) hb2 c3
        obtain ⟨t1, ht1⟩ := Option.isSome_iff_exists.mp x2
        obtain ⟨t2, ht2⟩ := Option.isSome_iff_exists.mp y2
        exact hno [t1, t2] ⟨a + u.length, r1, r2, t1, t2, by omega, c1, x1, y1, ht1, ht2, rfl⟩
      · exact old _ _ (.r2 h d d') a b ha hb hb2 e hn
  intro s u d e
  obtain ⟨r, h1, h2⟩ := key s u d i j (Nat.le_refl _) hij (Nat.le_refl _) e
  rw [lookT_app hnew, if_pos rfl] at h1
  cases h1
  exact h2
end

/-! fill -/
def fF (p : Ru × Nat) : PV := .tup [.int p.2, rv p.1]
def FiE (g : Gr) (D0 : Dg) (i j : Nat) (row : Row) (k : Bool) (fr : Fr) (st : Store) : Prop :=
  st = chS g (D0 ++ [((i, j), row)]) ∧ ∃ a b c d, fr = [some (.loc 0), some (.int i), some (.int j), some (.loc (2 + D0.length)), some (.bl k), a, b, c, d]
def FiI (g : Gr) (w : List Int) (i j : Nat) (row0 row : Row) : Prop := RS g (sub w i j) (bs g i j) row ∧ ∀ s, (lookT row0 s).isSome = true → (lookT row s).isSome = true
def Fim (g : Gr) (row : Row) : Nat := g.rs.countP fun r => (lookT row r.1).isNone
def FiC (D0 : Dg) (i j : Nat) (p : Ru × Nat) (row : Row) : Prop := (lookT row p.1.1).isSome = true ∨ ∀ cs, ¬ Ch (D0 ++ [((i, j), row)]) p.1.2 i j cs
theorem chS_last {g : Gr} {D0 : Dg} {p : Nat × Nat} {row : Row} : (chS g (D0 ++ [(p, row)]))[2 + D0.length]? = some (.dct false (encR row)) := by
  unfold chS
  rw [show 2 + D0.length = D0.length + 1 + 1 by omega, List.getElem?_cons_succ, List.getElem?_cons_succ, List.map_append]
  rw [List.getElem?_append_right (by simp)]
  simp
theorem chS_set {g : Gr} {D0 : Dg} {p : Nat × Nat} {row row' : Row} : (chS g (D0 ++ [(p, row)])).set (2 + D0.length) (.dct false (encR row')) = chS g (D0 ++ [(p, row')]) := by
  unfold chS
  rw [show 2 + D0.length = D0.length + 1 + 1 by omega, List.set_cons_succ, List.set_cons_succ, List.map_append, List.map_append, spn_app, spn_app]
  rw [List.set_append_right _ _ (by simp)]
  simp
theorem fi_turn {g : Gr} {w : List Int} {D0 : Dg} {i j : Nat} (hg : g.Nice) (hs : g.n + g.e ≤ 1000) (hij : i ≤ j) (hj : j ≤ w.length) (hw : w.length ≤ 1000) (hds : DS g w D0) (hnew : lookT D0 (i, j) = none) (hD : ∀ a b, i ≤ a → a ≤ b → b ≤ j → ¬ (a = i ∧ b = j) → (lookT D0 (a, b)).isSome = true) (row0 : Row)
    (p : Ru × Nat) (hp : g.rs[p.2]? = some p.1) (row : Row) (k : Bool) (fr : Fr) (st : Store) (hi : FiI g w i j row0 row) (he : FiE g D0 i j row k fr st) :
    ∃ fr1 row' k' fr2 s2, asgT (.tp [.nm 5, .tp [.nm 6, .nm 7]]) (fF p) fr = some fr1 ∧ exs (denT fnT 9) dChartFill_l2b fr1 st = some (.nx, fr2, s2) ∧ FiI g w i j row0 row' ∧ FiE g D0 i j row' k' fr2 s2 ∧ ((row' = row ∧ k' = k ∧ FiC D0 i j p row) ∨ (k' = true ∧ (Fim g row' < Fim g row ∨ (Fim g row' = Fim g row ∧ 0 < 0)))) := by
  obtain ⟨rfl, a, b, c, d, rfl⟩ := he
  obtain ⟨⟨nm, ws⟩, ix⟩ := p
  simp only at hp
  obtain ⟨hr, h0⟩ := hi
  have hrng := hg.rng _ (List.mem_of_getElem? hp)
  simp only at hrng
  have hdk : dctOf (chS g (D0 ++ [((i, j), row)])) (.loc (2 + D0.length)) = some (false, encR row) := dctOf_loc chS_last
  have hnin : cmpP .nin (.int nm) (.loc (2 + D0.length)) (chS g (D0 ++ [((i, j), row)])) = some (lookT row nm).isNone := nin_enc (ke := .int) (ve := id) int_inj hdk rfl
  have hfew := hr.few hg
  have hkk : kk g ≤ 1000 := by unfold kk; omega
  have ha : asgT (.tp [.nm 5, .tp [.nm 6, .nm 7]]) (fF ((nm, ws), ix)) [some (.loc 0), some (.int i), some (.int j), some (.loc (2 + D0.length)), some (.bl k), a, b, c, d] = some [some (.loc 0), some (.int i), some (.int j), some (.loc (2 + D0.length)), some (.bl k), some (.int ix), some (.int nm), some (wv ws), d] := rfl
  refine ⟨[some (.loc 0), some (.int i), some (.int j), some (.loc (2 + D0.length)), some (.bl k), some (.int ix), some (.int nm), some (wv ws), d], ?_⟩
  cases hl : lookT row nm with
  | some t =>
    rw [hl] at hnin
    refine ⟨row, k, [some (.loc 0), some (.int i), some (.int j), some (.loc (2 + D0.length)), some (.bl k), some (.int ix), some (.int nm), some (wv ws), some .non], chS g (D0 ++ [((i, j), row)]), ha, ?_, ⟨hr, h0⟩, ⟨rfl, _, _, _, _, rfl⟩, .inl ⟨rfl, rfl, .inl ?_⟩⟩
    · simp [dChartFill_l2b, hnin]
    · show (lookT row nm).isSome = true
      rw [hl]; rfl
  | none =>
    rw [hl] at hnin
    obtain ⟨v, hv, hor⟩ := q8 (n := 9) (by decide) (g := g) (D := D0 ++ [((i, j), row)]) (ws := ws) hrng.2.2.2 hij (by omega) fun x y h1 h2 h3 => by
      rw [lookT_app hnew]
      split
      · rfl
      · rename_i e
        exact hD x y h1 h2 h3 fun ⟨e1, e2⟩ => e (by rw [e1, e2])
    have hlk : (chF g).lookup ("children" : Str) = none := rfl
    rcases hor with ⟨rfl, hno⟩ | ⟨cs, rfl, hc⟩
    · refine ⟨row, k, [some (.loc 0), some (.int i), some (.int j), some (.loc (2 + D0.length)), some (.bl k), some (.int ix), some (.int nm), some (wv ws), some .non], chS g (D0 ++ [((i, j), row)]), ha, ?_, ⟨hr, h0⟩, ⟨rfl, _, _, _, _, rfl⟩, .inl ⟨rfl, rfl, .inr hno⟩⟩
      simp [dChartFill_l2b, hnin, ch_ins, hlk, hv]
    · have hst : ∀ fr, stI (.loc (2 + D0.length)) (.int nm) (.tup [.int ix, .tup cs]) fr (chS g (D0 ++ [((i, j), row)])) = some (.nx, fr, chS g (D0 ++ [((i, j), putT row nm (.tup [.int ix, .tup cs]))])) := fun fr => by
        rw [stI_dct (t := false) (kvs := encR row) chS_last rfl (by unfold encR; rw [encD_len]; unfold SZ; omega)]
        have e : put (encR row) (.int nm) (.tup [.int ix, .tup cs]) = encR (putT row nm (.tup [.int ix, .tup cs])) := put_enc (ke := .int) (ve := id) int_inj row hr.nd nm (.tup [.int ix, .tup cs])
        rw [e, chS_set]
      have htr := Ch.tr hg hij hj hds hnew hr hp hc
      have el : (putT row nm (.tup [.int ix, .tup cs])).length = row.length + 1 := by rw [putT_new hl]; simp
      refine ⟨putT row nm (.tup [.int ix, .tup cs]), true, [some (.loc 0), some (.int i), some (.int j), some (.loc (2 + D0.length)), some (.bl true), some (.int ix), some (.int nm), some (wv ws), some (.tup cs)], chS g (D0 ++ [((i, j), putT row nm (.tup [.int ix, .tup cs]))]), ha, ?_, ⟨⟨putT_nodup hr.nd, fun s t h => ?_⟩, fun s h => ?_⟩, ⟨rfl, _, _, _, _, rfl⟩, .inr ⟨rfl, .inl ?_⟩⟩
      · simp [dChartFill_l2b, hnin, ch_ins, hlk, hv, hst]
      · rw [el]
        rw [lookT_put] at h
        split at h
        · rename_i e; subst e; cases h; exact htr
        · exact (hr.tr s t h).up (by omega)
      · rw [lookT_put]
        split
        · rfl
        · exact h0 s h
      · refine countP_lt (fun r _ hr => ?_) (List.mem_of_getElem? hp) (by simp [hl]) (by rw [lookT_put]; simp)
        rw [lookT_put] at hr
        split at hr
        · cases hr
        · exact hr
theorem fi_while {g : Gr} {w : List Int} {D0 : Dg} {i j : Nat} (hg : g.Nice) (hs : g.n + g.e ≤ 1000) (hij : i ≤ j) (hj : j ≤ w.length) (hw : w.length ≤ 1000) (hds : DS g w D0) (hnew : lookT D0 (i, j) = none) (hD : ∀ a b, i ≤ a → a ≤ b → b ≤ j → ¬ (a = i ∧ b = j) → (lookT D0 (a, b)).isSome = true) (row0 : Row)
    (row : Row) (fr : Fr) (st : Store) (hi : FiI g w i j row0 row) (he : FiE g D0 i j row true fr st) :
    ∃ row' fr2 s2, ex (denT fnT 9) dChartFill_l1 fr st = some (.nx, fr2, s2) ∧ FiI g w i j row0 row' ∧ FiE g D0 i j row' false fr2 s2 ∧ ∀ p ∈ g.rs.zipIdx, FiC D0 i j p row' := by
  unfold dChartFill_l1
  rw [z_whl]
  refine wh_fix (FiE g D0 i j) (FiI g w i j row0) (fun row => ∀ p ∈ g.rs.zipIdx, FiC D0 i j p row) (Fim g) (fun _ => 0) (fun F k fr st he => ?_) (fun row fr st hi he => ?_) row fr st hi he
  · obtain ⟨rfl, a, b, c, d, rfl⟩ := he
    exact whc_var rfl
  · obtain ⟨rfl, a, b, c, d, rfl⟩ := he
    obtain ⟨row', k, fr2, s2, e1, e2, e3, e4, e5⟩ := fr_fix (F := fF) (asg := asgT (.tp [.nm 5, .tp [.nm 6, .nm 7]])) (b := fun fr st => exs (denT fnT 9) dChartFill_l2b fr st) (FiE g D0 i j) (FiI g w i j row0) (FiC D0 i j) (Fim g) (fun _ => 0) g.rs.zipIdx
      (fun p hp row k fr st hi he => fi_turn hg hs hij hj hw hds hnew hD row0 p (List.mem_zipIdx_iff_getElem?.mp hp) row k fr st hi he) row [some (.loc 0), some (.int i), some (.int j), some (.loc (2 + D0.length)), some (.bl false), a, b, c, d] (chS g (D0 ++ [((i, j), row)])) hi ⟨rfl, _, _, _, _, rfl⟩
    have em : g.rs.zipIdx.map fF = enumL 0 (g.rs.map rv) := by rw [map_enum]; rfl
    rw [em] at e1
    refine ⟨row', k, fr2, s2, ?_, e2, e3, fun e => ?_, e5⟩
    · simp [dChartFill_l1b, dChartFill_l2, z_frr, ch_ins, ch_rules, e1]
    · obtain ⟨h1, h2⟩ := e4 e
      intro p hp
      rw [h1]
      exact h2 p hp
theorem q9 {n : Nat} (h : 9 < n) {g : Gr} {w : List Int} {D0 : Dg} {i j : Nat} {row0 : Row} (hg : g.Nice) (hs : g.n + g.e ≤ 1000) (hij : i ≤ j) (hj : j ≤ w.length) (hw : w.length ≤ 1000) (hds : DS g w D0) (hdc : DC g w D0) (hnew : lookT D0 (i, j) = none) (hD : ∀ a b, i ≤ a → a ≤ b → b ≤ j → ¬ (a = i ∧ b = j) → (lookT D0 (a, b)).isSome = true)
    (h0 : RS g (sub w i j) (bs g i j) row0) (hen : ∀ s, sub w i j = [s] → (lookT row0 s).isSome = true) :
    ∃ row, denT fnT n 9 [.loc 0, .int i, .int j] (chS g (D0 ++ [((i, j), row0)])) = some (.non, chS g (D0 ++ [((i, j), row)])) ∧ DS g w (D0 ++ [((i, j), row)]) ∧ DC g w (D0 ++ [((i, j), row)]) := by
  obtain ⟨row, fr2, s2, e1, ⟨hr, hk⟩, ⟨rfl, a, b, c, d, rfl⟩, hc⟩ := fi_while hg hs hij hj hw hds hnew hD row0 row0 [some (.loc 0), some (.int i), some (.int j), some (.loc (2 + D0.length)), some (.bl true), none, none, none, none] (chS g (D0 ++ [((i, j), row0)])) ⟨h0, fun _ h => h⟩ ⟨rfl, _, _, _, _, rfl⟩
  refine ⟨row, ?_, fun x y r hl => ?_, fun x y r hl s hd => ?_⟩
  · rw [dChartFill_at h]
    have hp : ∀ (a b : Nat), PV.tup [.int a, .int b] = ppv (a, b) := fun a b => rfl
    have hi : idxP (.loc 1) (ppv (i, j)) (chS g (D0 ++ [((i, j), row0)])) = some (.loc (2 + D0.length)) := by
      refine idx_enc (ke := ppv) (ve := .loc) ppv_inj (t := true) (dctOf_loc rfl) kFor_ppv ?_
      rw [spn_app]
      have hn : lookT (spn 2 D0) (i, j) = none := by
        rw [lookT_none, spn_keys]
        exact lookT_none.mp hnew
      rw [← putT_new hn, lookT_put]
      simp
    simp [dChartFill, denF, ch_ins, ch_rows, hp, hi, e1]
  · rw [lookT_app hnew] at hl
    split at hl
    · rename_i e; cases e; cases hl; exact ⟨hij, hj, hr⟩
    · exact hds x y r hl
  · rw [lookT_app hnew] at hl
    split at hl
    · rename_i e; cases e; cases hl
      exact closed_whole hij hj hdc hnew hD (fun s hs => hk s (hen s hs)) (fun r hr' => by
        obtain ⟨k, hk'⟩ := List.mem_iff_getElem?.mp hr'
        exact hc (r, k) (List.mem_zipIdx_iff_getElem?.mpr hk')) s _ hd rfl
    · exact hdc x y r hl s hd
end K89
end

section
set_option Elab.async false
set_option linter.all false
set_option maxRecDepth 100000
set_option autoImplicit false
set_option maxHeartbeats 4000000
namespace K89
open PySem (Str)
open Pv

theorem ch_add {g : Gr} {D : Dg} {p : Nat × Nat} {row : Row} {fr : Fr} (hnew : lookT D p = none) (hnd : (D.map (·.1)).Nodup) (hz : D.length < SZ) : stI (.loc 1) (ppv p) (.loc (2 + D.length)) fr (chS g D ++ [.dct false (encR row)]) = some (.nx, fr, chS g (D ++ [(p, row)])) := by
  have h1 : (chS g D ++ [Cell.dct false (encR row)])[1]? = some (.dct true (encD ppv .loc (spn 2 D))) := rfl
  rw [stI_dct h1 kFor_ppv (by rw [encD_len, spn_len]; exact hz), put_enc ppv_inj _ (by rw [spn_keys]; exact hnd)]
  have hn : lookT (spn 2 D) p = none := by rw [lookT_none, spn_keys]; exact lookT_none.mp hnew
  rw [putT_new hn]
  unfold chS
  rw [spn_app]
  simp
theorem chS_len {g : Gr} {D : Dg} : (chS g D).length = 2 + D.length := by unfold chS; simp; omega
theorem idx_wv {w : List Int} {k : Nat} {x : Int} {st : Store} (h : w[k]? = some x) : idxP (wv w) (.int k) st = some (.int x) := by
  obtain ⟨hk, rfl⟩ := List.getElem?_eq_some_iff.mp h
  have h1 : ixOf w.length (k : Int) = some k := by unfold ixOf; rw [if_pos (by omega), if_pos (by omega)]; simp
  simp [wv, idxP, dctOf, seqOf, h1, hk]
structure CI (g : Gr) (w : List Int) (L s : Nat) (D : Dg) : Prop where
  ds : DS g w D
  dc : DC g w D
  nd : (D.map (·.1)).Nodup
  at_ : ∀ a b, (lookT D (a, b)).isSome = true ↔ (a ≤ b ∧ b ≤ w.length ∧ (b - a < L ∨ (b - a = L ∧ a < s)))
  len : D.length ≤ L * 1001 + s
theorem ci_turn {g : Gr} {w : List Int} (hg : g.Nice) (hs : g.n + g.e ≤ 1000) (hw : w.length ≤ 1000) (hE : InE g w) {L s : Nat} (h : s + L ≤ w.length) {D : Dg} (hi : CI g w L s D) {o : Option PV} :
    ∃ D', exs (denT fnT 10) dChartInit_l2b [some (.loc 0), some (grv g), some (wv w), some (.int L), some (.int s)] (chS g D) = some (.nx, [some (.loc 0), some (grv g), some (wv w), some (.int L), some (.int s)], chS g D') ∧ CI g w L (s + 1) D' := by
  have hnew : lookT D (s, s + L) = none := by
    have := hi.at_ s (s + L)
    cases e : lookT D (s, s + L) with
    | none => rfl
    | some r => rw [e] at this; have := this.mp rfl; omega
  have hD : ∀ a b, s ≤ a → a ≤ b → b ≤ s + L → ¬ (a = s ∧ b = s + L) → (lookT D (a, b)).isSome = true := fun a b h1 h2 h3 h4 => (hi.at_ a b).mpr ⟨h2, by omega, by omega⟩
  have hlen := hi.len
  have hz : D.length < SZ := by
    have : L * 1001 ≤ 1000 * 1001 := Nat.mul_le_mul_right _ (by omega)
    unfold SZ; omega
  have ek : ((s : Int) + (L : Int)) = ((s + L : Nat) : Int) := by simp
  have hp : ∀ (a b : Nat), PV.tup [.int a, .int b] = ppv (a, b) := fun a b => rfl
  have hlk : (chF g).lookup ("fill" : Str) = none := rfl
  have key : ∀ row0, RS g (sub w s (s + L)) (bs g s (s + L)) row0 → (∀ x, sub w s (s + L) = [x] → (lookT row0 x).isSome = true) →
      ev (denT fnT 10) (.ife (.cmp .eq (.var 3) (.con (.int 1))) (.dctd true false [(.idx (.var 2) (.var 4)), (.idx (.var 2) (.var 4))]) (.dctd true false [])) [some (.loc 0), some (grv g), some (wv w), some (.int L), some (.int s)] (chS g D) = some (.loc (2 + D.length), chS g D ++ [.dct false (encR row0)]) →
      ∃ D', exs (denT fnT 10) dChartInit_l2b [some (.loc 0), some (grv g), some (wv w), some (.int L), some (.int s)] (chS g D) = some (.nx, [some (.loc 0), some (grv g), some (wv w), some (.int L), some (.int s)], chS g D') ∧ CI g w L (s + 1) D' := by
    intro row0 hr hen hev
    obtain ⟨row, e, h1, h2⟩ := q9 (n := 10) (by decide) (w := w) (D0 := D) (i := s) (j := s + L) hg hs (by omega) h hw hi.ds hi.dc hnew hD hr hen
    refine ⟨D ++ [((s, s + L), row)], ?_, h1, h2, ?_, fun a b => ?_, ?_⟩
    · have hins : insOf (chS g D ++ [.dct false (encR row0)]) (.loc 0) = some (("Chart" : Str), chF g) := rfl
      have hadd := ch_add (g := g) (D := D) (p := (s, s + L)) (row := row0) (fr := [some (.loc 0), some (grv g), some (wv w), some (.int L), some (.int s)]) hnew hi.nd hz
      unfold dChartInit_l2b
      rw [z_s1, z_seti, hev]
      simp [hins, ch_rows, ek, hp, hadd, -Int.natCast_add, ch_ins, hlk, e]
    · rw [← putT_new hnew]; exact putT_nodup hi.nd
    · rw [lookT_app hnew]
      split
      · rename_i e; cases e; simp; omega
      · rename_i e
        have e' : ¬ (a = s ∧ b = s + L) := fun ⟨x, y⟩ => e (by rw [x, y])
        rw [hi.at_ a b]
        constructor
        · rintro ⟨x, y, z⟩; exact ⟨x, y, by omega⟩
        · rintro ⟨x, y, z⟩; exact ⟨x, y, by omega⟩
    · rw [List.length_append]; simp; omega
  by_cases hL : L = 1
  · subst hL
    obtain ⟨x, hx⟩ : ∃ x, w[s]? = some x := ⟨w[s]'(by omega), List.getElem?_eq_getElem (by omega)⟩
    have hsub := sub_one hx
    have hxe := hE x (List.mem_of_getElem? hx)
    refine key [(x, .int x)] ⟨by simp, fun y t ht => ?_⟩ (fun y hy => ?_) ?_
    · rw [lookT] at ht
      split at ht
      · rename_i e; cases ht; simp at e; subst e; rw [hsub]; exact .en hxe.1 hxe.2
      · cases ht
    · rw [hsub] at hy; cases hy; simp [lookT]
    · have hix := fun st => idx_wv (st := st) hx
      simp [hix, prs, dctL, mkD, put, chS_len, encR, encD]
  · have hl := sub_len (w := w) (i := s) (j := s + L) (by omega) h
    refine key [] ⟨by simp, fun y t ht => by cases ht⟩ (fun y hy => ?_) ?_
    · rw [hy] at hl; simp at hl; omega
    · have hL' : ¬ (L : Int) = 1 := by omega
      simp [hL', prs, dctL, mkD, chS_len, encR, encD]
theorem ci_inner {g : Gr} {w : List Int} (hg : g.Nice) (hs : g.n + g.e ≤ 1000) (hw : w.length ≤ 1000) (hE : InE g w) {L : Nat} (hL : L ≤ w.length) {D : Dg} (hi : CI g w L 0 D) {o : Option PV} :
    ∃ D' o', exs (denT fnT 10) dChartInit_l1b [some (.loc 0), some (grv g), some (wv w), some (.int L), o] (chS g D) = some (.nx, [some (.loc 0), some (grv g), some (wv w), some (.int L), o'], chS g D') ∧ CI g w (L + 1) 0 D' := by
  obtain ⟨fr', s', e, D', o', rfl, rfl, hi'⟩ := fr_go (F := fun m : Nat => PV.int m) (asg := asgT (.nm 4)) (b := fun fr st => exs (denT fnT 10) dChartInit_l2b fr st) (List.range (w.length + 1 - L))
    (fun l fr st => ∃ D o, fr = [some (.loc 0), some (grv g), some (wv w), some (.int L), o] ∧ st = chS g D ∧ CI g w L l.length D) (fun l x r fr st hl hI => by
      obtain ⟨D, o, rfl, rfl, hi⟩ := hI
      have hx : x = l.length := by
        have : (List.range (w.length + 1 - L))[l.length]? = some x := by rw [hl, List.getElem?_append_right (Nat.le_refl _)]; simp
        rw [List.getElem?_range (by
          have := congrArg List.length hl
          rw [List.length_range, List.length_append, List.length_cons] at this
          omega)] at this
        cases this; rfl
      have hlt : l.length < w.length + 1 - L := by
        have := congrArg List.length hl
        rw [List.length_range, List.length_append, List.length_cons] at this
        omega
      subst hx
      obtain ⟨D', e, hi'⟩ := ci_turn hg hs hw hE (s := l.length) (by omega) hi (o := o)
      exact ⟨_, _, _, rfl, e, D', _, rfl, rfl, by rw [List.length_append]; exact hi'⟩) [some (.loc 0), some (grv g), some (wv w), some (.int L), o] (chS g D) ⟨D, o, rfl, rfl, hi⟩
  refine ⟨D', o', ?_, hi'.ds, hi'.dc, hi'.nd, fun a b => ?_, ?_⟩
  · have hk : kR1 (.int ((w.length : Int) + 1 - (L : Int))) (chS g D) = some ((List.range (w.length + 1 - L)).map fun m : Nat => PV.int m, chS g D) := by
      have := kR1_nat (j := w.length + 1 - L) (s := chS g D) (by omega)
      rw [← this]
      congr 2
      omega
    simp [dChartInit_l1b, dChartInit_l2, z_frr, hk, e]
  · rw [hi'.at_ a b, List.length_range]
    constructor
    · rintro ⟨x, y, z⟩; exact ⟨x, y, by omega⟩
    · rintro ⟨x, y, z⟩; exact ⟨x, y, by omega⟩
  · have := hi'.len
    rw [List.length_range] at this
    omega
theorem q10 {n : Nat} (h : 10 < n) {g : Gr} {w : List Int} (hg : g.Nice) (hs : g.n + g.e ≤ 1000) (hw : w.length ≤ 1000) (hE : InE g w) :
    ∃ D, denT fnT n 10 [.loc 0, grv g, wv w] [.ins "Chart" []] = some (.non, chS g D) ∧ DS g w D ∧ DC g w D ∧ ∀ a b, a ≤ b → b ≤ w.length → (lookT D (a, b)).isSome = true := by
  have hi0 : CI g w 0 0 [] := ⟨fun a b r h => (by cases h), fun a b r h => (by cases h), List.nodup_nil, fun a b => (by simp [lookT]), Nat.zero_le _⟩
  obtain ⟨fr', s', e, D', a, b, rfl, rfl, hi'⟩ := fr_go (F := fun m : Nat => PV.int m) (asg := asgT (.nm 3)) (b := fun fr st => exs (denT fnT 10) dChartInit_l1b fr st) (List.range (w.length + 1))
    (fun l fr st => ∃ D a b, fr = [some (.loc 0), some (grv g), some (wv w), a, b] ∧ st = chS g D ∧ CI g w l.length 0 D) (fun l x r fr st hl hI => by
      obtain ⟨D, a, b, rfl, rfl, hi⟩ := hI
      have hlt : l.length < w.length + 1 := by
        have := congrArg List.length hl
        rw [List.length_range, List.length_append, List.length_cons] at this
        omega
      have hx : x = l.length := by
        have : (List.range (w.length + 1))[l.length]? = some x := by rw [hl, List.getElem?_append_right (Nat.le_refl _)]; simp
        rw [List.getElem?_range hlt] at this
        cases this; rfl
      subst hx
      obtain ⟨D', o', e, hi'⟩ := ci_inner hg hs hw hE (L := l.length) (by omega) hi (o := b)
      exact ⟨_, _, _, rfl, e, D', _, _, rfl, rfl, by rw [List.length_append]; exact hi'⟩) [some (.loc 0), some (grv g), some (wv w), none, none] (chS g []) ⟨[], none, none, rfl, rfl, hi0⟩
  refine ⟨D', ?_, hi'.ds, hi'.dc, fun a b h1 h2 => (hi'.at_ a b).mpr ⟨h1, h2, by rw [List.length_range]; omega⟩⟩
  rw [dChartInit_at h]
  have hk : kR1 (.int ((w.length : Int) + 1)) (chS g []) = some ((List.range (w.length + 1)).map fun m : Nat => PV.int m, chS g []) := kR1_nat (j := w.length + 1) (by omega)
  have s1 : ∀ v fr, stF "rules" (.loc 0) v fr [.ins "Chart" []] = some (.nx, fr, [.ins "Chart" [("rules", v)]]) := fun v fr => by
    rw [stF_ins (c := "Chart") (fs := []) rfl (by decide)]; rfl
  have s2 : ∀ v fr, stF "rows" (.loc 0) (.loc 1) fr [.ins "Chart" [("rules", v)], .dct true []] = some (.nx, fr, [.ins "Chart" [("rules", v), ("rows", .loc 1)], .dct true []]) := fun v fr => by
    rw [stF_ins (c := "Chart") (fs := ([("rules", v)] : List (Str × PV))) rfl (by simp)]
    have e : putF "rows" (.loc 1) [("rules", v)] = ([("rules", v), ("rows", .loc 1)] : List (Str × PV)) := by
      have : ¬ ("rules" : Str) = "rows" := by decide
      simp [putF, this]
    rw [e]; rfl
  have hc0 : chS g [] = [.ins "Chart" [("rules", .tup (g.rs.map rv)), ("rows", .loc 1)], .dct true []] := rfl
  rw [hc0] at hk e
  simp [dChartInit, denF, g_at, s1, prs, dctL, mkD, s2, dChartInit_l1, z_frr, hk, e]
end K89
end

section
set_option Elab.async false
set_option linter.all false
set_option maxRecDepth 100000
set_option autoImplicit false
set_option maxHeartbeats 4000000
namespace K89
open PySem (Str)
open Pv

theorem lf_grv {g : Gr} : lf (grv g) = true := by
  simp only [grv, lf, lfL, Bool.and_true, Bool.true_and]
  refine lfL_of fun x hx => ?_
  obtain ⟨r, _, rfl⟩ := List.mem_map.mp hx
  simp [rv, lf, lfL, lf_wv]
theorem chart0 {n : Nat} (h : 10 < n) {g : Gr} {w : List Int} {fr : Fr} {a b : CE} (hg : g.Nice) (hs : g.n + g.e ≤ 1000) (hw : w.length ≤ 1000) (hE : InE g w)
    (ha : ev (denT fnT n) a fr [] = some (grv g, [])) (hb : ev (denT fnT n) b fr [] = some (wv w, [])) :
    ∃ D, ev (denT fnT n) (.fld (.mk 10 "Chart" [a, b]) "rows") fr [] = some (.loc 1, chS g D) ∧ DS g w D ∧ DC g w D ∧ ∀ a b, a ≤ b → b ≤ w.length → (lookT D (a, b)).isSome = true := by
  obtain ⟨D, e, h1, h2, h3⟩ := q10 (n := n) h hg hs hw hE
  refine ⟨D, ?_, h1, h2, h3⟩
  simp [ha, hb, e, ch_ins, ch_rows]
theorem q17 {n : Nat} (h : 17 < n) {g : Gr} {w : List Int} {s : Int} {st : Store} (hg : g.Nice) (hs : g.n + g.e ≤ 1000) (hw : w.length ≤ 1000) (hE : InE g w) :
    ∃ v, denT fnT n 17 [grv g, .int s, wv w] st = some (v, st) ∧ ((v = .non ∧ ¬ Der g s w) ∨ ∃ d, Tr g s w d v) := by
  obtain ⟨D, e, hds, hdc, hall⟩ := chart0 (n := 17) (by decide) (g := g) (w := w) (fr := [some (grv g), some (.int s), some (wv w)]) (a := .var 0) (b := .var 2) hg hs hw hE (by simp) (by simp)
  obtain ⟨row, hrow⟩ := Option.isSome_iff_exists.mp (hall 0 w.length (Nat.zero_le _) (Nat.le_refl _))
  obtain ⟨k, hk1, hk2⟩ := ch_row (g := g) hrow
  have hdk : dctOf (chS g D) (.loc k) = some (false, encR row) := dctOf_loc hk2
  have hbt : bmT .get1 (.loc k) (chS g D) = true := by simp [bmT, hdk]
  have hget : bmP .get1 (.loc k) [.int s] (chS g D) = some (((lookT row s).map id).getD .non, chS g D) := get1_enc (ke := .int) (ve := id) int_inj hdk rfl
  have hp : PV.tup [.int 0, .int w.length] = ppv (0, w.length) := rfl
  have hlg : lfL [grv g, .int s, wv w] = true := by simp [lfL, lf_grv, lf_wv, lf]
  have hb : runB (denT fnT 17) dTreeOf.body [some (grv g), some (.int s), some (wv w)] [] = some (((lookT row s).map id).getD .non, chS g D) := by
    unfold dTreeOf
    rw [z_runB, z_s1, z_ret, z_bm, z_idx, e]
    simp [hp, hk1, hbt, hget]
  rw [dTreeOf_at h]
  cases hl : lookT row s with
  | none =>
    rw [hl] at hb
    refine ⟨.non, denF_own hb rfl rfl hlg rfl, .inl ⟨rfl, fun d => ?_⟩⟩
    · have := hdc 0 w.length row hrow s (by rw [sub_all]; exact d)
      rw [hl] at this
      cases this
  | some t =>
    have htr := (hds 0 w.length row hrow).2.2.tr s t hl
    rw [sub_all] at htr
    rw [hl] at hb
    exact ⟨t, denF_own hb rfl rfl hlg htr.lf, .inr ⟨_, htr⟩⟩
open Classical in
theorem q24 {n : Nat} (h : 24 < n) {g : Gr} {w : List Int} {s : Int} {st : Store} (hk : g.Ok) (h0 : 0 ≤ s) (h1 : s < g.n) (hs : g.n + g.e ≤ 1000) (hw : w.length ≤ 1000) (hE : InE g w) :
    denT fnT n 24 [grv g, .int s, wv w] st = some (.bl (decide (Der g s w)), st) := by
  obtain ⟨v, e, hor⟩ := q17 (n := 24) (by decide) (s := s) (st := st) hk.nice hs hw hE
  rw [dIsOf_at h]
  have hsp := q16 (n := 24) (by decide) (g := g) (i := s) (w := w) (st := st) hk h0 h1 hw fun x hx => by have := hE x hx; omega
  rcases hor with ⟨rfl, hn⟩ | ⟨d, ht⟩
  · simp [dIsOf, denF, hsp, e, hn]
  · simp [dIsOf, denF, hsp, e, ht.der, cmp_isn_nn ht.nn]
end K89
end

section
set_option Elab.async false
set_option linter.all false
set_option maxRecDepth 100000
set_option autoImplicit false
set_option maxHeartbeats 4000000
/-! units_of -/
namespace K89
open PySem (Str)
open Pv

def idxs (N : Nat) : List (Int × Nat) := (List.range N).map fun k : Nat => ((k : Int), k)
def uS (U : List (List Int)) : Store := U.map (fun l => Cell.dct false (encS .int l)) ++ [Cell.dct false (encD .int .loc (idxs U.length))]
def uat (U : List (List Int)) (s : Int) : List Int := U.getD s.toNat []
theorem idxs_nodup {N : Nat} : ((idxs N).map (·.1)).Nodup := by
  unfold idxs
  rw [List.map_map]
  refine List.pairwise_map.mpr (List.Pairwise.imp (fun {a b} h e => h ?_) (List.nodup_range (n := N)))
  have e : (a : Int) = (b : Int) := e
  omega
theorem idxs_look {N : Nat} {s : Int} (h0 : 0 ≤ s) (h1 : s < N) : lookT (idxs N) s = some s.toNat :=
  lookT_of_mem idxs_nodup (List.mem_map.mpr ⟨s.toNat, by rw [List.mem_range]; omega, by rw [show ((s.toNat : Nat) : Int) = s by omega]⟩)
theorem uS_out {U : List (List Int)} : (uS U)[U.length]? = some (.dct false (encD .int .loc (idxs U.length))) := by
  unfold uS
  rw [List.getElem?_append_right (by simp)]
  simp
theorem uS_in {U : List (List Int)} {s : Int} (h0 : 0 ≤ s) (h1 : s < U.length) : (uS U)[s.toNat]? = some (.dct false (encS .int (uat U s))) := by
  unfold uS uat
  have : s.toNat < U.length := by omega
  rw [List.getElem?_append_left (by simpa using this), List.getElem?_map, List.getElem?_eq_getElem this, List.getD_eq_getElem?_getD, List.getElem?_eq_getElem this]
  rfl
theorem uS_set {U : List (List Int)} {s : Int} {l : List Int} (h0 : 0 ≤ s) (h1 : s < U.length) : (uS U).set s.toNat (.dct false (encS .int l)) = uS (U.set s.toNat l) := by
  unfold uS
  have : s.toNat < U.length := by omega
  rw [List.set_append_left _ _ (by simpa using this), List.map_set, List.length_set]
theorem uat_set {U : List (List Int)} {s t : Int} {l : List Int} (h0 : 0 ≤ s) (h1 : s < U.length) (h2 : 0 ≤ t) : uat (U.set s.toNat l) t = if t = s then l else uat U t := by
  unfold uat
  rw [List.getD_eq_getElem?_getD, List.getD_eq_getElem?_getD, List.getElem?_set]
  by_cases h : t = s
  · subst h; rw [if_pos rfl, if_pos rfl, if_pos (by omega)]; rfl
  · rw [if_neg h, if_neg (by omega)]
theorem uS_noD {U : List (List Int)} : (uS U).all noDC = true := by
  have h1 : ∀ l : List Int, noDC (.dct false (encS .int l)) = true := fun l => by
    have : ∀ l : List Int, noDL ((encS .int l).map (·.1)) = true ∧ noDL ((encS .int l).map (·.2)) = true := fun l => by
      induction l with
      | nil => exact ⟨rfl, rfl⟩
      | cons a l ih => simpa [encS, noDL, noD] using ih
    simp [noDC, this l]
  have h2 : ∀ l : List (Int × Nat), noDL ((encD .int .loc l).map (·.1)) = true ∧ noDL ((encD .int .loc l).map (·.2)) = true := fun l => by
    induction l with
    | nil => exact ⟨rfl, rfl⟩
    | cons a l ih => simpa [encD, noDL, noD] using ih
  unfold uS
  rw [List.all_append, Bool.and_eq_true]
  refine ⟨?_, by simp [noDC, h2]⟩
  rw [List.all_eq_true]
  intro c hc
  obtain ⟨l, _, rfl⟩ := List.mem_map.mp hc
  exact h1 l
/-- what may be empty -/
def Nul (g : Gr) (row : Row) : Prop := ∀ s, (lookT row s).isSome = true ↔ Der g s []
structure UI (g : Gr) (U : List (List Int)) : Prop where
  len : U.length = (g.n + g.e).toNat
  nd : ∀ s, 0 ≤ s → s < g.n + g.e → (uat U s).Nodup
  snd : ∀ s, 0 ≤ s → s < g.n + g.e → ∀ t ∈ uat U s, (0 ≤ t ∧ t < g.n + g.e) ∧ ∀ w, Der g t w → Der g s w
  self : ∀ s, 0 ≤ s → s < g.n + g.e → s ∈ uat U s
theorem UI.few {g : Gr} {U : List (List Int)} (h : UI g U) {s : Int} (h0 : 0 ≤ s) (h1 : s < g.n + g.e) : (uat U s).length ≤ (g.n + g.e).toNat := by
  have := nodup_len (uat U s) (rngI 0 (g.n + g.e)) (h.nd s h0 h1) fun x hx => mem_rngI.mpr (h.snd s h0 h1 x hx).1
  rw [rngI_len] at this
  simpa using this
def uP (g : Gr) : List (Int × Int) := (rngI 0 (g.n + g.e)).flatMap fun s => (rngI 0 (g.n + g.e)).map fun t => (s, t)
def Um (g : Gr) (U : List (List Int)) : Nat := (uP g).countP fun p => !decide (p.2 ∈ uat U p.1)
def UCp (g : Gr) (row : Row) (a : Int) (ws : List Int) (p : Int × Nat) (U : List (List Int)) : Prop := (∀ o ∈ ws.eraseIdx p.2, (lookT row o).isSome = true) → ∀ t ∈ uat U p.1, t ∈ uat U a
def UC (g : Gr) (row : Row) (r : Ru) (U : List (List Int)) : Prop := ∀ p ∈ r.2.zipIdx, UCp g row r.1 r.2 p U
def UE (g : Gr) (row : Row) (U : List (List Int)) (k : Bool) (fr : Fr) (st : Store) : Prop :=
  st = uS U ∧ ∃ a b c d e, fr = [some (grv g), some (.dct false (encR row)), some (.loc (g.n + g.e).toNat), some (.bl k), a, b, c, d, e, none, none]
def UEi (g : Gr) (row : Row) (nm : Int) (ws : List Int) (U : List (List Int)) (k : Bool) (fr : Fr) (st : Store) : Prop :=
  st = uS U ∧ ∃ c d e, fr = [some (grv g), some (.dct false (encR row)), some (.loc (g.n + g.e).toNat), some (.bl k), some (.int nm), some (wv ws), c, d, e, none, none]
def uF (p : Int × Nat) : PV := .tup [.int p.2, .int p.1]
theorem cut_to {l : List Int} {p : Nat} : cut (l.map PV.int) none (some (p : Int)) = (l.take p).map .int := by
  unfold cut clip
  simp only [List.drop_zero, Nat.sub_zero, List.length_map]
  rw [if_neg (by omega), List.map_take]
  by_cases h : p ≤ l.length
  · rw [Nat.min_eq_left (by omega)]; rfl
  · rw [Nat.min_eq_right (by omega), List.take_of_length_le (by simp), List.take_of_length_le (by simp; omega)]
theorem cut_from {l : List Int} {p : Nat} : cut (l.map PV.int) (some ((p : Int) + 1)) none = (l.drop (p + 1)).map .int := by
  unfold cut clip
  simp only [List.length_map]
  rw [if_neg (by omega), List.map_drop]
  by_cases h : p + 1 ≤ l.length
  · rw [Nat.min_eq_left (by omega), List.take_of_length_le (by simp)]; rfl
  · rw [Nat.min_eq_right (by omega), List.drop_of_length_le (by simp), List.drop_of_length_le (by simp; omega)]; simp
theorem slc_to {l : List Int} {p : Nat} {st : Store} : slcP (wv l) none (some (p : Int)) st = some (wv (l.take p)) := by
  show some (PV.tup (cut (l.map .int) none (some (p : Int)))) = _
  rw [cut_to]; rfl
theorem slc_from {l : List Int} {p : Nat} {st : Store} : slcP (wv l) (some ((p : Int) + 1)) none st = some (wv (l.drop (p + 1))) := by
  show some (PV.tup (cut (l.map .int) (some ((p : Int) + 1)) none)) = _
  rw [cut_from]; rfl
theorem cmp_ne_lst0 {l : List Int} {st : Store} : cmpP .ne (.lst (l.map .int)) (.lst []) st = some (!decide (l = [])) := by
  have : isD 30 (.lst (l.map PV.int)) = true := by rw [isD]; exact isDL_int 29 l
  cases l with
  | nil => simp [cmpP, dv, both, isD, isDL, eqv, eqvL]
  | cons a l =>
    simp only [cmpP, dv, both, this, show isD 30 (.lst []) = true from rfl, Bool.and_self, if_true]
    simp [eqv, eqvL]
/-- a unit step -/
theorem unit_der {g : Gr} {row : Row} (hg : g.Nice) (hn : Nul g row) {a s : Int} {ws : List Int} {p : Nat} (hr : (a, ws) ∈ g.rs) (hp : ws[p]? = some s) (ho : ∀ o ∈ ws.eraseIdx p, (lookT row o).isSome = true) {w : List Int} (d : Der g s w) : Der g a w := by
  refine Ders.rule hg hr ?_
  match ws, hp, ho with
  | [], hp, _ => simp at hp
  | [x], hp, ho =>
    cases p with
    | zero => simp at hp; subst hp; exact Ders.one.mpr d
    | succ p => simp at hp
  | [x, y], hp, ho =>
    match p, hp, ho with
    | 0, hp, ho =>
      simp at hp; subst hp
      have := (hn y).mp (ho y (by simp))
      exact ⟨w, [], by simp, d, Ders.one.mpr this⟩
    | 1, hp, ho =>
      simp at hp; subst hp
      have := (hn x).mp (ho x (by simp))
      exact ⟨[], w, by simp, this, Ders.one.mpr d⟩
    | p + 2, hp, _ => simp at hp
  | x :: y :: z :: r, hp, ho => have := (hg.rng _ hr).2.2.2; simp at this
theorem u_place {g : Gr} {row : Row} (hg : g.Nice) (hs : g.n + g.e ≤ 1000) (hn : Nul g row) {nm : Int} {ws : List Int} (hr : (nm, ws) ∈ g.rs) (p : Int × Nat) (hp : ws[p.2]? = some p.1) (U : List (List Int)) (k : Bool) (fr : Fr) (st : Store) (hi : UI g U) (he : UEi g row nm ws U k fr st) :
    ∃ fr1 U' k' fr2 s2, asgT (.tp [.nm 6, .nm 7]) (uF p) fr = some fr1 ∧ exs (denT fnT 20) dUnitsOf_l3b fr1 st = some (.nx, fr2, s2) ∧ UI g U' ∧ UEi g row nm ws U' k' fr2 s2 ∧ ((U' = U ∧ k' = k ∧ UCp g row nm ws p U) ∨ (k' = true ∧ (Um g U' < Um g U ∨ (Um g U' = Um g U ∧ 0 < 0)))) := by
  obtain ⟨rfl, c, d, e, rfl⟩ := he
  obtain ⟨s, ix⟩ := p
  simp only at hp
  have hrng := hg.rng _ hr
  simp only at hrng
  have hsr := hrng.2.2.1 s (List.mem_of_getElem? hp)
  have hnm : 0 ≤ nm ∧ nm < g.n + g.e := by have := hg.e1; omega
  have hul : ((U.length : Nat) : Int) = g.n + g.e := by rw [hi.len]; omega
  refine ⟨[some (grv g), some (.dct false (encR row)), some (.loc (g.n + g.e).toNat), some (.bl k), some (.int nm), some (wv ws), some (.int ix), some (.int s), e, none, none], ?_⟩
  have hc2 : ev (denT fnT 20) dUnitsOf_c2 [some (grv g), some (.dct false (encR row)), some (.loc (g.n + g.e).toNat), some (.bl k), some (.int nm), some (wv ws), some (.int ix), some (.int s), e, none, none] (uS U) = some (.lst ((ws.eraseIdx ix).map fun o => .bl (lookT row o).isSome), uS U) := by
    have hz : (ws.eraseIdx ix).length ≤ 2 := Nat.le_trans (by have := List.length_eraseIdx_le ws ix; exact this) hrng.2.2.2
    have hlt : (ws.take ix).length + (ws.drop (ix + 1)).length ≤ SZ := by
      have h1 := hrng.2.2.2
      rw [List.length_take, List.length_drop]; unfold SZ; omega
    refine ev_lcmT (xs := ws.eraseIdx ix) .int (fun o => .bl (lookT row o).isSome) ?_ (fun x hx => ⟨_, rfl, ?_⟩) (by unfold SZ; omega)
    · simp [slc_to, slc_from, sliP, bin_wv hlt, ← List.eraseIdx_eq_take_drop_succ]
    · have := in_enc (ke := .int) (ve := id) (F := row) (t := false) (x := .dct false (encR row)) (st := uS U) int_inj dctOf_val (a := x) rfl
      simp [wipeF, this]
  cases hall : (ws.eraseIdx ix).all fun o => (lookT row o).isSome with
  | false =>
    refine ⟨U, k, [some (grv g), some (.dct false (encR row)), some (.loc (g.n + g.e).toNat), some (.bl k), some (.int nm), some (wv ws), some (.int ix), some (.int s), e, none, none], uS U, rfl, ?_, hi, ⟨rfl, _, _, _, rfl⟩, .inl ⟨rfl, rfl, fun h => ?_⟩⟩
    · simp [dUnitsOf_l3b, hc2, b_all, hall]
    · have := List.all_eq_true.mpr h
      simp only at this
      rw [hall] at this
      cases this
  | true =>
    have hno := List.all_eq_true.mp hall
    have hgl : (g.n + g.e).toNat = U.length := hi.len.symm
    have hout : dctOf (uS U) (.loc (g.n + g.e).toNat) = some (false, encD .int .loc (idxs U.length)) := by rw [hgl]; exact dctOf_loc uS_out
    have hix : ∀ x : Int, 0 ≤ x → x < g.n + g.e → idxP (.loc (g.n + g.e).toNat) (.int x) (uS U) = some (.loc x.toNat) := fun x h0 h1 => idx_enc (ke := .int) (ve := .loc) int_inj hout rfl (idxs_look h0 (by omega))
    have hcs := uS_in (U := U) hsr.1 (by omega)
    have hca := uS_in (U := U) hnm.1 (by omega)
    have hfa := hi.few hnm.1 hnm.2
    have hfs := hi.few hsr.1 hsr.2
    have hc3 : ev (denT fnT 20) dUnitsOf_c3 [some (grv g), some (.dct false (encR row)), some (.loc (g.n + g.e).toNat), some (.bl k), some (.int nm), some (wv ws), some (.int ix), some (.int s), e, none, none] (uS U) = some (.lst (((uat U s).filter fun t => !decide (t ∈ uat U nm)).map .int), uS U) := by
      refine ev_lclT (xs := uat U s) .int (fun t => !decide (t ∈ uat U nm)) .int (by simp [hix s hsr.1 hsr.2]) hcs (encS_keys _) uS_noD (fun x hx => ⟨_, rfl, ?_, fun _ => ?_⟩) (fun _ _ _ => rfl) (by unfold SZ; omega)
      · have hout2 : dctOf ((uS U).set s.toNat (.lck false (encS .int (uat U s)))) (.loc (g.n + g.e).toNat) = some (false, encD .int .loc (idxs U.length)) := by
          rw [hgl]
          refine dctOf_loc ?_
          rw [List.getElem?_set_ne (by omega)]
          exact uS_out
        have hix2 : idxP (.loc (g.n + g.e).toNat) (.int nm) ((uS U).set s.toNat (.lck false (encS .int (uat U s)))) = some (.loc nm.toNat) := idx_enc (ke := .int) (ve := .loc) int_inj hout2 rfl (idxs_look hnm.1 (by omega))
        have hda : dctOf ((uS U).set s.toNat (.lck false (encS .int (uat U s)))) (.loc nm.toNat) = some (false, encS .int (uat U nm)) := by
          by_cases h : s = nm
          · subst h
            refine dctOf_lck ?_
            rw [List.getElem?_set_self (by rw [uS, List.length_append, List.length_map]; omega)]
          · refine dctOf_loc ?_
            rw [List.getElem?_set_ne (by omega)]
            exact hca
        have hin := nin_encS (ke := .int) int_inj hda (a := x) rfl
        simp [wipeF, hix2, hin]
      · simp [wipeF]
    generalize hmore : (uat U s).filter (fun t => !decide (t ∈ uat U nm)) = more at hc3
    have hml : more.length ≤ 1000 := by rw [← hmore]; exact Nat.le_trans (List.length_filter_le ..) (by omega)
    have hc4 : ∀ k : Bool, ev (denT fnT 20) dUnitsOf_c4 [some (grv g), some (.dct false (encR row)), some (.loc (g.n + g.e).toNat), some (.bl k), some (.int nm), some (wv ws), some (.int ix), some (.int s), some (.lst (more.map .int)), none, none] (uS U) = some (.dct false (encS .int (addS [] more)), uS U) := fun k => by
      unfold dUnitsOf_c4
      rw [ev_dcT (xs := more) (s1 := uS U) .int .int (fun _ => .bl true) (by simp) (fun x hx => ⟨_, rfl, by simp [wipeF], by simp [wipeF], rfl⟩) (by unfold SZ; omega)]
      have := dctL_encS (ke := .int) int_inj more
      unfold encS at this ⊢
      rw [this]
      rfl
    have hbt : bmT .upd (.loc nm.toNat) (uS U) = true := by simp [bmT, dctOf_loc hca]
    have hupd : bmP .upd (.loc nm.toNat) [.dct false (encS .int (addS [] more))] (uS U) = some (.non, uS (U.set nm.toNat (addS (uat U nm) (addS [] more)))) := by
      have hz : (encS PV.int (uat U nm)).length + (encS PV.int (addS [] more)).length ≤ SZ := by
        rw [encS_len, encS_len]
        have := addS_len (l := []) (m := more)
        simp at this
        unfold SZ
        omega
      have e1 : bmP .upd (.loc nm.toNat) [.dct false (encS .int (addS [] more))] (uS U) = updP (.loc nm.toNat) false (encS .int (addS [] more)) (uS U) := rfl
      rw [e1]
      unfold updP
      simp only [hca, hz, true_or, and_self, if_true]
      rw [fold_encS int_inj, uS_set hnm.1 (by omega)]
    have hne : ∀ st, cmpP .ne (.lst (more.map .int)) (.lst []) st = some (!decide (more = [])) := fun st => cmp_ne_lst0
    have hmk : ∀ st, mkL false [] st = some (.lst [], st) := fun st => mkL_false (by decide)
    cases hm0 : more with
    | nil =>
      subst hm0
      have hU : uS (U.set nm.toNat (addS (uat U nm) (addS [] []))) = uS U := by
        have : addS (uat U nm) (addS [] []) = uat U nm := rfl
        rw [this, ← uS_set hnm.1 (by omega)]
        exact set_same hca
      rw [hU] at hupd
      refine ⟨U, k, [some (grv g), some (.dct false (encR row)), some (.loc (g.n + g.e).toNat), some (.bl k), some (.int nm), some (wv ws), some (.int ix), some (.int s), some (.lst []), none, none], uS U, rfl, ?_, hi, ⟨rfl, _, _, _, rfl⟩, .inl ⟨rfl, rfl, fun _ t ht => ?_⟩⟩
      · rw [List.map_nil] at hc3
        simp only [List.map_nil] at hc4 hne
        cases k <;> simp [dUnitsOf_l3b, hc2, b_all, hall, hc3, hix nm hnm.1 hnm.2, hbt, hc4, hupd, hne, hmk]
      · have : t ∉ (uat U s).filter (fun t => !decide (t ∈ uat U nm)) := by rw [hmore]; simp
        rw [List.mem_filter] at this
        by_cases h : t ∈ uat U nm
        · exact h
        · exact absurd ⟨ht, by simp [h]⟩ this
    | cons t0 more' =>
      have ht0 : t0 ∈ uat U s ∧ t0 ∉ uat U nm := by
        have : t0 ∈ (uat U s).filter (fun t => !decide (t ∈ uat U nm)) := by rw [hmore, hm0]; exact List.mem_cons_self ..
        rw [List.mem_filter] at this
        exact ⟨this.1, by simpa using this.2⟩
      have hmem : ∀ t, t ∈ addS (uat U nm) (addS [] more) ↔ t ∈ uat U nm ∨ t ∈ uat U s := fun t => by
        rw [mem_addS, mem_addS, ← hmore, List.mem_filter]
        by_cases h : t ∈ uat U nm <;> simp [h]
      have hua : ∀ x, 0 ≤ x → uat (U.set nm.toNat (addS (uat U nm) (addS [] more))) x = if x = nm then addS (uat U nm) (addS [] more) else uat U x := fun x h0 => uat_set hnm.1 (by omega) h0
      have hnil : ¬ more = [] := by rw [hm0]; simp
      refine ⟨U.set nm.toNat (addS (uat U nm) (addS [] more)), true, [some (grv g), some (.dct false (encR row)), some (.loc (g.n + g.e).toNat), some (.bl true), some (.int nm), some (wv ws), some (.int ix), some (.int s), some (.lst (more.map .int)), none, none], uS (U.set nm.toNat (addS (uat U nm) (addS [] more))), rfl, ?_, ⟨?_, fun x h0 h1 => ?_, fun x h0 h1 t ht => ?_, fun x h0 h1 => ?_⟩, ⟨rfl, _, _, _, rfl⟩, .inr ⟨rfl, .inl ?_⟩⟩
      · cases k <;> simp [dUnitsOf_l3b, hc2, b_all, hall, hc3, hix nm hnm.1 hnm.2, hbt, hc4, hupd, hne, hmk, hnil]
      · rw [List.length_set]; exact hi.len
      · rw [hua x h0]
        split
        · exact addS_nodup (hi.nd nm hnm.1 hnm.2)
        · exact hi.nd x h0 h1
      · rw [hua x h0] at ht
        split at ht
        · rename_i ex
          subst ex
          rcases (hmem t).mp ht with ht | ht
          · exact hi.snd x h0 h1 t ht
          · have := hi.snd s hsr.1 hsr.2 t ht
            exact ⟨this.1, fun w d => unit_der hg hn hr hp hno (this.2 w d)⟩
        · exact hi.snd x h0 h1 t ht
      · rw [hua x h0]
        split
        · rename_i ex; subst ex; exact (hmem x).mpr (.inl (hi.self x h0 h1))
        · exact hi.self x h0 h1
      · have hpm : (nm, t0) ∈ uP g := by
          unfold uP
          rw [List.mem_flatMap]
          exact ⟨nm, mem_rngI.mpr hnm, List.mem_map.mpr ⟨t0, mem_rngI.mpr (hi.snd s hsr.1 hsr.2 t0 ht0.1).1, rfl⟩⟩
        refine countP_lt (fun p hp hq => ?_) hpm (by simp [ht0.2]) ?_
        · obtain ⟨x, t⟩ := p
          unfold uP at hp
          rw [List.mem_flatMap] at hp
          obtain ⟨x', hx', hp⟩ := hp
          obtain ⟨t', _, e⟩ := List.mem_map.mp hp
          cases e
          have hx := mem_rngI.mp hx'
          simp only [hua x hx.1] at hq
          split at hq
          · rename_i ex
            subst ex
            simp only [hmem, Bool.not_eq_true', decide_eq_false_iff_not, not_or] at hq ⊢
            exact hq.1
          · exact hq
        · simp only [hua nm hnm.1, if_true, hmem, ht0.1, or_true, decide_true, Bool.not_true]
theorem u_rule {g : Gr} {row : Row} (hg : g.Nice) (hs : g.n + g.e ≤ 1000) (hn : Nul g row) (r : Ru) (hr : r ∈ g.rs) (U : List (List Int)) (k : Bool) (fr : Fr) (st : Store) (hi : UI g U) (he : UE g row U k fr st) :
    ∃ fr1 U' k' fr2 s2, asgT (.tp [.nm 4, .nm 5]) (rv r) fr = some fr1 ∧ exs (denT fnT 20) dUnitsOf_l2b fr1 st = some (.nx, fr2, s2) ∧ UI g U' ∧ UE g row U' k' fr2 s2 ∧ ((U' = U ∧ k' = k ∧ UC g row r U) ∨ (k' = true ∧ (Um g U' < Um g U ∨ (Um g U' = Um g U ∧ 0 < 0)))) := by
  obtain ⟨rfl, a, b, c, d, e, rfl⟩ := he
  obtain ⟨nm, ws⟩ := r
  obtain ⟨U', k', fr2, s2, e1, e2, ⟨rfl, c', d', e', rfl⟩, hor⟩ := fr_fixk (F := uF) (asg := asgT (.tp [.nm 6, .nm 7])) (b := fun fr st => exs (denT fnT 20) dUnitsOf_l3b fr st) (UEi g row nm ws) (UI g) (UCp g row nm ws) (Um g) (fun _ => 0) ws.zipIdx
    (fun p hp U k fr st hi he => u_place hg hs hn hr p (List.mem_zipIdx_iff_getElem?.mp hp) U k fr st hi he) U k [some (grv g), some (.dct false (encR row)), some (.loc (g.n + g.e).toNat), some (.bl k), some (.int nm), some (wv ws), c, d, e, none, none] (uS U) hi ⟨rfl, _, _, _, rfl⟩
  have em : ws.zipIdx.map uF = enumL 0 (ws.map .int) := by rw [map_enum]; rfl
  rw [em] at e1
  refine ⟨[some (grv g), some (.dct false (encR row)), some (.loc (g.n + g.e).toNat), some (.bl k), some (.int nm), some (wv ws), c, d, e, none, none], U', k', [some (grv g), some (.dct false (encR row)), some (.loc (g.n + g.e).toNat), some (.bl k'), some (.int nm), some (wv ws), c', d', e', none, none], uS U', rfl, ?_, e2, ⟨rfl, _, _, _, _, _, rfl⟩, hor⟩
  simp [dUnitsOf_l2b, dUnitsOf_l3, z_frr, e1]
theorem u_while {g : Gr} {row : Row} (hg : g.Nice) (hs : g.n + g.e ≤ 1000) (hn : Nul g row) (U : List (List Int)) (fr : Fr) (st : Store) (hi : UI g U) (he : UE g row U true fr st) :
    ∃ U' fr2 s2, ex (denT fnT 20) dUnitsOf_l1 fr st = some (.nx, fr2, s2) ∧ UI g U' ∧ UE g row U' false fr2 s2 ∧ ∀ r ∈ g.rs, UC g row r U' := by
  unfold dUnitsOf_l1
  rw [z_whl]
  refine wh_fix (UE g row) (UI g) (fun U => ∀ r ∈ g.rs, UC g row r U) (Um g) (fun _ => 0) (fun U k fr st he => ?_) (fun U fr st hi he => ?_) U fr st hi he
  · obtain ⟨rfl, a, b, c, d, e, rfl⟩ := he
    exact whc_var rfl
  · obtain ⟨rfl, a, b, c, d, e, rfl⟩ := he
    obtain ⟨U', k, fr2, s2, e1, e2, e3, e4, e5⟩ := fr_fix (F := rv) (asg := asgT (.tp [.nm 4, .nm 5])) (b := fun fr st => exs (denT fnT 20) dUnitsOf_l2b fr st) (UE g row) (UI g) (UC g row) (Um g) (fun _ => 0) g.rs
      (fun r hr U k fr st hi he => u_rule hg hs hn r hr U k fr st hi he) U [some (grv g), some (.dct false (encR row)), some (.loc (g.n + g.e).toNat), some (.bl false), a, b, c, d, e, none, none] (uS U) hi ⟨rfl, _, _, _, _, _, rfl⟩
    refine ⟨U', k, fr2, s2, ?_, e2, e3, fun e => ?_, e5⟩
    · simp [dUnitsOf_l1b, dUnitsOf_l2, z_frr, g_at, e1]
    · obtain ⟨h1, h2⟩ := e4 e
      intro r hr
      rw [h1]
      exact h2 r hr
/-- the first cells -/
theorem u_c1 {g : Gr} {row : Row} (hg : g.Nice) (hs : g.n + g.e ≤ 1000) : ev (denT fnT 20) dUnitsOf_c1 [some (grv g), some (.dct false (encR row)), none, none, none, none, none, none, none, none, none] [] = some (.loc (g.n + g.e).toNat, uS ((List.range (g.n + g.e).toNat).map fun i : Nat => [(i : Int)])) := by
  have h1 := hg.n1
  have h2 := hg.e1
  have hk : kR1 (.int (g.n + g.e)) [] = some ((List.range (g.n + g.e).toNat).map fun m : Nat => PV.int m, []) := by
    have := kR1_nat (j := (g.n + g.e).toNat) (s := []) (by omega)
    rwa [show (((g.n + g.e).toNat : Nat) : Int) = g.n + g.e by omega] at this
  unfold dUnitsOf_c1
  rw [ev_dcS (xs := List.range (g.n + g.e).toNat) (fun i : Nat => .int i) (fun i => .int i) (fun i => .loc i) (fun l => l.map fun i : Nat => Cell.dct false (encS .int [(i : Int)])) (by simp [g_at, hk]) (fun l x r hx => ⟨_, rfl, by simp [wipeF], ?_, rfl⟩) (by rw [List.length_range]; unfold SZ; omega)]
  · have e : ((List.range (g.n + g.e).toNat).map fun x : Nat => (PV.int x, PV.loc x)) = encD .int .loc (idxs (g.n + g.e).toNat) := by simp [encD, idxs]
    rw [e, dctL_enc int_inj idxs_nodup]
    simp [mkD, uS]
  · have := range_at hx
    simp [wipeF, prs, dctL, put, mkD, this.1, encS]
/-- the cells as values -/
def setV (l : List Int) : PV := .dct false (encS .int l)
theorem frz_set {l : List Int} {st : Store} {m k : Nat} (h : st[k]? = some (.dct false (encS .int l))) : frzV (m + 2) (.loc k) st = some (setV l, st.set k .dead) := by
  rw [frzV]
  simp only [h]
  rw [frzD_of fun p hp => ?_]
  · rfl
  · obtain ⟨x, _, rfl⟩ := List.mem_map.mp hp
    exact frz_le (k := 0) rfl (by omega)
theorem frz_cells {U : List (List Int)} {q : Nat} : ∀ (m k : Nat) (st : Store), (∀ i, k ≤ i → i < k + m → st[i]? = some (.dct false (encS .int (U.getD i [])))) →
    ∃ st', frzD (frzV (q + 2)) ((List.range' k m).map fun i : Nat => (PV.int i, PV.loc i)) st = some ((List.range' k m).map fun i : Nat => (PV.int i, setV (U.getD i [])), st')
  | 0, k, st, _ => ⟨st, rfl⟩
  | m + 1, k, st, h => by
    obtain ⟨st', e⟩ := frz_cells (U := U) (q := q) m (k + 1) (st.set k .dead) fun i h1 h2 => by
      rw [List.getElem?_set_ne (by omega)]
      exact h i (by omega) (by omega)
    refine ⟨st', ?_⟩
    rw [List.range'_succ, List.map_cons, frzD, frz_set (h k (Nat.le_refl _) (by omega))]
    simp [e]
structure UW (g : Gr) (FU : List (Int × List Int)) : Prop where
  keys : FU.map (·.1) = rngI 0 (g.n + g.e)
  nd : ∀ s l, lookT FU s = some l → l.Nodup
  snd : ∀ s l, lookT FU s = some l → ∀ t ∈ l, (0 ≤ t ∧ t < g.n + g.e) ∧ ∀ w, Der g t w → Der g s w
  self : ∀ s, 0 ≤ s → s < g.n + g.e → ∃ l, lookT FU s = some l ∧ s ∈ l
  cl : ∀ a ws, (a, ws) ∈ g.rs → ∀ p s, ws[p]? = some s → (∀ o ∈ ws.eraseIdx p, Der g o []) → ∀ l l', lookT FU s = some l → lookT FU a = some l' → ∀ t ∈ l, t ∈ l'
theorem lf_setV {l : List Int} : lf (setV l) = true := by
  rw [setV, lf]
  refine lfD_of fun p hp => ?_
  obtain ⟨x, _, rfl⟩ := List.mem_map.mp hp
  exact ⟨rfl, rfl⟩
theorem q20 {n : Nat} (h : 20 < n) {g : Gr} {row : Row} (hg : g.Nice) (hs : g.n + g.e ≤ 1000) (hn : Nul g row) (hlr : lfD (encR row) = true) {st : Store} :
    ∃ FU, UW g FU ∧ denT fnT n 20 [grv g, .dct false (encR row)] st = some (.dct false (encD .int setV FU), st) := by
  have h1 := hg.n1
  have h2 := hg.e1
  have hN : (((g.n + g.e).toNat : Nat) : Int) = g.n + g.e := by omega
  have hu0 : ∀ s : Int, 0 ≤ s → s < g.n + g.e → uat ((List.range (g.n + g.e).toNat).map fun i : Nat => [(i : Int)]) s = [s] := fun s h0 h1 => by
    unfold uat
    rw [List.getD_eq_getElem?_getD, List.getElem?_map, List.getElem?_range (by omega)]
    simp
    omega
  have hi0 : UI g ((List.range (g.n + g.e).toNat).map fun i : Nat => [(i : Int)]) := by
    refine ⟨by simp, fun s h0 h1 => by rw [hu0 s h0 h1]; simp, fun s h0 h1 t ht => ?_, fun s h0 h1 => by rw [hu0 s h0 h1]; simp⟩
    rw [hu0 s h0 h1, List.mem_singleton] at ht
    subst ht
    exact ⟨⟨h0, h1⟩, fun w d => d⟩
  obtain ⟨U, fr2, s2, e1, hi, ⟨rfl, a, b, c, d, e, rfl⟩, hc⟩ := u_while hg hs hn _ [some (grv g), some (.dct false (encR row)), some (.loc (g.n + g.e).toNat), some (.bl true), none, none, none, none, none, none, none] _ hi0 ⟨rfl, _, _, _, _, _, rfl⟩
  have hgl : (g.n + g.e).toNat = U.length := hi.len.symm
  obtain ⟨st', ef⟩ := frz_cells (U := U) (q := 27) (g.n + g.e).toNat 0 ((uS U).set (g.n + g.e).toNat .dead) fun i _ h2 => by
    rw [List.getElem?_set_ne (by omega)]
    have := uS_in (U := U) (s := (i : Int)) (by omega) (by omega)
    simpa [uat] using this
  have hfu : ((List.range' 0 (g.n + g.e).toNat).map fun i : Nat => (PV.int i, setV (U.getD i []))) = encD .int setV ((rngI 0 (g.n + g.e)).map fun s => (s, uat U s)) := by
    rw [← List.range_eq_range']
    unfold encD rngI uat
    rw [List.map_map, List.map_map, Int.sub_zero]
    refine List.map_congr_left fun i _ => ?_
    simp
  have hnd : (((rngI 0 (g.n + g.e)).map fun s => (s, uat U s)).map (·.1)) = rngI 0 (g.n + g.e) := by rw [List.map_map]; simp [Function.comp_def]
  have hlk : ∀ s l, lookT ((rngI 0 (g.n + g.e)).map fun s => (s, uat U s)) s = some l → (0 ≤ s ∧ s < g.n + g.e) ∧ l = uat U s := fun s l hl => by
    obtain ⟨x, hx, e⟩ := List.mem_map.mp (lookT_mem hl)
    cases e
    exact ⟨mem_rngI.mp hx, rfl⟩
  have hfz : frzV 30 (.loc (g.n + g.e).toNat) (uS U) = some (.dct false (encD .int setV ((rngI 0 (g.n + g.e)).map fun s => (s, uat U s))), st') := by
    rw [frzV]
    have ho := uS_out (U := U)
    rw [← hgl] at ho
    simp only [ho]
    have e0 : encD PV.int PV.loc (idxs (g.n + g.e).toNat) = (List.range' 0 (g.n + g.e).toNat).map fun i : Nat => (PV.int i, PV.loc i) := by
      rw [← List.range_eq_range']; simp [encD, idxs]
    rw [e0, ef, hfu]
    rfl
  refine ⟨(rngI 0 (g.n + g.e)).map fun s => (s, uat U s), ⟨hnd, fun s l hl => ?_, fun s l hl => ?_, fun s h0 h1 => ⟨uat U s, lookT_of_mem (by rw [hnd]; exact rngI_nodup) (List.mem_map.mpr ⟨s, mem_rngI.mpr ⟨h0, h1⟩, rfl⟩), hi.self s h0 h1⟩, fun a ws hr p s hp ho l l' hl hl' t ht => ?_⟩, ?_⟩
  · obtain ⟨hr, rfl⟩ := hlk s l hl
    exact hi.nd s hr.1 hr.2
  · obtain ⟨hr, rfl⟩ := hlk s l hl
    exact hi.snd s hr.1 hr.2
  · obtain ⟨_, rfl⟩ := hlk s l hl
    obtain ⟨_, rfl⟩ := hlk a l' hl'
    exact hc (a, ws) hr (s, p) (List.mem_zipIdx_iff_getElem?.mpr hp) (fun o ho' => (hn o).mpr (ho o ho')) t ht
  · rw [dUnitsOf_at h]
    have hlv : lf (.dct false (encD .int setV ((rngI 0 (g.n + g.e)).map fun s => (s, uat U s)))) = true := by
      rw [lf]
      refine lfD_of fun p hp => ?_
      obtain ⟨x, _, rfl⟩ := List.mem_map.mp hp
      exact ⟨rfl, lf_setV⟩
    refine denF_own (s1 := st') ?_ rfl rfl (by simp [lfL, lf_grv, lf, hlr]) hlv
    have hc1 := u_c1 (row := row) hg hs
    simp [dUnitsOf, hc1, e1, hfz]
end K89
end

section
set_option Elab.async false
set_option linter.all false
set_option maxRecDepth 100000
set_option autoImplicit false
set_option maxHeartbeats 4000000
/-! parted_words -/
namespace K89
open PySem (Str)
open Pv

abbrev Wd := List Int
/-- all words of ends of a length -/
def allW (g : Gr) : Nat → List Wd
  | 0 => [[]]
  | m + 1 => (allW g m).flatMap fun w => (rngI g.n (g.n + g.e)).map fun x => w ++ [x]
theorem mem_allW {g : Gr} : ∀ {m : Nat} {w : Wd}, w ∈ allW g m ↔ InE g w ∧ w.length = m
  | 0, w => by
    rw [allW, List.mem_singleton]
    constructor
    · rintro rfl; exact ⟨fun x hx => (by cases hx), rfl⟩
    · rintro ⟨_, h⟩; exact List.eq_nil_of_length_eq_zero h
  | m + 1, w => by
    rw [allW, List.mem_flatMap]
    constructor
    · rintro ⟨u, hu, hw⟩
      obtain ⟨x, hx, rfl⟩ := List.mem_map.mp hw
      obtain ⟨h1, h2⟩ := mem_allW.mp hu
      refine ⟨fun y hy => ?_, by simp [h2]⟩
      rcases List.mem_append.mp hy with hy | hy
      · exact h1 y hy
      · rw [List.mem_singleton] at hy; subst hy; exact mem_rngI.mp hx
    · rintro ⟨h1, h2⟩
      have hne : w ≠ [] := fun e => by subst e; simp at h2
      refine ⟨w.dropLast, mem_allW.mpr ⟨fun y hy => h1 y (List.dropLast_subset _ hy), by simp [h2]⟩, List.mem_map.mpr ⟨w.getLast hne, mem_rngI.mpr (h1 _ (List.getLast_mem hne)), List.dropLast_concat_getLast hne⟩⟩
theorem allW_len {g : Gr} : ∀ {m : Nat}, (allW g m).length = g.e.toNat ^ m
  | 0 => rfl
  | m + 1 => by
    rw [allW, List.length_flatMap]
    simp only [List.length_map, rngI_len]
    rw [show (g.n + g.e - g.n).toNat = g.e.toNat by omega, List.map_const', List.sum_replicate_nat, allW_len, Nat.pow_succ]
theorem words_few {g : Gr} {l : List Wd} {m : Nat} (hn : l.Nodup) (h : ∀ w ∈ l, InE g w ∧ w.length = m) (he : g.n + g.e ≤ 5) (h1 : 1 ≤ g.n) (hm : m ≤ 4) : l.length ≤ 256 := by
  have h2 := nodup_len l (allW g m) hn fun w hw => mem_allW.mpr (h w hw)
  rw [allW_len] at h2
  have h3 : g.e.toNat ^ m ≤ 4 ^ m := Nat.pow_le_pow_left (by omega) m
  have h4 : 4 ^ m ≤ 4 ^ 4 := Nat.pow_le_pow_right (by decide) hm
  omega
def pr (us vs : List Wd) : List Wd := us.flatMap fun u => vs.map fun v => u ++ v
theorem mem_pr {us vs : List Wd} {w : Wd} : w ∈ pr us vs ↔ ∃ u ∈ us, ∃ v ∈ vs, w = u ++ v := by
  unfold pr
  simp only [List.mem_flatMap, List.mem_map]
  constructor
  · rintro ⟨u, hu, v, hv, rfl⟩; exact ⟨u, hu, v, hv, rfl⟩
  · rintro ⟨u, hu, v, hv, rfl⟩; exact ⟨u, hu, v, hv, rfl⟩
theorem pr_len {us vs : List Wd} : (pr us vs).length = us.length * vs.length := by
  unfold pr
  rw [List.length_flatMap]
  simp only [List.length_map]
  rw [List.map_const', List.sum_replicate_nat]
def wsV (l : List Wd) : PV := .lst (l.map wv)
abbrev FT := List (Int × List Wd)
def dV (F : FT) : PV := .dct false (encD .int wsV F)
def fat (fs : List FT) (m : Nat) (s : Int) : List Wd := ((fs[m]?).bind fun F => lookT F s).getD []
structure FO (g : Gr) (fs : List FT) : Prop where
  mem : ∀ m, m < fs.length → ∀ s w, w ∈ fat fs m s ↔ Der g s w ∧ w.length = m
  nd : ∀ m s, (fat fs m s).Nodup
theorem FO.few {g : Gr} {fs : List FT} (h : FO g fs) (he : g.n + g.e ≤ 5) (h1 : 1 ≤ g.n) {m : Nat} (hm : m < fs.length) (hm4 : m ≤ 4) (s : Int) : (fat fs m s).length ≤ 256 :=
  words_few (m := m) (h.nd m s) (fun w hw => by have := (h.mem m hm s w).mp hw; exact ⟨this.1.ends, this.2⟩) he h1 hm4
/-! the store -/
def cellW (l : List Wd) : Cell := .dct true (encS wv l)
def pS (st : Store) (T : List (Int × Nat)) (cs : List (List Wd)) : Store := st ++ (.dct false (encD .int (fun i => .loc (st.length + 1 + i)) T) :: cs.map cellW)
section
variable {st : Store} {T T' : List (Int × Nat)} {cs : List (List Wd)}
theorem pS_old {k : Nat} (h : k < st.length) : (pS st T cs)[k]? = st[k]? := by unfold pS; rw [List.getElem?_append_left h]
theorem pS_told : (pS st T cs)[st.length]? = some (.dct false (encD .int (fun i => .loc (st.length + 1 + i)) T)) := by
  unfold pS; rw [List.getElem?_append_right (Nat.le_refl _)]; simp
theorem pS_cell {i : Nat} (h : i < cs.length) : (pS st T cs)[st.length + 1 + i]? = some (cellW (cs.getD i [])) := by
  unfold pS
  rw [List.getElem?_append_right (by omega), show st.length + 1 + i - st.length = i + 1 by omega, List.getElem?_cons_succ, List.getElem?_map, List.getElem?_eq_getElem h, List.getD_eq_getElem?_getD, List.getElem?_eq_getElem h]
  rfl
theorem pS_set {i : Nat} {X : List Wd} : (pS st T cs).set (st.length + 1 + i) (cellW X) = pS st T (cs.set i X) := by
  unfold pS
  rw [List.set_append_right _ _ (by omega), show st.length + 1 + i - st.length = i + 1 by omega, List.set_cons_succ, List.map_set]
theorem pS_app : pS st T cs ++ [.dct true []] = pS st T (cs ++ [[]]) := by
  unfold pS; simp [cellW, encS]
theorem pS_tset : (pS st T cs).set st.length (.dct false (encD .int (fun i => .loc (st.length + 1 + i)) T')) = pS st T' cs := by
  unfold pS
  rw [List.set_append_right _ _ (Nat.le_refl _)]
  simp
theorem pS_len : (pS st T cs).length = st.length + 1 + cs.length := by unfold pS; simp; omega
end
theorem idx_lst {st : Store} {k m : Nat} {l : List PV} {v : PV} (h : st[k]? = some (.lst l)) (hv : l[m]? = some v) : idxP (.loc k) (.int m) st = some v := by
  obtain ⟨hm, _⟩ := List.getElem?_eq_some_iff.mp hv
  have h1 : ixOf l.length (m : Int) = some m := by unfold ixOf; rw [if_pos (by omega), if_pos (by omega)]; simp
  simp [idxP, dctOf, seqOf, lstOf, h, h1, hv]
def PM (fs : List FT) (L : Nat) (l : List Ru) (a : Int) (w : Wd) : Prop := ∃ s t m, (a, [s, t]) ∈ l ∧ 1 ≤ m ∧ m < L ∧ w ∈ pr (fat fs m s) (fat fs (L - m) t)
structure PI (fs : List FT) (L : Nat) (l : List Ru) (T : List (Int × Nat)) (cs : List (List Wd)) : Prop where
  ndT : (T.map (·.1)).Nodup
  lt : ∀ a i, lookT T a = some i → i < cs.length
  inj : ∀ a b i, lookT T a = some i → lookT T b = some i → a = b
  mem : ∀ a i, lookT T a = some i → ∀ w, w ∈ cs.getD i [] ↔ PM fs L l a w
  nd : ∀ i, (cs.getD i []).Nodup
  non : ∀ a, lookT T a = none → ∀ s t, (a, [s, t]) ∉ l
  cnt : T.length ≤ l.length
  key : ∀ a i, lookT T a = some i → ∃ s t, (a, [s, t]) ∈ l
theorem smW_word {g : Gr} {w : Wd} (hE : InE g w) (hl : w.length ≤ 4) (h1 : 1 ≤ g.n) (he : g.n + g.e ≤ 5) : smW (wv w) = true := by
  unfold wv smW
  have : (w.map PV.int).all (smI 5) = true := by
    rw [List.all_eq_true]
    intro x hx
    obtain ⟨i, hi, rfl⟩ := List.mem_map.mp hx
    have := hE i hi
    simp [smI]
    omega
  simp [this, hl]
section
variable {g : Gr} {fs : List FT} {st : Store} {kf L : Nat}
/-- the words of one rule, by the place where they part -/
theorem p_mid (hg : g.Nice) (he : g.n + g.e ≤ 5) (hL : L ≤ 4) (hfl : fs.length = L) (hf : FO g fs) (hk : st[kf]? = some (.lst (fs.map dV))) (a s t : Int) (T : List (Int × Nat)) (cs : List (List Wd)) (i : Nat) (hi : i < cs.length) (hnd : (cs.getD i []).Nodup) (hw : ∀ w ∈ cs.getD i [], InE g w ∧ w.length = L) (R : PV) (p7 p8 p9 : Option PV) :
    ∃ X q7 q8 q9, ex (denT fnT 21) dPartedWords_l2 [some R, some (.loc kf), some (.int L), some (.loc st.length), some (.int a), some (wv [s, t]), some (.loc (st.length + 1 + i)), p7, p8, p9, none, none] (pS st T cs)
      = some (.nx, [some R, some (.loc kf), some (.int L), some (.loc st.length), some (.int a), some (wv [s, t]), some (.loc (st.length + 1 + i)), q7, q8, q9, none, none], pS st T (cs.set i X)) ∧ X.Nodup ∧ ∀ w, w ∈ X ↔ w ∈ cs.getD i [] ∨ ∃ m, 1 ≤ m ∧ m < L ∧ w ∈ pr (fat fs m s) (fat fs (L - m) t) := by
  have h1 := hg.n1
  have hkl : kf < st.length := by obtain ⟨h, _⟩ := List.getElem?_eq_some_iff.mp hk; exact h
  obtain ⟨fr', s', e, X, p7', p8', p9', rfl, rfl, hX, hm⟩ := fr_go (F := fun m : Nat => PV.int m) (asg := asgT (.nm 7)) (b := fun fr st => exs (denT fnT 21) dPartedWords_l2b fr st) (List.range' 1 (L - 1))
    (fun l fr st' => ∃ X p7 p8 p9, fr = [some R, some (.loc kf), some (.int L), some (.loc st.length), some (.int a), some (wv [s, t]), some (.loc (st.length + 1 + i)), p7, p8, p9, none, none] ∧ st' = pS st T (cs.set i X) ∧ X.Nodup ∧ ∀ w, w ∈ X ↔ w ∈ cs.getD i [] ∨ ∃ m ∈ l, w ∈ pr (fat fs m s) (fat fs (L - m) t)) (fun l m r fr st' hl hI => by
      obtain ⟨X, p7, p8, p9, rfl, rfl, hX, hm⟩ := hI
      have hmr : m ∈ List.range' 1 (L - 1) := by rw [hl]; simp
      rw [List.mem_range'_1] at hmr
      have hil : i < (cs.set i X).length := by rw [List.length_set]; exact hi
      have hXi : (cs.set i X).getD i [] = X := by rw [List.getD_eq_getElem?_getD, List.getElem?_set_self hi]; rfl
      have hXw : ∀ w ∈ X, InE g w ∧ w.length = L := fun w hwx => by
        rcases (hm w).mp hwx with h | ⟨m', hm', h⟩
        · exact hw w h
        · have hm'r : m' ∈ List.range' 1 (L - 1) := by rw [hl]; simp [hm']
          rw [List.mem_range'_1] at hm'r
          obtain ⟨u, hu, v, hv, rfl⟩ := mem_pr.mp h
          have hu := (hf.mem m' (by omega) s u).mp hu
          have hv := (hf.mem (L - m') (by omega) t v).mp hv
          refine ⟨fun x hx => ?_, by rw [List.length_append, hu.2, hv.2]; omega⟩
          exact (List.mem_append.mp hx).elim (hu.1.ends x) (hv.1.ends x)
      have hXl := words_few hX hXw he h1 hL
      have hko : (pS st T (cs.set i X))[kf]? = some (.lst (fs.map dV)) := by rw [pS_old hkl]; exact hk
      have hgi : ∀ m, m < L → ∃ FM, fs[m]? = some FM ∧ idxP (.loc kf) (.int (m : Nat)) (pS st T (cs.set i X)) = some (dV FM) := fun m hm => by
        refine ⟨fs[m]'(by omega), List.getElem?_eq_getElem (by omega), idx_lst hko (by rw [List.getElem?_map, List.getElem?_eq_getElem (by omega)]; rfl)⟩
      obtain ⟨F1, f1, g1⟩ := hgi m (by omega)
      obtain ⟨F2, f2, g2⟩ := hgi (L - m) (by omega)
      have ek : ((L : Int) - (m : Int)) = ((L - m : Nat) : Int) := by omega
      have hget : ∀ (F : FT) (m : Nat) (s : Int) st, fs[m]? = some F → bmP .get2 (dV F) [.int s, .lst []] st = some (wsV (fat fs m s), st) := fun F m s st hF => by
        have := get2_enc (ke := .int) (ve := wsV) (F := F) (a := s) (t := false) (x := dV F) (d := .lst []) (st := st) int_inj dctOf_val rfl
        rw [this]
        unfold fat
        rw [hF]
        simp only [Option.bind_some]
        cases lookT F s <;> rfl
      have hbt : ∀ F st, bmT .get2 (dV F) st = true := fun F st => rfl
      have hmk : ∀ st, mkL false [] st = some (.lst [], st) := fun st => mkL_false (by decide)
      have hx0 : ∀ st, idxP (wv [s, t]) (.int 0) st = some (.int s) := fun st => rfl
      have hx1 : ∀ st, idxP (wv [s, t]) (.int 1) st = some (.int t) := fun st => rfl
      have n1 := hf.few he h1 (m := m) (by omega) (by omega) s
      have n2 := hf.few he h1 (m := L - m) (by omega) (by omega) t
      have hpl : (pr (fat fs m s) (fat fs (L - m) t)).length ≤ 65536 := by
        rw [pr_len]
        exact Nat.mul_le_mul n1 n2
      have hpw : ∀ w ∈ pr (fat fs m s) (fat fs (L - m) t), InE g w ∧ w.length = L := fun w hwp => by
        obtain ⟨u, hu, v, hv, rfl⟩ := mem_pr.mp hwp
        have hu := (hf.mem m (by omega) s u).mp hu
        have hv := (hf.mem (L - m) (by omega) t v).mp hv
        refine ⟨fun x hx => ?_, by rw [List.length_append, hu.2, hv.2]; omega⟩
        exact (List.mem_append.mp hx).elim (hu.1.ends x) (hv.1.ends x)
      have hc1 : ev (denT fnT 21) dPartedWords_c1 [some R, some (.loc kf), some (.int L), some (.loc st.length), some (.int a), some (wv [s, t]), some (.loc (st.length + 1 + i)), some (.int m), some (wsV (fat fs m s)), some (wsV (fat fs (L - m) t)), none, none] (pS st T (cs.set i X)) = some (.dct true (encS wv (addS [] (pr (fat fs m s) (fat fs (L - m) t)))), pS st T (cs.set i X)) := by
        have hfm : ((fat fs m s).flatMap fun u => (fat fs (L - m) t).map fun v => (wv (u ++ v), PV.bl true)) = encS wv (pr (fat fs m s) (fat fs (L - m) t)) := by
          unfold encS pr
          rw [List.map_flatMap]
          simp [List.map_map, Function.comp_def]
        unfold dPartedWords_c1
        rw [ev_dc2T (xs := fat fs m s) (s1 := pS st T (cs.set i X)) wv wv (fun _ => fat fs (L - m) t) (fun u v => wv (u ++ v)) (fun _ _ => .bl true) (by simp [wsV]) (fun u hu => ⟨_, rfl, by simp [wipeF, wsV], fun v hv => ⟨_, rfl, ?_, by simp [wipeF], kFor_wv⟩⟩) (by rw [hfm, encS_len]; unfold SZ; omega), hfm, dctL_encS wv_inj]
        · rfl
        · have hlu := (hf.mem m (by omega) s u).mp hu
          have hlv := (hf.mem (L - m) (by omega) t v).mp hv
          have := bin_wv (a := u) (b := v) (st := pS st T (cs.set i X)) (by rw [hlu.2, hlv.2]; unfold SZ; omega)
          simp [wipeF, this]
      have hcell := pS_cell (st := st) (T := T) hil
      rw [hXi] at hcell
      have hbu : bmT .upd (.loc (st.length + 1 + i)) (pS st T (cs.set i X)) = true := by simp [bmT, dctOf, hcell, cellW]
      have hal := addS_len (l := []) (m := pr (fat fs m s) (fat fs (L - m) t))
      have hupd : bmP .upd (.loc (st.length + 1 + i)) [.dct true (encS wv (addS [] (pr (fat fs m s) (fat fs (L - m) t))))] (pS st T (cs.set i X)) = some (.non, pS st T (cs.set i (addS X (addS [] (pr (fat fs m s) (fat fs (L - m) t)))))) := by
        have e1 : bmP .upd (.loc (st.length + 1 + i)) [.dct true (encS wv (addS [] (pr (fat fs m s) (fat fs (L - m) t))))] (pS st T (cs.set i X)) = updP (.loc (st.length + 1 + i)) true (encS wv (addS [] (pr (fat fs m s) (fat fs (L - m) t)))) (pS st T (cs.set i X)) := rfl
        have hz : (encS wv X).length + (encS wv (addS [] (pr (fat fs m s) (fat fs (L - m) t)))).length ≤ SZ := by
          rw [encS_len, encS_len]
          simp at hal
          unfold SZ
          omega
        have hsm : (encS wv (addS [] (pr (fat fs m s) (fat fs (L - m) t)))).all (fun p => smW p.1) = true := by
          rw [List.all_eq_true]
          intro p hp
          obtain ⟨w, hwm, rfl⟩ := List.mem_map.mp hp
          have := hpw w (by rw [mem_addS] at hwm; exact hwm.resolve_left (by simp))
          exact smW_word this.1 (by omega) h1 he
        rw [e1]
        unfold updP
        simp only [hcell, cellW, hz, hsm, or_true, and_self, if_true]
        rw [fold_encS wv_inj]
        have := pS_set (st := st) (T := T) (cs := cs.set i X) (i := i) (X := addS X (addS [] (pr (fat fs m s) (fat fs (L - m) t))))
        rw [List.set_set] at this
        rw [← this]
        rfl
      refine ⟨_, [some R, some (.loc kf), some (.int L), some (.loc st.length), some (.int a), some (wv [s, t]), some (.loc (st.length + 1 + i)), some (.int m), some (wsV (fat fs m s)), some (wsV (fat fs (L - m) t)), none, none], _, rfl, ?_, addS X (addS [] (pr (fat fs m s) (fat fs (L - m) t))), _, _, _, rfl, rfl, addS_nodup hX, fun w => ?_⟩
      · simp [dPartedWords_l2b, g1, ek, g2, hbt, hget _ _ _ _ f1, hget _ _ _ _ f2, hmk, hx0, hx1, hbu, hc1, hupd]
      · rw [mem_addS, mem_addS, hm w]
        constructor
        · rintro ((h | ⟨m', hm', h⟩) | h | h)
          · exact .inl h
          · exact .inr ⟨m', List.mem_append_left _ hm', h⟩
          · cases h
          · exact .inr ⟨m, by simp, h⟩
        · rintro (h | ⟨m', hm', h⟩)
          · exact .inl (.inl h)
          · rcases List.mem_append.mp hm' with hm' | hm'
            · exact .inl (.inr ⟨m', hm', h⟩)
            · rw [List.mem_singleton] at hm'; subst hm'; exact .inr (.inr h)) [some R, some (.loc kf), some (.int L), some (.loc st.length), some (.int a), some (wv [s, t]), some (.loc (st.length + 1 + i)), p7, p8, p9, none, none] (pS st T cs) ⟨cs.getD i [], p7, p8, p9, rfl, by
        congr 1
        refine (set_same ?_).symm
        rw [List.getD_eq_getElem?_getD, List.getElem?_eq_getElem hi]; rfl, hnd, fun w => by simp⟩
  refine ⟨X, p7', p8', p9', ?_, hX, fun w => ?_⟩
  · have hk2 : kR2 (.int 1) (.int (L : Int)) (pS st T cs) = some ((List.range' 1 (L - 1)).map fun m : Nat => PV.int m, pS st T cs) := kR2_nat (i := 1) (j := L) (by omega) (by omega)
    unfold dPartedWords_l2
    rw [z_frr]
    simp [hk2, e]
  · rw [hm w]
    constructor
    · rintro (h | ⟨m, hmr, h⟩)
      · exact .inl h
      · rw [List.mem_range'_1] at hmr; exact .inr ⟨m, by omega, by omega, h⟩
    · rintro (h | ⟨m, h1, h2, h⟩)
      · exact .inl h
      · exact .inr ⟨m, by rw [List.mem_range'_1]; omega, h⟩
/-- one rule -/
theorem p_rule (hg : g.Nice) (he : g.n + g.e ≤ 5) (hL : L ≤ 4) (hfl : fs.length = L) (hf : FO g fs) (hk : st[kf]? = some (.lst (fs.map dV))) (l : List Ru) (hl : l.length ≤ 1000) (r : Ru) (hr : r ∈ g.rs) (T : List (Int × Nat)) (cs : List (List Wd)) (hi : PI fs L l T cs) (R : PV) (p4 p5 p6 p7 p8 p9 : Option PV) :
    ∃ T' cs' q6 q7 q8 q9, exs (denT fnT 21) dPartedWords_l1b [some R, some (.loc kf), some (.int L), some (.loc st.length), some (.int r.1), some (wv r.2), p6, p7, p8, p9, none, none] (pS st T cs)
      = some (.nx, [some R, some (.loc kf), some (.int L), some (.loc st.length), some (.int r.1), some (wv r.2), q6, q7, q8, q9, none, none], pS st T' cs') ∧ PI fs L (l ++ [r]) T' cs' := by
  obtain ⟨a, ws⟩ := r
  have hrng := hg.rng _ hr
  simp only at hrng ⊢
  by_cases hw2 : ws.length = 2
  · obtain ⟨s, t, rfl⟩ : ∃ s t, ws = [s, t] := by
      match ws, hw2 with
      | [s, t], _ => exact ⟨s, t, rfl⟩
    have hold : ∀ b w, b ≠ a → (PM fs L (l ++ [(a, [s, t])]) b w ↔ PM fs L l b w) := fun b w hb => by
      unfold PM
      constructor
      · rintro ⟨x, y, m, h, h2⟩
        rcases List.mem_append.mp h with h | h
        · exact ⟨x, y, m, h, h2⟩
        · rw [List.mem_singleton] at h; cases h; exact absurd rfl hb
      · rintro ⟨x, y, m, h, h2⟩
        exact ⟨x, y, m, List.mem_append_left _ h, h2⟩
    have hnew : ∀ w, PM fs L (l ++ [(a, [s, t])]) a w ↔ PM fs L l a w ∨ ∃ m, 1 ≤ m ∧ m < L ∧ w ∈ pr (fat fs m s) (fat fs (L - m) t) := fun w => by
      unfold PM
      constructor
      · rintro ⟨x, y, m, h, h2⟩
        rcases List.mem_append.mp h with h | h
        · exact .inl ⟨x, y, m, h, h2⟩
        · rw [List.mem_singleton] at h; cases h; exact .inr ⟨m, h2⟩
      · rintro (⟨x, y, m, h, h2⟩ | ⟨m, h⟩)
        · exact ⟨x, y, m, List.mem_append_left _ h, h2⟩
        · exact ⟨s, t, m, by simp, h⟩
    have hpmw : ∀ b w, PM fs L l b w → InE g w ∧ w.length = L := by
      rintro b w ⟨x, y, m, _, m1, m2, h⟩
      obtain ⟨u, hu, v, hv, rfl⟩ := mem_pr.mp h
      have hu := (hf.mem m (by omega) x u).mp hu
      have hv := (hf.mem (L - m) (by omega) y v).mp hv
      refine ⟨fun x hx => ?_, by rw [List.length_append, hu.2, hv.2]; omega⟩
      exact (List.mem_append.mp hx).elim (hu.1.ends x) (hv.1.ends x)
    -- the row's place
    have hT : ∃ T1 i, bmP .setd (.loc st.length) [.int a, .loc (pS st T cs).length] (pS st T (cs ++ [[]])) = some (.loc (st.length + 1 + i), pS st T1 (cs ++ [[]])) ∧ lookT T1 a = some i ∧ i < (cs ++ [[]]).length ∧ (∀ w, w ∈ (cs ++ [[]]).getD i [] ↔ PM fs L l a w) ∧ (T1.map (·.1)).Nodup ∧ T1.length ≤ T.length + 1 ∧ (∀ b, b ≠ a → lookT T1 b = lookT T b) ∧ ∀ b, b ≠ a → lookT T b ≠ some i := by
      have htold := pS_told (st := st) (T := T) (cs := cs ++ [[]])
      have hcnt := hi.cnt
      have hz : (encD PV.int (fun i => PV.loc (st.length + 1 + i)) T).length < SZ := by rw [encD_len]; unfold SZ; omega
      have e1 : bmP .setd (.loc st.length) [.int a, .loc (pS st T cs).length] (pS st T (cs ++ [[]])) = setdP (.loc st.length) (.int a) (.loc (pS st T cs).length) (pS st T (cs ++ [[]])) := rfl
      rw [e1]
      unfold setdP
      simp only [htold, kFor_int, hz, and_self, if_true]
      have hlk := look_enc (ke := .int) (ve := fun i => PV.loc (st.length + 1 + i)) int_inj T a
      rw [hlk]
      cases hla : lookT T a with
      | some i =>
        have hlt := hi.lt a i hla
        refine ⟨T, i, rfl, hla, by simp; omega, fun w => ?_, hi.ndT, by omega, fun _ _ => rfl, fun b hb hbi => hb (hi.inj b a i hbi hla)⟩
        rw [← hi.mem a i hla w]
        rw [List.getD_eq_getElem?_getD, List.getElem?_append_left hlt, ← List.getD_eq_getElem?_getD]
      | none =>
        refine ⟨putT T a cs.length, cs.length, ?_, by rw [lookT_put]; simp, by simp, fun w => ?_, putT_nodup hi.ndT, putT_len, fun b hb => ?_, fun b hb hbi => ?_⟩
        · simp only [Option.map_none]
          rw [pS_len]
          have := put_enc (ke := .int) (ve := fun i => PV.loc (st.length + 1 + i)) int_inj T hi.ndT a cs.length
          rw [this, pS_tset]
        · have : (cs ++ [[]]).getD cs.length [] = ([] : List Wd) := by simp
          rw [this]
          constructor
          · intro h; cases h
          · rintro ⟨x, y, m, h, _⟩; exact absurd h (hi.non a hla x y)
        · rw [lookT_put, if_neg (Ne.symm hb)]
        · have := hi.lt b _ hbi; omega
    obtain ⟨T1, i, hsd, hl1, hi1, hm1, hn1, hc1, ho1, hj1⟩ := hT
    have hndc : ∀ j, ((cs ++ [[]]).getD j []).Nodup := fun j => by
      rw [List.getD_eq_getElem?_getD]
      by_cases hj : j < cs.length
      · rw [List.getElem?_append_left hj, ← List.getD_eq_getElem?_getD]; exact hi.nd j
      · rw [List.getElem?_append_right (by omega)]
        cases e : j - cs.length with
        | zero => simp
        | succ k => simp
    obtain ⟨X, q7, q8, q9, e, hX, hXm⟩ := p_mid hg he hL hfl hf hk a s t T1 (cs ++ [[]]) i hi1 (hndc i) (fun w hw => hpmw a w ((hm1 w).mp hw)) R p7 p8 p9
    have hset : ∀ j, j ≠ i → ((cs ++ [[]]).set i X).getD j [] = (cs ++ [[]]).getD j [] := fun j hj => by
      rw [List.getD_eq_getElem?_getD, List.getElem?_set_ne (Ne.symm hj), ← List.getD_eq_getElem?_getD]
    have hseti : ((cs ++ [[]]).set i X).getD i [] = X := by rw [List.getD_eq_getElem?_getD, List.getElem?_set_self hi1]; rfl
    refine ⟨T1, (cs ++ [[]]).set i X, some (.loc (st.length + 1 + i)), q7, q8, q9, ?_, ⟨hn1, fun b j hb => ?_, fun b c j hb hc => ?_, fun b j hb w => ?_, fun j => ?_, fun b hb x y hm => ?_, ?_, fun b j hb => ?_⟩⟩
    · have hbt : bmT .setd (.loc st.length) (pS st T cs) = true := by simp [bmT, dctOf, pS_told]
      have happ := pS_app (st := st) (T := T) (cs := cs)
      simp [dPartedWords_l1b, hbt, prs, dctL, mkD, happ, hsd, e]
    · rw [List.length_set]
      by_cases h : b = a
      · subst h; rw [hl1] at hb; cases hb; exact hi1
      · rw [ho1 b h] at hb; have := hi.lt b j hb; simp; omega
    · by_cases h : b = a
      · subst h
        rw [hl1] at hb; cases hb
        by_cases h2 : c = b
        · exact h2.symm
        · rw [ho1 c h2] at hc; exact absurd hc (hj1 c h2)
      · rw [ho1 b h] at hb
        by_cases h2 : c = a
        · subst h2
          rw [hl1] at hc; cases hc
          exact absurd hb (hj1 b h)
        · rw [ho1 c h2] at hc; exact hi.inj b c j hb hc
    · by_cases h : b = a
      · subst h
        rw [hl1] at hb; cases hb
        rw [hseti, hXm w, hm1 w, hnew w]
      · rw [ho1 b h] at hb
        rw [hset j (fun e => hj1 b h (e ▸ hb)), hold b w h, ← hi.mem b j hb w]
        have := hi.lt b j hb
        rw [List.getD_eq_getElem?_getD, List.getElem?_append_left this, ← List.getD_eq_getElem?_getD]
    · by_cases h : j = i
      · subst h; rw [hseti]; exact hX
      · rw [hset j h]; exact hndc j
    · by_cases h : b = a
      · subst h; rw [hl1] at hb; cases hb
      · rw [ho1 b h] at hb
        rcases List.mem_append.mp hm with hm | hm
        · exact hi.non b hb x y hm
        · rw [List.mem_singleton] at hm; cases hm; exact h rfl
    · have := hi.cnt; rw [List.length_append]; simp; omega
    · by_cases h : b = a
      · subst h; exact ⟨s, t, by simp⟩
      · rw [ho1 b h] at hb
        obtain ⟨x, y, h⟩ := hi.key b j hb
        exact ⟨x, y, List.mem_append_left _ h⟩
  · have hsame : ∀ b w, PM fs L (l ++ [(a, ws)]) b w ↔ PM fs L l b w := fun b w => by
      unfold PM
      constructor
      · rintro ⟨x, y, m, h, h2⟩
        rcases List.mem_append.mp h with h | h
        · exact ⟨x, y, m, h, h2⟩
        · rw [List.mem_singleton] at h; cases h; exact absurd rfl hw2
      · rintro ⟨x, y, m, h, h2⟩
        exact ⟨x, y, m, List.mem_append_left _ h, h2⟩
    refine ⟨T, cs, p6, p7, p8, p9, ?_, ⟨hi.ndT, hi.lt, hi.inj, fun b j hb w => by rw [hsame]; exact hi.mem b j hb w, hi.nd, fun b hb x y hm => ?_, by have := hi.cnt; rw [List.length_append]; simp; omega, fun b j hb => ?_⟩⟩
    · have : ¬ ((ws.length : Int) = 2) := by omega
      simp [dPartedWords_l1b, this]
    · rcases List.mem_append.mp hm with hm | hm
      · exact hi.non b hb x y hm
      · rw [List.mem_singleton] at hm; cases hm; exact hw2 rfl
    · obtain ⟨x, y, h⟩ := hi.key b j hb
      exact ⟨x, y, List.mem_append_left _ h⟩
theorem q21 {n : Nat} (h : 21 < n) (hg : g.Nice) (he : g.n + g.e ≤ 5) (hL : L ≤ 4) (hfl : fs.length = L) (hf : FO g fs) (hk : st[kf]? = some (.lst (fs.map dV))) :
    ∃ T cs, denT fnT n 21 [.tup (g.rs.map rv), .loc kf, .int L] st = some (.loc st.length, pS st T cs) ∧ PI fs L g.rs T cs := by
  have hi0 : PI fs L [] [] [] := ⟨List.nodup_nil, fun a i h => (by cases h), fun a b i h => (by cases h), fun a i h => (by cases h), fun i => by simp, fun a _ s t h => (by cases h), Nat.le_refl _, fun a i h => (by cases h)⟩
  obtain ⟨fr', s', e, T, cs, p4, p5, p6, p7, p8, p9, rfl, rfl, hi⟩ := fr_go (F := rv) (asg := asgT (.tp [.nm 4, .nm 5])) (b := fun fr st => exs (denT fnT 21) dPartedWords_l1b fr st) g.rs
    (fun l fr st' => ∃ T cs p4 p5 p6 p7 p8 p9, fr = [some (.tup (g.rs.map rv)), some (.loc kf), some (.int L), some (.loc st.length), p4, p5, p6, p7, p8, p9, none, none] ∧ st' = pS st T cs ∧ PI fs L l T cs) (fun l r rr fr st' hl hI => by
      obtain ⟨T, cs, p4, p5, p6, p7, p8, p9, rfl, rfl, hi⟩ := hI
      have hlen : l.length ≤ 1000 := by
        have := congrArg List.length hl
        rw [List.length_append, List.length_cons] at this
        have := hg.few
        omega
      obtain ⟨T', cs', q6, q7, q8, q9, e, hi'⟩ := p_rule hg he hL hfl hf hk l hlen r (by rw [hl]; simp) T cs hi (.tup (g.rs.map rv)) p4 p5 p6 p7 p8 p9
      exact ⟨_, _, _, rfl, e, T', cs', _, _, _, _, _, _, rfl, rfl, hi'⟩) [some (.tup (g.rs.map rv)), some (.loc kf), some (.int L), some (.loc st.length), none, none, none, none, none, none, none, none] (pS st [] []) ⟨[], [], none, none, none, none, none, none, rfl, rfl, hi0⟩
  refine ⟨T, cs, ?_, hi⟩
  rw [dPartedWords_at h]
  have e0 : st ++ [Cell.dct false []] = pS st [] [] := rfl
  simp [dPartedWords, denF, prs, dctL, mkD, e0, dPartedWords_l1, z_frr, e]
end
end K89
end

section
set_option Elab.async false
set_option linter.all false
set_option maxRecDepth 100000
set_option autoImplicit false
set_option maxHeartbeats 4000000
/-! words_by_length, count_words -/
namespace K89
open PySem (Str)
open Pv

/-! plain part -/
def Bare (g : Gr) (fs : List FT) (L : Nat) (t : Int) (w : Wd) : Prop := PM fs L g.rs t w ∨ (L = 1 ∧ (g.n ≤ t ∧ t < g.n + g.e) ∧ w = [t])
theorem Bare.der {g : Gr} {fs : List FT} {L : Nat} (hf : FO g fs) (hfl : fs.length = L) {t : Int} {w : Wd} (h : Bare g fs L t w) : Der g t w ∧ w.length = L := by
  rcases h with ⟨x, y, m, hr, m1, m2, h⟩ | ⟨hL, ht, rfl⟩
  · obtain ⟨u, hu, v, hv, rfl⟩ := mem_pr.mp h
    have hu := (hf.mem m (by omega) x u).mp hu
    have hv := (hf.mem (L - m) (by omega) y v).mp hv
    exact ⟨.r2 hr hu.1 hv.1, by rw [List.length_append, hu.2, hv.2]; omega⟩
  · exact ⟨.en ht.1 ht.2, hL.symm⟩
theorem bare_all {g : Gr} {fs : List FT} {L : Nat} {FU : List (Int × List Int)} (hg : g.Nice) (hf : FO g fs) (hfl : fs.length = L) (hL : 1 ≤ L) (hu : UW g FU) {s : Int} {w : Wd} (d : Der g s w) : w.length = L → ∃ l, lookT FU s = some l ∧ ∃ t ∈ l, Bare g fs L t w := by
  have hs : ∀ {s w}, Der g s w → ∃ l, lookT FU s = some l ∧ s ∈ l := fun d => hu.self _ (d.sign hg).1 (d.sign hg).2
  induction d with
  | en h0 h1 =>
    intro hl
    obtain ⟨l, h2, h3⟩ := hs (.en h0 h1)
    exact ⟨l, h2, _, h3, .inr ⟨hl.symm, ⟨h0, h1⟩, rfl⟩⟩
  | r0 h => intro hl; simp at hl; omega
  | r1 h d ih =>
    intro hl
    obtain ⟨l, h1, t, h2, h3⟩ := ih hl
    obtain ⟨l', h4, h5⟩ := hs (.r1 h d)
    exact ⟨l', h4, t, hu.cl _ _ h 0 _ rfl (fun o ho => by cases ho) l l' h1 h4 t h2, h3⟩
  | @r2 a x y u v h d d' i1 i2 =>
    intro hl
    obtain ⟨l', h4, h5⟩ := hs (.r2 h d d')
    rw [List.length_append] at hl
    cases hue : u with
    | nil =>
      subst hue
      obtain ⟨l, h1, t, h2, h3⟩ := i2 (by simpa using hl)
      exact ⟨l', h4, t, hu.cl _ _ h 1 y rfl (fun o ho => by simp at ho; subst ho; exact d) l l' h1 h4 t h2, h3⟩
    | cons p u' =>
      cases hve : v with
      | nil =>
        subst hve
        obtain ⟨l, h1, t, h2, h3⟩ := i1 (by simpa using hl)
        rw [← hue, List.append_nil]
        exact ⟨l', h4, t, hu.cl _ _ h 0 x rfl (fun o ho => by simp at ho; subst ho; exact d') l l' h1 h4 t h2, h3⟩
      | cons q v' =>
        have hul : 0 < u.length := by rw [hue]; simp
        have hvl : 0 < v.length := by rw [hve]; simp
        refine ⟨l', h4, a, h5, .inl ⟨x, y, u.length, h, hul, by omega, mem_pr.mpr ⟨u, (hf.mem _ (by omega) x u).mpr ⟨d, rfl⟩, v, (hf.mem _ (by omega) y v).mpr ⟨d', by omega⟩, by rw [hue, hve]⟩⟩⟩
/-- the lists of the next length -/
def nextR (FU : List (Int × List Int)) (B : FT) : FT := FU.map fun p => (p.1, p.2.flatMap fun t => (lookT B t).getD [])
def nextF (FU : List (Int × List Int)) (B : FT) : FT := (nextR FU B).map fun p => (p.1, addS [] p.2)
theorem lookT_map {α β γ : Type} [DecidableEq α] {f : α → β → γ} : ∀ {l : List (α × β)} {a : α}, lookT (l.map fun p => (p.1, f p.1 p.2)) a = (lookT l a).map (f a)
  | [], _ => rfl
  | p :: l, a => by
    rw [List.map_cons, lookT, lookT]
    by_cases h : p.1 = a
    · simp [h]
    · simp only [if_neg h]; exact lookT_map
theorem next_ok {g : Gr} {fs : List FT} {L : Nat} {FU : List (Int × List Int)} {B : FT} (hg : g.Nice) (hf : FO g fs) (hfl : fs.length = L) (hL : 1 ≤ L) (hu : UW g FU) (hB : ∀ t w, w ∈ (lookT B t).getD [] ↔ Bare g fs L t w) : FO g (fs ++ [nextF FU B]) := by
  have hfat : ∀ m s, fat (fs ++ [nextF FU B]) m s = if m = L then ((lookT FU s).map fun l => addS [] (l.flatMap fun t => (lookT B t).getD [])).getD [] else fat fs m s := fun m s => by
    unfold fat
    by_cases h : m < L
    · rw [if_neg (by omega), List.getElem?_append_left (by omega)]
    · rw [List.getElem?_append_right (by omega), hfl]
      by_cases h2 : m = L
      · subst h2
        rw [if_pos rfl, Nat.sub_self]
        simp only [List.getElem?_cons_zero, Option.bind_some]
        unfold nextF nextR
        have e1 := lookT_map (f := fun (_ : Int) (l : List Wd) => addS [] l) (l := FU.map fun p => (p.1, p.2.flatMap fun t => (lookT B t).getD [])) (a := s)
        have e2 := lookT_map (f := fun (_ : Int) (l : List Int) => l.flatMap fun t => (lookT B t).getD []) (l := FU) (a := s)
        rw [e1, e2, Option.map_map]
        rfl
      · rw [if_neg h2, List.getElem?_eq_none (by simp; omega), List.getElem?_eq_none (by omega)]
  refine ⟨fun m hm s w => ?_, fun m s => ?_⟩
  · rw [List.length_append, List.length_singleton] at hm
    rw [hfat]
    by_cases h : m = L
    · subst h
      rw [if_pos rfl]
      constructor
      · intro hw
        cases hl : lookT FU s with
        | none => rw [hl] at hw; cases hw
        | some l =>
          rw [hl] at hw
          simp only [Option.map_some, Option.getD_some, mem_addS, List.not_mem_nil, false_or, List.mem_flatMap] at hw
          obtain ⟨t, ht, hw⟩ := hw
          have := Bare.der hf hfl ((hB t w).mp hw)
          exact ⟨(hu.snd s l hl t ht).2 w this.1, this.2⟩
      · rintro ⟨d, hl⟩
        obtain ⟨l, h1, t, h2, h3⟩ := bare_all hg hf hfl hL hu d hl
        rw [h1]
        simp only [Option.map_some, Option.getD_some, mem_addS, List.not_mem_nil, false_or, List.mem_flatMap]
        exact ⟨t, h2, (hB t w).mpr h3⟩
    · rw [if_neg h]; exact hf.mem m (by omega) s w
  · rw [hfat]
    split
    · cases lookT FU s with
      | none => simp
      | some l => exact addS_nodup List.nodup_nil
    · exact hf.nd m s
theorem bare_few {g : Gr} {fs : List FT} {L : Nat} {FU : List (Int × List Int)} {B : FT} (hg : g.Nice) (he : g.n + g.e ≤ 5) (hL4 : L ≤ 4) (hf : FO g fs) (hfl : fs.length = L) (hB : ∀ t w, w ∈ (lookT B t).getD [] ↔ Bare g fs L t w) (hBn : ∀ t, ((lookT B t).getD []).Nodup) (hu : UW g FU) {s : Int} {l : List Int} (hl : lookT FU s = some l) : (l.flatMap fun t => (lookT B t).getD []).length ≤ 2000 := by
  have h1 : ∀ t, ((lookT B t).getD []).length ≤ 256 := fun t => words_few (hBn t) (fun w hw => by have := Bare.der hf hfl ((hB t w).mp hw); exact ⟨this.1.ends, this.2⟩) he hg.n1 hL4
  have h2 : l.length ≤ 5 := by
    have := nodup_len l (rngI 0 (g.n + g.e)) (hu.nd s l hl) fun x hx => mem_rngI.mpr (hu.snd s l hl x hx).1
    rw [rngI_len] at this
    omega
  have h3 : ∀ l : List Int, (l.flatMap fun t => (lookT B t).getD []).length ≤ l.length * 256 := fun l => by
    induction l with
    | nil => simp
    | cons a l ih => rw [List.flatMap_cons, List.length_append, List.length_cons, Nat.add_mul]; have := h1 a; omega
  have := h3 l
  omega

/-! the values -/
def setW (l : List Wd) : PV := .dct true (encS wv l)
theorem frz_setW {l : List Wd} {st : Store} {m : Nat} : frzV (m + 2) (setW l) st = some (setW l, st) := by
  unfold setW
  rw [frzV, frzD_of fun p hp => ?_]
  · rfl
  · obtain ⟨x, _, rfl⟩ := List.mem_map.mp hp
    exact frz_le (k := 0) rfl (by omega)
theorem isD_wsV {l : List Wd} : isD 2 (wsV l) = true := by
  unfold wsV
  rw [isD]
  induction l with
  | nil => rfl
  | cons a l ih => simp [isDL, isD_wv, ih]
theorem frz_dV {F : FT} {st : Store} {m : Nat} : frzV (m + 4) (dV F) st = some (dV F, st) := by
  unfold dV
  rw [frzV, frzD_of fun p hp => ?_]
  · rfl
  · obtain ⟨x, _, rfl⟩ := List.mem_map.mp hp
    exact frz_le (k := 2) isD_wsV (by omega)
theorem frz_fs {fs : List FT} {st : Store} {m : Nat} : frzL (frzV (m + 4)) (fs.map dV) st = some (fs.map dV, st) := by
  induction fs with
  | nil => rfl
  | cons F fs ih => rw [List.map_cons, frzL, frz_dV]; simp [ih]
/-- told, frozen: the rows' cells -/
theorem frz_told {b q : Nat} : ∀ (T : List (Int × Nat)) (cs : List (List Wd)) (st : Store), (∀ a i, (a, i) ∈ T → st[b + i]? = some (cellW (cs.getD i []))) → (T.map (·.2)).Nodup →
    ∃ st', frzD (frzV (q + 2)) (encD .int (fun i => .loc (b + i)) T) st = some (encD .int setW (T.map fun p => (p.1, cs.getD p.2 [])), st') ∧ st'.length = st.length ∧ ∀ k, k < b → st'[k]? = st[k]?
  | [], cs, st, _, _ => ⟨st, rfl, rfl, fun _ _ => rfl⟩
  | (a, i) :: T, cs, st, h, hn => by
    rw [List.map_cons, List.nodup_cons] at hn
    have hc := h a i (List.mem_cons_self ..)
    obtain ⟨st', e1, e2, e3⟩ := frz_told (b := b) (q := q) T cs (st.set (b + i) .dead) (fun c j hj => by
      have : i ≠ j := fun e => hn.1 (List.mem_map.mpr ⟨(c, j), hj, e.symm⟩)
      rw [List.getElem?_set_ne (by omega)]
      exact h c j (List.mem_cons_of_mem _ hj)) hn.2
    refine ⟨st', ?_, by rw [e2, List.length_set], fun k hk => by rw [e3 k hk, List.getElem?_set_ne (by omega)]⟩
    have hf : frzV (q + 2) (.loc (b + i)) st = some (setW (cs.getD i []), st.set (b + i) .dead) := by
      rw [frzV]
      simp only [hc, cellW]
      rw [frzD_of fun p hp => ?_]
      · rfl
      · obtain ⟨x, _, rfl⟩ := List.mem_map.mp hp
        exact frz_le (k := 0) rfl (by omega)
    unfold encD at e1 ⊢
    rw [List.map_cons, frzD]
    simp only [hf, Option.bind_some, e1, Option.map_some, List.map_cons]
theorem frzD_app {f : PV → Store → Option (PV × Store)} : ∀ {a b a' b' : List (PV × PV)} {st s1 s2 : Store}, frzD f a st = some (a', s1) → frzD f b s1 = some (b', s2) → frzD f (a ++ b) st = some (a' ++ b', s2)
  | [], b, a', b', st, s1, s2, h1, h2 => by
    rw [frzD] at h1
    cases h1
    exact h2
  | p :: a, b, a', b', st, s1, s2, h1, h2 => by
    rw [frzD] at h1
    rw [List.cons_append, frzD]
    cases hf : f p.2 st with
    | none => rw [hf] at h1; simp at h1
    | some q =>
      rw [hf] at h1
      simp only [Option.bind_some] at h1 ⊢
      cases hr : frzD f a q.2 with
      | none => rw [hr] at h1; simp at h1
      | some q2 =>
        rw [hr] at h1
        simp only [Option.map_some, Option.some.injEq, Prod.mk.injEq] at h1
        obtain ⟨rfl, rfl⟩ := h1
        rw [frzD_app hr h2]
        rfl
theorem fold_enc {α β : Type} [DecidableEq α] {ke : α → PV} {ve : β → PV} (hk : ∀ x y, ke x = ke y → x = y) : ∀ (l acc : List (α × β)), ((acc ++ l).map (·.1)).Nodup → (encD ke ve l).foldl (fun a p => put a p.1 p.2) (encD ke ve acc) = encD ke ve (acc ++ l)
  | [], acc, _ => by simp [encD]
  | p :: r, acc, h => by
    have hacc : (acc.map (·.1)).Nodup := by rw [List.map_append, List.nodup_append] at h; exact h.1
    have hnew : lookT acc p.1 = none := by
      rw [lookT_none]
      intro hm
      rw [List.map_append, List.nodup_append] at h
      exact h.2.2 _ hm _ (by simp) rfl
    show (encD ke ve r).foldl _ (put (encD ke ve acc) (ke p.1) (ve p.2)) = _
    rw [put_enc hk _ hacc, putT_new hnew, fold_enc hk _ _ (by simpa using h)]
    simp
theorem lookT_app2 {α β : Type} [DecidableEq α] : ∀ {a b : List (α × β)} {x : α}, lookT (a ++ b) x = (lookT a x).or (lookT b x)
  | [], b, x => by simp [lookT]
  | p :: a, b, x => by
    rw [List.cons_append, lookT, lookT]
    by_cases h : p.1 = x
    · simp [h]
    · simp only [if_neg h]; exact lookT_app2
/-- the ends, each a word -/
def endW (g : Gr) : FT := (rngI g.n (g.n + g.e)).map fun x => (x, [[x]])
theorem endW_keys {g : Gr} : (endW g).map (·.1) = rngI g.n (g.n + g.e) := by unfold endW; rw [List.map_map]; simp [Function.comp_def]
theorem endW_look {g : Gr} {t : Int} {w : Wd} : w ∈ (lookT (endW g) t).getD [] ↔ (g.n ≤ t ∧ t < g.n + g.e) ∧ w = [t] := by
  constructor
  · intro h
    cases hl : lookT (endW g) t with
    | none => rw [hl] at h; cases h
    | some l =>
      rw [hl] at h
      obtain ⟨x, hx, e⟩ := List.mem_map.mp (lookT_mem hl)
      cases e
      exact ⟨mem_rngI.mp hx, List.mem_singleton.mp h⟩
  · rintro ⟨h, rfl⟩
    have : lookT (endW g) t = some [[t]] := lookT_of_mem (by rw [endW_keys]; exact rngI_nodup) (List.mem_map.mpr ⟨t, mem_rngI.mpr h, rfl⟩)
    rw [this]
    simp
section
variable {g : Gr} {fs : List FT} {st : Store} {kf L : Nat} {FU : List (Int × List Int)}
theorem x_c2 (hg : g.Nice) (he : g.n + g.e ≤ 5) {fr : Fr} (h2 : fr[2]? = some (some (.int g.n))) (h3 : fr[3]? = some (some (.int g.e))) (h12 : 12 < fr.length) : ev (denT fnT 22) dWordsByLength_c2 fr st = some (.dct false (encD .int setW (endW g)), st) := by
  have h1 := hg.n1
  have h4 := hg.e1
  unfold dWordsByLength_c2
  rw [ev_dcT (s1 := st) (xs := rngI g.n (g.n + g.e)) .int .int (fun x => setW [[x]]) (by simp [h2, h3, kR2_int (m := g.n) (n := g.n + g.e) (by omega) (by omega) (by omega) (by omega)]) (fun x hx => ⟨_, by simp [wipeF, h12]; rfl, ?_, ?_, rfl⟩) (by rw [rngI_len]; unfold SZ; omega)]
  · have e : ((rngI g.n (g.n + g.e)).map fun x => (PV.int x, setW [[x]])) = encD .int setW (endW g) := by simp [encD, endW]
    rw [e, dctL_enc int_inj (by rw [endW_keys]; exact rngI_nodup)]
    rfl
  · simp [List.getElem?_set, h12]
  · have hk : kFor true (.tup [.int x]) = true := kFor_wv (w := [x])
    simp [List.getElem?_set, h12, prs, dctL, put, mkD, hk, setW, encS, wv]
/-- bare, frozen -/
theorem x_bare (hg : g.Nice) (he : g.n + g.e ≤ 5) (hL : 1 ≤ L) (hfl : fs.length = L) (hf : FO g fs) {T : List (Int × Nat)} {cs : List (List Wd)} (hi : PI fs L g.rs T cs) (a0 a1 a4 a5 a6 a7 a10 : Option PV) :
    ∃ B st', exs (denT fnT 22) [.ife (.cmp .eq (.var 8) (.con (.int 1))) [.ex (.bm .upd (.var 9) [dWordsByLength_c2])] [], .frz 9] [a0, a1, some (.int g.n), some (.int g.e), a4, a5, a6, a7, some (.int L), some (.loc st.length), a10, none, none, none, none, none, none] (pS st T cs)
      = some (.nx, [a0, a1, some (.int g.n), some (.int g.e), a4, a5, a6, a7, some (.int L), some (.dct false (encD .int setW B)), a10, none, none, none, none, none, none], st') ∧ (∀ k, k < st.length → st'[k]? = st[k]?) ∧ (∀ t w, w ∈ (lookT B t).getD [] ↔ Bare g fs L t w) ∧ ∀ t, ((lookT B t).getD []).Nodup := by
  have hin : (T.map (·.2)).Nodup := by
    rw [List.Nodup, List.pairwise_map]
    have h1 : T.Pairwise fun p q => p.1 ≠ q.1 := List.pairwise_map.mp hi.ndT
    refine List.Pairwise.imp_of_mem (fun {p q} hp hq h e => h ?_) h1
    exact hi.inj p.1 q.1 p.2 (lookT_of_mem hi.ndT hp) (by rw [e]; exact lookT_of_mem hi.ndT hq)
  have hA : ∀ t, lookT (T.map fun p => (p.1, cs.getD p.2 [])) t = (lookT T t).map fun i => cs.getD i [] := fun t => lookT_map (f := fun _ i => cs.getD i [])
  have hAm : ∀ t w, w ∈ (lookT (T.map fun p => (p.1, cs.getD p.2 [])) t).getD [] ↔ PM fs L g.rs t w := fun t w => by
    rw [hA]
    cases hl : lookT T t with
    | none =>
      simp only [Option.map_none, Option.getD_none]
      constructor
      · intro h; cases h
      · rintro ⟨x, y, m, h, _⟩; exact absurd h (hi.non t hl x y)
    | some i => exact hi.mem t i hl w
  have hAn : ∀ t, ((lookT (T.map fun p => (p.1, cs.getD p.2 [])) t).getD []).Nodup := fun t => by
    rw [hA]
    cases lookT T t with
    | none => simp
    | some i => exact hi.nd i
  have hcell : ∀ a i, (a, i) ∈ T → (pS st T cs)[st.length + 1 + i]? = some (cellW (cs.getD i [])) := fun a i h => pS_cell (hi.lt a i (lookT_of_mem hi.ndT h))
  by_cases h1 : L = 1
  · subst h1
    -- the ends are put in
    have hdis : ∀ x ∈ rngI g.n (g.n + g.e), lookT T x = none := fun x hx => by
      cases hl : lookT T x with
      | none => rfl
      | some i =>
        obtain ⟨s, t, h⟩ := hi.key x i hl
        have := hg.rng _ h
        have := mem_rngI.mp hx
        simp only at *
        omega
    have hndv : ((T.map fun p => (p.1, PV.loc (st.length + 1 + p.2))) ++ (endW g).map fun p => (p.1, setW p.2)).map (·.1) = T.map (·.1) ++ rngI g.n (g.n + g.e) := by
      rw [List.map_append, List.map_map, List.map_map, ← endW_keys]; rfl
    have hnd : (((T.map fun p => (p.1, PV.loc (st.length + 1 + p.2))) ++ (endW g).map fun p => (p.1, setW p.2)).map (·.1)).Nodup := by
      rw [hndv, List.nodup_append]
      exact ⟨hi.ndT, rngI_nodup, fun x hx y hy e => by subst e; exact lookT_none.mp (hdis x hy) hx⟩
    have et : encD .int (fun i => PV.loc (st.length + 1 + i)) T = encD .int id (T.map fun p => (p.1, PV.loc (st.length + 1 + p.2))) := by simp [encD]
    have ee : encD .int setW (endW g) = encD .int id ((endW g).map fun p => (p.1, setW p.2)) := by simp [encD]
    have hupd : bmP .upd (.loc st.length) [.dct false (encD .int setW (endW g))] (pS st T cs) = some (.non, (pS st T cs).set st.length (.dct false (encD .int (fun i => PV.loc (st.length + 1 + i)) T ++ encD .int setW (endW g)))) := by
      have e1 : bmP .upd (.loc st.length) [.dct false (encD .int setW (endW g))] (pS st T cs) = updP (.loc st.length) false (encD .int setW (endW g)) (pS st T cs) := rfl
      have hz : (encD .int (fun i => PV.loc (st.length + 1 + i)) T).length + (encD .int setW (endW g)).length ≤ SZ := by
        rw [encD_len, encD_len]
        have h1 := hi.cnt
        have h2 := hg.few
        have h3 : (endW g).length = (g.n + g.e - g.n).toNat := by rw [← rngI_len, ← endW_keys, List.length_map]
        have h4 := hg.n1
        rw [h3]
        unfold SZ
        omega
      rw [e1]
      unfold updP
      simp only [pS_told, hz, true_or, and_self, if_true]
      rw [et, ee, fold_enc int_inj _ _ hnd]
      simp [encD]
    have hbu : bmT .upd (.loc st.length) (pS st T cs) = true := by simp [bmT, dctOf, pS_told]
    have hc2 := x_c2 (st := pS st T cs) hg he (fr := [a0, a1, some (.int g.n), some (.int g.e), a4, a5, a6, a7, some (.int 1), some (.loc st.length), a10, none, none, none, none, none, none]) rfl rfl (by simp)
    obtain ⟨st1, e1, e2, e3⟩ := frz_told (b := st.length + 1) (q := 27) T cs (((pS st T cs).set st.length (.dct false (encD .int (fun i => PV.loc (st.length + 1 + i)) T ++ encD .int setW (endW g)))).set st.length .dead) (fun a i h => by
      rw [List.getElem?_set_ne (by omega), List.getElem?_set_ne (by omega)]
      exact hcell a i h) hin
    have hfz : frzV 30 (.loc st.length) ((pS st T cs).set st.length (.dct false (encD .int (fun i => PV.loc (st.length + 1 + i)) T ++ encD .int setW (endW g)))) = some (.dct false (encD .int setW ((T.map fun p => (p.1, cs.getD p.2 [])) ++ endW g)), st1) := by
      have hc : ((pS st T cs).set st.length (.dct false (encD .int (fun i => PV.loc (st.length + 1 + i)) T ++ encD .int setW (endW g))))[st.length]? = some (.dct false (encD .int (fun i => PV.loc (st.length + 1 + i)) T ++ encD .int setW (endW g))) := by
        rw [List.getElem?_set_self (by rw [pS_len]; omega)]
      rw [frzV]
      simp only [hc]
      have h2 : frzD (frzV 29) (encD .int setW (endW g)) st1 = some (encD .int setW (endW g), st1) := frzD_of fun p hp => by
        obtain ⟨x, _, rfl⟩ := List.mem_map.mp hp
        exact frz_setW
      rw [frzD_app e1 h2, ← encD_append]
      rfl
    refine ⟨(T.map fun p => (p.1, cs.getD p.2 [])) ++ endW g, st1, ?_, fun k hk => ?_, fun t w => ?_, fun t => ?_⟩
    · simp [hbu, hc2, hupd, hfz]
    · rw [e3 k (by omega), List.getElem?_set_ne (by omega), List.getElem?_set_ne (by omega), pS_old hk]
    · rw [lookT_app2]
      by_cases ht : g.n ≤ t ∧ t < g.n + g.e
      · have : lookT (T.map fun p => (p.1, cs.getD p.2 [])) t = none := by rw [hA, hdis t (mem_rngI.mpr ht)]; rfl
        rw [this, Option.none_or, endW_look]
        unfold Bare
        have hno : ¬ PM fs 1 g.rs t w := by rw [← hAm, this]; intro h; cases h
        constructor
        · rintro ⟨_, h⟩; exact .inr ⟨rfl, ht, h⟩
        · rintro (h | ⟨_, _, h⟩)
          · exact absurd h hno
          · exact ⟨ht, h⟩
      · have he : lookT (endW g) t = none := by rw [lookT_none, endW_keys, mem_rngI]; exact ht
        rw [he, Option.or_none, hAm]
        unfold Bare
        constructor
        · exact .inl
        · rintro (h | ⟨_, h, _⟩)
          · exact h
          · exact absurd h ht
    · rw [lookT_app2]
      cases hl : lookT (T.map fun p => (p.1, cs.getD p.2 [])) t with
      | some l => have := hAn t; rw [hl] at this; exact this
      | none =>
        rw [Option.none_or]
        cases hl2 : lookT (endW g) t with
        | none => simp
        | some l =>
          obtain ⟨x, hx, e⟩ := List.mem_map.mp (lookT_mem hl2)
          cases e
          simp
  · obtain ⟨st1, e1, e2, e3⟩ := frz_told (b := st.length + 1) (q := 27) T cs ((pS st T cs).set st.length .dead) (fun a i h => by
      rw [List.getElem?_set_ne (by omega)]
      exact hcell a i h) hin
    have hfz : frzV 30 (.loc st.length) (pS st T cs) = some (.dct false (encD .int setW (T.map fun p => (p.1, cs.getD p.2 []))), st1) := by
      rw [frzV]
      simp only [pS_told]
      rw [e1]
      rfl
    refine ⟨T.map fun p => (p.1, cs.getD p.2 []), st1, ?_, fun k hk => ?_, fun t w => ?_, hAn⟩
    · have : ¬ (L : Int) = 1 := by omega
      simp [this, hfz]
    · rw [e3 k (by omega), List.getElem?_set_ne (by omega), pS_old hk]
    · rw [hAm]
      unfold Bare
      constructor
      · exact .inl
      · rintro (h | ⟨h, _⟩)
        · exact h
        · exact absurd h h1
end
end K89
end

section
set_option Elab.async false
set_option linter.all false
set_option maxRecDepth 100000
set_option autoImplicit false
set_option maxHeartbeats 4000000
namespace K89
open PySem (Str)
open Pv

section
variable {g : Gr} {fs : List FT} {st : Store} {kf L : Nat} {FU : List (Int × List Int)} {B : FT}
def frW (g : Gr) (most : Nat) (row : Row) (FU : List (Int × List Int)) (kf : Nat) (p8 p9 p10 : Option PV) : Fr := [some (grv g), some (.int most), some (.int g.n), some (.int g.e), some (.tup (g.rs.map rv)), some (.dct false (encR row)), some (.dct false (encD .int setV FU)), some (.loc kf), p8, p9, p10, none, none, none, none, none, none]
theorem nextR_keys : (nextR FU B).map (·.1) = FU.map (·.1) := by unfold nextR; rw [List.map_map]; rfl
theorem nextF_keys : (nextF FU B).map (·.1) = FU.map (·.1) := by unfold nextF; rw [List.map_map, ← nextR_keys (B := B)]; rfl
theorem x_c3 (hg : g.Nice) (he : g.n + g.e ≤ 5) (hL4 : L ≤ 4) (hf : FO g fs) (hfl : fs.length = L) (hB : ∀ t w, w ∈ (lookT B t).getD [] ↔ Bare g fs L t w) (hBn : ∀ t, ((lookT B t).getD []).Nodup) (hu : UW g FU) {most : Nat} {row : Row} {p8 p10 : Option PV} :
    ev (denT fnT 22) dWordsByLength_c3 (frW g most row FU kf p8 (some (.dct false (encD .int setW B))) p10) st = some (.dct false (encD .int wsV (nextR FU B)), st) := by
  have hnd : (FU.map (·.1)).Nodup := by rw [hu.keys]; exact rngI_nodup
  have hlen : FU.length ≤ 5 := by
    have := congrArg List.length hu.keys
    rw [List.length_map, rngI_len] at this
    have := hg.n1
    omega
  unfold dWordsByLength_c3
  rw [ev_dcT (s1 := st) (xs := FU) (fun p => .int p.1) (fun p => .int p.1) (fun p => wsV (p.2.flatMap fun t => (lookT B t).getD [])) (by simp [frW, encD, List.map_map, Function.comp_def]) (fun p hp => ⟨_, rfl, ?_, ?_, rfl⟩) (by unfold SZ; omega)]
  · have e : (FU.map fun p => (PV.int p.1, wsV (p.2.flatMap fun t => (lookT B t).getD []))) = encD .int wsV (nextR FU B) := by simp [encD, nextR, List.map_map, Function.comp_def]
    rw [e, dctL_enc int_inj (by rw [nextR_keys]; exact hnd)]
    rfl
  · simp [frW, wipeF]
  · have hl := lookT_of_mem (a := p.1) (b := p.2) hnd hp
    have hix : idxP (.dct false (encD .int setV FU)) (.int p.1) st = some (setV p.2) := idx_enc (ke := .int) (ve := setV) int_inj dctOf_val rfl hl
    have hsm := bare_few hg he hL4 hf hfl hB hBn hu hl
    have e : (p.2.flatMap fun t => (lookT B t).getD []).map wv = p.2.flatMap fun t => ((lookT B t).getD []).map wv := List.map_flatMap
    unfold wsV
    rw [e]
    unfold dWordsByLength_c4
    refine ev_lc2T (s1 := st) (xs := p.2) .int wv (fun t => (lookT B t).getD []) (fun _ y => wv y) ?_ (fun t ht => ⟨_, rfl, ?_, fun y hy => ⟨_, rfl, ?_⟩⟩) (by rw [← e, List.length_map]; unfold SZ; omega)
    · simp [frW, wipeF, hix, setV, encS_keys]
    · have hbt : bmT .get2 (.dct false (encD .int setW B)) st = true := rfl
      have hget := get2_enc (ke := .int) (ve := setW) (F := B) (a := t) (t := false) (x := .dct false (encD .int setW B)) (d := .dct false []) (st := st) int_inj dctOf_val rfl
      have hs : kSeq (((lookT B t).map setW).getD (.dct false [])) st = some (((lookT B t).getD []).map wv, st) := by
        cases lookT B t with
        | none => simp
        | some l => simp [setW, encS_keys]
      simp [frW, wipeF, hbt, prs, dctL, mkD, hget, hs]
    · simp [frW, wipeF]
theorem x_c5 (hg : g.Nice) (he : g.n + g.e ≤ 5) (hL4 : L ≤ 4) (hf : FO g fs) (hfl : fs.length = L) (hB : ∀ t w, w ∈ (lookT B t).getD [] ↔ Bare g fs L t w) (hBn : ∀ t, ((lookT B t).getD []).Nodup) (hu : UW g FU) {most : Nat} {row : Row} {p8 p9 : Option PV} :
    ev (denT fnT 22) dWordsByLength_c5 (frW g most row FU kf p8 p9 (some (.dct false (encD .int wsV (nextR FU B))))) st = some (dV (nextF FU B), st) := by
  have hnd : (FU.map (·.1)).Nodup := by rw [hu.keys]; exact rngI_nodup
  have hlen : FU.length ≤ 5 := by
    have := congrArg List.length hu.keys
    rw [List.length_map, rngI_len] at this
    have := hg.n1
    omega
  have hlr : (nextR FU B).length ≤ 5 := by unfold nextR; rw [List.length_map]; exact hlen
  unfold dWordsByLength_c5
  rw [ev_dcT (s1 := st) (xs := nextR FU B) (fun p => .tup [.int p.1, wsV p.2]) (fun p => .int p.1) (fun p => wsV (addS [] p.2)) (by simp [frW, encD, List.map_map, Function.comp_def]) (fun p hp => ⟨_, rfl, ?_, ?_, rfl⟩) (by unfold SZ; omega)]
  · have e : ((nextR FU B).map fun p => (PV.int p.1, wsV (addS [] p.2))) = encD .int wsV (nextF FU B) := by simp [encD, nextF, List.map_map, Function.comp_def]
    rw [e, dctL_enc int_inj (by rw [nextF_keys]; exact hnd)]
    rfl
  · simp [frW, wipeF]
  · obtain ⟨q, hq, rfl⟩ := List.mem_map.mp hp
    have hsm := bare_few hg he hL4 hf hfl hB hBn hu (lookT_of_mem (a := q.1) (b := q.2) hnd hq)
    generalize (q.2.flatMap fun t => (lookT B t).getD []) = l at hsm
    have hc6 : ∀ fr : Fr, fr[15]? = some (some (wsV l)) → 16 < fr.length → ev (denT fnT 22) dWordsByLength_c6 fr st = some (.dct true (encS wv (addS [] l)), st) := fun fr h15 h16 => by
      unfold dWordsByLength_c6
      rw [ev_dcT (s1 := st) (xs := l) wv wv (fun _ => .bl true) (by simp [h15, wsV]) (fun x hx => ⟨_, by simp [wipeF, h16]; rfl, ?_, by simp, kFor_wv⟩) (by unfold SZ; omega)]
      · have e : (l.map fun x => (wv x, PV.bl true)) = encS wv l := rfl
        rw [e, dctL_encS wv_inj]
        rfl
      · simp [List.getElem?_set, h16]
    have hli : biP .list [.dct true (encS wv (addS [] l))] st = some (wsV (addS [] l)) := by
      have : biP .list [.dct true (encS wv (addS [] l))] st = some (.lst ((encS wv (addS [] l)).map (·.1))) := rfl
      rw [this, encS_keys]
      rfl
    have := hc6 [some (grv g), some (.int most), some (.int g.n), some (.int g.e), some (.tup (g.rs.map rv)), some (.dct false (encR row)), some (.dct false (encD .int setV FU)), some (.loc kf), p8, p9, some (.dct false (encD .int wsV (nextR FU B))), none, none, some (.int q.1), none, some (wsV l), none] rfl (by simp)
    simp [frW, wipeF, this, hli]
theorem x_step (hg : g.Nice) (he : g.n + g.e ≤ 5) (hL : 1 ≤ L) (hL4 : L ≤ 4) (hf : FO g fs) (hfl : fs.length = L) (hu : UW g FU) (hk : st[kf]? = some (.lst (fs.map dV))) {most : Nat} {row : Row} {p9 p10 : Option PV} :
    ∃ FN st' q9 q10, exs (denT fnT 22) dWordsByLength_l1b (frW g most row FU kf (some (.int L)) p9 p10) st = some (.nx, frW g most row FU kf (some (.int L)) q9 q10, st') ∧ st'[kf]? = some (.lst ((fs ++ [FN]).map dV)) ∧ FO g (fs ++ [FN]) := by
  obtain ⟨T, cs, e1, hi⟩ := q21 (n := 22) (by decide) hg he hL4 hfl hf hk
  obtain ⟨B, st', e2, hold, hB, hBn⟩ := x_bare (st := st) hg he hL hfl hf hi (some (grv g)) (some (.int most)) (some (.tup (g.rs.map rv))) (some (.dct false (encR row))) (some (.dct false (encD .int setV FU))) (some (.loc kf)) p10
  have hkl : kf < st.length := by obtain ⟨h, _⟩ := List.getElem?_eq_some_iff.mp hk; exact h
  have hk' : st'[kf]? = some (.lst (fs.map dV)) := by rw [hold kf hkl]; exact hk
  have h3 := x_c3 (kf := kf) (st := st') hg he hL4 hf hfl hB hBn hu (most := most) (row := row) (p8 := some (.int L)) (p10 := p10)
  have h5 := x_c5 (kf := kf) (st := st') hg he hL4 hf hfl hB hBn hu (most := most) (row := row) (p8 := some (.int L)) (p9 := some (.dct false (encD .int setW B)))
  refine ⟨nextF FU B, st'.set kf (.lst ((fs ++ [nextF FU B]).map dV)), some (.dct false (encD .int setW B)), some (.dct false (encD .int wsV (nextR FU B))), ?_, ?_, next_ok hg hf hfl hL hu hB⟩
  · have happ : bmP .append (.loc kf) [dV (nextF FU B)] st' = some (.non, st'.set kf (.lst ((fs ++ [nextF FU B]).map dV))) := by
      have e : bmP .append (.loc kf) [dV (nextF FU B)] st' = appP (.loc kf) (dV (nextF FU B)) st' := rfl
      rw [e]
      unfold appP
      simp only [hk']
      rw [if_pos (by rw [List.length_map]; unfold SZ; omega), List.map_append]
      rfl
    have hbt : bmT .append (.loc kf) st' = true := by simp [bmT, lstOf, hk']
    unfold dWordsByLength_l1b
    unfold frW at h3 h5 ⊢
    rw [z_s1]
    simp only [z_set, z_call, z_cons, z_nil, z_var, List.getElem?_cons_succ, List.getElem?_cons_zero, gv_some, Option.bind_some, kPr_mk, Option.map_some, e1, asgT_nm, List.length_cons, List.length_nil, Nat.zero_add, Nat.reduceAdd, Nat.reduceLT, if_true, List.set_cons_succ, List.set_cons_zero, kSq_nx]
    rw [exs_two e2]
    simp [h3, h5, hbt, happ]
  · rw [List.getElem?_set_self (by obtain ⟨h, _⟩ := List.getElem?_eq_some_iff.mp hk'; exact h)]
theorem q22 {n : Nat} (h : 22 < n) (hg : g.Nice) (he : g.n + g.e ≤ 5) {most : Nat} (hm : most ≤ 4) {st : Store} :
    ∃ fs : List FT, fs.length = most + 1 ∧ FO g fs ∧ denT fnT n 22 [grv g, .int most] st = some (.lst (fs.map dV), st) := by
  have hn1 := hg.n1
  have he1 := hg.e1
  have hE0 : InE g [] := fun x hx => by cases hx
  obtain ⟨D, ec, hds, hdc, hall⟩ := chart0 (n := 22) (by decide) (g := g) (w := []) (fr := [some (grv g), some (.int most), some (.int g.n), some (.int g.e), some (.tup (g.rs.map rv)), none, none, none, none, none, none, none, none, none, none, none, none]) (a := .var 0) (b := .tup []) hg (by omega) (by simp) hE0 (by simp) (by simp; rfl)
  obtain ⟨row, hrow⟩ := Option.isSome_iff_exists.mp (hall 0 0 (Nat.le_refl _) (Nat.le_refl _))
  obtain ⟨k, hk1, hk2⟩ := ch_row (g := g) hrow
  have hrs := (hds 0 0 row hrow).2.2
  have hnul : Nul g row := fun s => by
    constructor
    · intro h
      obtain ⟨t, ht⟩ := Option.isSome_iff_exists.mp h
      have := (hrs.tr s t ht).der
      rwa [sub_self] at this
    · intro d
      exact hdc 0 0 row hrow s (by rw [sub_self]; exact d)
  have hfew := hrs.few hg
  have hkk : kk g ≤ 5 := by unfold kk; omega
  have hlk : ∀ p ∈ row, Tr g p.1 (sub [] 0 0) (bs g 0 0 + row.length) p.2 := fun p hp => hrs.tr p.1 p.2 (lookT_of_mem hrs.nd hp)
  have hlr : lfD (encR row) = true := lfD_of fun p hp => by
    obtain ⟨q, hq, rfl⟩ := List.mem_map.mp hp
    exact ⟨rfl, (hlk q hq).lf⟩
  have hfz : frzV 30 (.loc k) (chS g D) = some (.dct false (encR row), (chS g D).set k .dead) := by
    rw [frzV]
    simp only [hk2]
    rw [frzD_of fun p hp => ?_]
    · rfl
    · obtain ⟨q, hq, rfl⟩ := List.mem_map.mp hp
      have hb : bs g 0 0 = 0 := by simp [bs]
      exact frz_le (hlk q hq).isD (by rw [hb]; omega)
  obtain ⟨FU, hu, e20⟩ := q20 (n := 22) (by decide) hg (by omega) hnul hlr (st := (chS g D).set k .dead)
  -- the first list
  have hF0 : FO g [row.map fun p => (p.1, [([] : Wd)])] := by
    have hf : ∀ s, fat [row.map fun p => (p.1, [([] : Wd)])] 0 s = ((lookT row s).map fun _ => [([] : Wd)]).getD [] := fun s => by
      unfold fat
      simp only [List.getElem?_cons_zero, Option.bind_some]
      rw [lookT_map (f := fun _ _ => [([] : Wd)])]
    refine ⟨fun m hm s w => ?_, fun m s => ?_⟩
    · obtain rfl : m = 0 := by simpa using hm
      rw [hf]
      constructor
      · intro h
        cases hl : lookT row s with
        | none => rw [hl] at h; cases h
        | some t =>
          rw [hl] at h
          simp at h
          subst h
          exact ⟨(hnul s).mp (by rw [hl]; rfl), rfl⟩
      · rintro ⟨d, hl⟩
        obtain rfl := List.eq_nil_of_length_eq_zero hl
        obtain ⟨t, ht⟩ := Option.isSome_iff_exists.mp ((hnul s).mpr d)
        rw [ht]; simp
    · cases m with
      | zero => rw [hf]; cases lookT row s <;> simp
      | succ m => simp [fat]
  have hkeys : ((row.map fun p => (p.1, [([] : Wd)])).map (·.1)).Nodup := by rw [List.map_map]; exact hrs.nd
  have hc1 : ∀ st', ev (denT fnT 22) dWordsByLength_c1 [some (grv g), some (.int most), some (.int g.n), some (.int g.e), some (.tup (g.rs.map rv)), some (.dct false (encR row)), none, none, none, none, none, none, none, none, none, none, none] st' = some (dV (row.map fun p => (p.1, [([] : Wd)])), st') := fun st' => by
    have hmk : mkL false [.tup []] st' = some (.lst [.tup []], st') := mkL_false (by simp [SZ])
    unfold dWordsByLength_c1
    rw [ev_dcT (s1 := st') (xs := row) (fun p => .int p.1) (fun p => .int p.1) (fun p => .lst [.tup []]) (by simp [encR, encD, List.map_map, Function.comp_def]) (fun p hp => ⟨_, rfl, by simp [wipeF], by simp [hmk], rfl⟩) (by unfold SZ; omega)]
    have e : (row.map fun p => (PV.int p.1, PV.lst [PV.tup []])) = encD .int wsV (row.map fun p => (p.1, [([] : Wd)])) := by simp [encD, wsV, wv, List.map_map, Function.comp_def]
    rw [e, dctL_enc int_inj hkeys]
    rfl
  have hmkc : ∀ v st', mkL true [v] st' = some (.loc st'.length, st' ++ [.lst [v]]) := fun v st' => by unfold mkL; rw [if_pos (by simp [SZ])]; rfl
  -- the loop
  obtain ⟨fr', s', e, fs, p8, p9, p10, rfl, hkf, hfs, hfl⟩ := fr_go (F := fun m : Nat => PV.int m) (asg := asgT (.nm 8)) (b := fun fr st => exs (denT fnT 22) dWordsByLength_l1b fr st) (List.range' 1 most)
    (fun l fr st' => ∃ fs p8 p9 p10, fr = frW g most row FU ((chS g D).set k .dead).length p8 p9 p10 ∧ st'[((chS g D).set k .dead).length]? = some (.lst (fs.map dV)) ∧ FO g fs ∧ fs.length = l.length + 1) (fun l m r fr st' hl hI => by
      obtain ⟨fs, p8, p9, p10, rfl, hkf, hfs, hfl⟩ := hI
      have hm' : m = l.length + 1 ∧ l.length < most := by
        have h1 := congrArg List.length hl
        rw [List.length_range', List.length_append, List.length_cons] at h1
        have h2 : (List.range' 1 most)[l.length]? = some m := by rw [hl, List.getElem?_append_right (Nat.le_refl _)]; simp
        rw [List.getElem?_range' (by omega)] at h2
        cases h2
        omega
      obtain ⟨FN, st2, q9, q10, e, h1, h2⟩ := x_step (L := m) (kf := ((chS g D).set k .dead).length) (p9 := p9) (p10 := p10) (most := most) (row := row) hg he (by omega) (by omega) hfs (by omega) hu hkf
      exact ⟨_, _, st2, rfl, e, fs ++ [FN], _, _, _, rfl, h1, h2, by simp; omega⟩) (frW g most row FU ((chS g D).set k .dead).length none none none) ((chS g D).set k .dead ++ [.lst [dV (row.map fun p => (p.1, [([] : Wd)]))]]) ⟨[row.map fun p => (p.1, [([] : Wd)])], none, none, none, rfl, by rw [List.getElem?_append_right (Nat.le_refl _)]; simp, hF0, rfl⟩
  rw [List.length_range'] at hfl
  refine ⟨fs, hfl, hfs, ?_⟩
  rw [dWordsByLength_at h]
  have hfe : frzV 30 (.loc ((chS g D).set k .dead).length) s' = some (.lst (fs.map dV), s'.set ((chS g D).set k .dead).length .dead) := by
    rw [frzV]
    simp only [hkf]
    rw [frz_fs]
    rfl
  have hlv : lf (.lst (fs.map dV)) = true := by
    rw [lf]
    refine lfL_of fun x hx => ?_
    obtain ⟨F, _, rfl⟩ := List.mem_map.mp hx
    unfold dV
    rw [lf]
    refine lfD_of fun p hp => ?_
    obtain ⟨q, _, rfl⟩ := List.mem_map.mp hp
    refine ⟨rfl, ?_⟩
    unfold wsV
    rw [lf]
    refine lfL_of fun x hx => ?_
    obtain ⟨w, _, rfl⟩ := List.mem_map.mp hx
    exact lf_wv
  have ha : asgT (.tp [.nm 2, .nm 3, .nm 4]) (grv g) [some (grv g), some (.int most), none, none, none, none, none, none, none, none, none, none, none, none, none, none, none] = some [some (grv g), some (.int most), some (.int g.n), some (.int g.e), some (.tup (g.rs.map rv)), none, none, none, none, none, none, none, none, none, none, none, none] := rfl
  refine denF_own (s1 := s'.set ((chS g D).set k .dead).length .dead) ?_ rfl rfl (by simp [lfL, lf_grv, lf]) hlv
  have hp : PV.tup [.int 0, .int 0] = ppv (0, 0) := rfl
  have hk2 : ∀ st', kR2 (.int 1) (.int ((most : Int) + 1)) st' = some ((List.range' 1 most).map fun m : Nat => PV.int m, st') := fun st' => kR2_nat (i := 1) (j := most + 1) (by omega) (by omega)
  unfold frW at e
  show runB (denT fnT 22) dWordsByLength.body [some (grv g), some (.int most), none, none, none, none, none, none, none, none, none, none, none, none, none, none, none] [] = _
  unfold dWordsByLength
  rw [z_runB, z_s1, z_set, z_var]
  simp only [List.getElem?_cons_zero, gv_some, Option.bind_some, kPr_mk, ha, Option.map_some, kSq_nx]
  rw [z_s1, z_set, z_idx, ec]
  simp [hp, hk1, hfz, e20, hc1, hmkc, dWordsByLength_l1, z_frr, hk2, e, hfe, -List.length_set]
theorem q26 {n : Nat} (h : 26 < n) (hk : g.Ok) (he : g.n + g.e ≤ 5) {m : Nat} (hm : m ≤ 4) {s : Int} (h0 : 0 ≤ s) (h1 : s < g.n) {st : Store} :
    ∃ l : List Wd, l.Nodup ∧ (∀ w, w ∈ l ↔ Der g s w ∧ w.length = m) ∧ denT fnT n 26 [grv g, .int s, .int m] st = some (.int l.length, st) := by
  obtain ⟨fs, hfl, hfs, e⟩ := q22 (n := 26) (by decide) hk.nice he hm (st := st)
  refine ⟨fat fs m s, hfs.nd m s, fun w => hfs.mem m (by omega) s w, ?_⟩
  rw [dCountWords_at h]
  have hF : fs[m]? = some (fs[m]'(by omega)) := List.getElem?_eq_getElem (by omega)
  generalize fs[m]'(by omega) = F at hF
  have hix : idxP (.lst (fs.map dV)) (.int m) st = some (dV F) := by
    have h1 : ixOf fs.length (m : Int) = some m := by unfold ixOf; rw [if_pos (by omega), if_pos (by omega)]; simp
    simp [idxP, dctOf, seqOf, lstOf, h1, hF]
  have hget : bmP .get2 (dV F) [.int s, .lst []] st = some (wsV (fat fs m s), st) := by
    have := get2_enc (ke := .int) (ve := wsV) (F := F) (a := s) (t := false) (x := dV F) (d := .lst []) (st := st) int_inj dctOf_val rfl
    rw [this]
    unfold fat
    rw [hF]
    simp only [Option.bind_some]
    cases lookT F s <;> rfl
  have hbt : bmT .get2 (dV F) st = true := rfl
  have hmk : mkL false [] st = some (.lst [], st) := mkL_false (by decide)
  have hle : ∀ l : List Wd, biP .len [wsV l] st = some (.int l.length) := fun l => by unfold wsV; simp
  have hgt : ¬ (8 : Int) < (m : Int) := by omega
  simp [dCountWords, denF, q15, hk, h0, h1, q6 (n := 26) (by decide) (i := (m : Int)) (by omega), hgt, e, hix, hbt, hmk, hget, hle]
end
end K89
end

section
set_option Elab.async false
set_option linter.all false
set_option maxRecDepth 100000
set_option autoImplicit false
set_option maxHeartbeats 4000000
/-! _law_least, _law_all_words -/
namespace K89
open PySem (Str)
open Pv

theorem b_sum {α : Type} {f : α → Nat} {l : List α} {st : Store} : biP .sum [.lst (l.map fun x => .int (f x))] st = some (.int ((l.map f).sum : Nat)) := by
  have h : ∀ l : List α, intsOf (l.map fun x => PV.int (f x)) = some (l.map fun x => (f x : Int)) := fun l => by
    induction l with
    | nil => rfl
    | cons a l ih => simp [intsOf, ih]
  have h2 : ∀ l : List α, (l.map fun x => (f x : Int)).sum = ((l.map f).sum : Nat) := fun l => by
    induction l with
    | nil => rfl
    | cons a l ih => simp [ih]
  have e : biP .sum [.lst (l.map fun x => .int (f x))] st = (intsOf (l.map fun x => PV.int (f x))).map fun ns => .int ns.sum := rfl
  rw [e, h, Option.map_some, h2]
abbrev LT := List (Int × Nat)
def nV (k : Nat) : PV := .int k
def sumL (F : LT) (ws : List Int) : Nat := (ws.map fun s => (lookT F s).getD 0).sum
structure LI (g : Gr) (F : LT) : Prop where
  nd : (F.map (·.1)).Nodup
  snd : ∀ s k, lookT F s = some k → ∃ w, Der g s w ∧ w.length = k
  en : ∀ s, g.n ≤ s → s < g.n + g.e → lookT F s = some 1
theorem LI.few {g : Gr} (hg : g.Nice) {F : LT} (h : LI g F) : F.length ≤ (g.n + g.e).toNat := by
  have := nodup_len (F.map (·.1)) (rngI 0 (g.n + g.e)) h.nd fun x hx => by
    rw [List.mem_map] at hx
    obtain ⟨p, hp, rfl⟩ := hx
    obtain ⟨w, hw, _⟩ := h.snd p.1 p.2 (lookT_of_mem h.nd hp)
    exact mem_rngI.mpr (hw.sign hg)
  rw [List.length_map, rngI_len] at this
  simpa using this
def LE (g : Gr) (F : LT) (k : Bool) (fr : Fr) (st : Store) : Prop :=
  st = [.dct false (encD .int nV F)] ∧ ∃ z a b c, fr = [some (grv g), some (.int g.n), some (.int g.e), some (.tup (g.rs.map rv)), some (.loc 0), some (.bl k), z, a, b, c, none]
def Lm1 (g : Gr) (F : LT) : Nat := (rngI 0 g.n).countP fun a => (lookT F a).isNone
def Lm2 (g : Gr) (F : LT) : Nat := ((rngI 0 g.n).map fun a => (lookT F a).getD 0).sum
def LC (g : Gr) (r : Ru) (F : LT) : Prop := (∀ s ∈ r.2, (lookT F s).isSome = true) → ∃ k, lookT F r.1 = some k ∧ k ≤ sumL F r.2
theorem sumL_ders {g : Gr} {F : LT} (h : ∀ s k, lookT F s = some k → ∃ w, Der g s w ∧ w.length = k) : ∀ {ws : List Int}, (∀ s ∈ ws, (lookT F s).isSome = true) → ∃ w, Ders g ws w ∧ w.length = sumL F ws
  | [], _ => ⟨[], rfl, rfl⟩
  | s :: ws, hw => by
    obtain ⟨k, e⟩ := Option.isSome_iff_exists.mp (hw s (List.mem_cons_self ..))
    obtain ⟨u, hu, hl⟩ := h s k e
    obtain ⟨v, hv, hl2⟩ := sumL_ders h (ws := ws) fun x hx => hw x (List.mem_cons_of_mem _ hx)
    refine ⟨u ++ v, ⟨u, v, rfl, hu, hv⟩, ?_⟩
    rw [List.length_append, hl, hl2]
    simp [sumL, e]
theorem l_turn {g : Gr} (hg : g.Nice) (hs : g.n + g.e ≤ 1000) (r : Ru) (hr : r ∈ g.rs) (F : LT) (k : Bool) (fr : Fr) (st : Store) (hi : LI g F) (he : LE g F k fr st) :
    ∃ fr1 F' k' fr2 s2, asgT (.tp [.nm 7, .nm 8]) (rv r) fr = some fr1 ∧ exs (denT fnT 40) dLawLeast_l3b fr1 st = some (.nx, fr2, s2) ∧ LI g F' ∧ LE g F' k' fr2 s2 ∧ ((F' = F ∧ k' = k ∧ LC g r F) ∨ (k' = true ∧ (Lm1 g F' < Lm1 g F ∨ (Lm1 g F' = Lm1 g F ∧ Lm2 g F' < Lm2 g F)))) := by
  obtain ⟨rfl, z, a, b, c, rfl⟩ := he
  obtain ⟨nm, ws⟩ := r
  have hrng := hg.rng _ hr
  simp only at hrng
  have hfew := hi.few hg
  have hd : dctOf [Cell.dct false (encD PV.int nV F)] (.loc 0) = some (false, encD PV.int nV F) := rfl
  have hc1 : ev (denT fnT 40) dLawLeast_c1 [some (grv g), some (.int g.n), some (.int g.e), some (.tup (g.rs.map rv)), some (.loc 0), some (.bl k), z, some (.int nm), some (wv ws), c, none] [Cell.dct false (encD PV.int nV F)] = some (.lst (ws.map fun s => .bl (lookT F s).isSome), [Cell.dct false (encD PV.int nV F)]) := by
    refine ev_lcmT (xs := ws) .int (fun s => .bl (lookT F s).isSome) (by simp) (fun x hx => ⟨_, rfl, ?_⟩) (by unfold SZ; omega)
    simp [wipeF, in_enc (ke := .int) (ve := nV) int_inj hd (a := x) rfl]
  have hnin : cmpP .nin (.int nm) (.loc 0) [Cell.dct false (encD PV.int nV F)] = some (lookT F nm).isNone := nin_enc (ke := .int) (ve := nV) int_inj hd rfl
  have hst : ∀ (v : Nat) fr, stI (.loc 0) (.int nm) (.int v) fr [Cell.dct false (encD PV.int nV F)] = some (.nx, fr, [Cell.dct false (encD PV.int nV (putT F nm v))]) := fun v fr => by
    rw [stI_dct (t := false) (kvs := encD PV.int nV F) rfl rfl (by rw [encD_len]; unfold SZ; omega)]
    have := put_enc (ke := .int) (ve := nV) int_inj _ hi.nd nm v
    rw [show PV.int (v : Int) = nV v from rfl, this]
    rfl
  refine ⟨[some (grv g), some (.int g.n), some (.int g.e), some (.tup (g.rs.map rv)), some (.loc 0), some (.bl k), z, some (.int nm), some (wv ws), c, none], ?_⟩
  cases hall : ws.all fun s => (lookT F s).isSome with
  | false =>
    refine ⟨F, k, _, _, rfl, ?_, hi, ⟨rfl, z, some (.int nm), some (wv ws), c, rfl⟩, .inl ⟨rfl, rfl, fun h => ?_⟩⟩
    · simp [dLawLeast_l3b, hc1, b_all, hall]
    · have := List.all_eq_true.mpr h
      rw [hall] at this
      cases this
  | true =>
    have hsome := List.all_eq_true.mp hall
    obtain ⟨w, hders, hwl⟩ := sumL_ders hi.snd hsome
    have hder : Der g nm w := hders.rule hg hr
    have hc2 : ev (denT fnT 40) dLawLeast_c2 [some (grv g), some (.int g.n), some (.int g.e), some (.tup (g.rs.map rv)), some (.loc 0), some (.bl k), z, some (.int nm), some (wv ws), c, none] [Cell.dct false (encD PV.int nV F)] = some (.lst (ws.map fun s => .int ((lookT F s).getD 0 : Nat)), [Cell.dct false (encD PV.int nV F)]) := by
      refine ev_lcmT (xs := ws) .int (fun s => .int ((lookT F s).getD 0 : Nat)) (by simp) (fun x hx => ⟨_, rfl, ?_⟩) (by unfold SZ; omega)
      obtain ⟨v, e⟩ := Option.isSome_iff_exists.mp (hsome x hx)
      have := idx_enc (ke := .int) (ve := nV) int_inj hd (a := x) rfl e
      simp [wipeF, this, e, nV]
    have hsum : biP .sum [.lst (ws.map fun s => .int ((lookT F s).getD 0 : Nat))] [Cell.dct false (encD PV.int nV F)] = some (.int (sumL F ws)) := b_sum
    cases hl : lookT F nm with
    | none =>
      rw [hl] at hnin
      refine ⟨putT F nm (sumL F ws), true, _, _, rfl, ?_, ?_, ⟨rfl, z, some (.int nm), some (wv ws), some (.int (sumL F ws)), rfl⟩, .inr ⟨rfl, .inl ?_⟩⟩
      · simp [dLawLeast_l3b, hc1, b_all, hall, hc2, hsum, hnin, hst]
      · refine ⟨putT_nodup hi.nd, fun s k h => ?_, fun s h0 h1 => ?_⟩
        · rw [lookT_put] at h
          split at h
          · rename_i e; cases h; subst e; exact ⟨w, hder, hwl⟩
          · exact hi.snd s k h
        · rw [lookT_put, if_neg (by omega)]; exact hi.en s h0 h1
      · refine countP_lt (fun x _ hx => ?_) (mem_rngI.mpr ⟨hrng.1, hrng.2.1⟩) (by simp [hl]) (by rw [lookT_put]; simp)
        rw [lookT_put] at hx
        split at hx
        · cases hx
        · exact hx
    | some k0 =>
      rw [hl] at hnin
      have hidx : idxP (.loc 0) (.int nm) [Cell.dct false (encD PV.int nV F)] = some (.int k0) := idx_enc (ke := .int) (ve := nV) int_inj hd rfl hl
      by_cases hlt : sumL F ws < k0
      · have hlt' : (sumL F ws : Int) < (k0 : Int) := by omega
        refine ⟨putT F nm (sumL F ws), true, _, _, rfl, ?_, ?_, ⟨rfl, z, some (.int nm), some (wv ws), some (.int (sumL F ws)), rfl⟩, .inr ⟨rfl, .inr ⟨?_, ?_⟩⟩⟩
        · simp [dLawLeast_l3b, hc1, b_all, hall, hc2, hsum, hnin, hidx, hlt', hst]
        · refine ⟨putT_nodup hi.nd, fun s k h => ?_, fun s h0 h1 => ?_⟩
          · rw [lookT_put] at h
            split at h
            · rename_i e; cases h; subst e; exact ⟨w, hder, hwl⟩
            · exact hi.snd s k h
          · rw [lookT_put, if_neg (by omega)]; exact hi.en s h0 h1
        · unfold Lm1
          apply List.countP_congr
          intro x hx
          rw [lookT_put]
          split
          · rename_i e; subst e; simp [hl]
          · rfl
        · refine sum_lt (mem_rngI.mpr ⟨hrng.1, hrng.2.1⟩) (fun x _ => ?_) ?_
          · rw [lookT_put]
            split
            · rename_i e; subst e; simp [hl]; omega
            · exact Nat.le_refl _
          · rw [lookT_put]; simp [hl, hlt]
      · have hlt' : ¬ (sumL F ws : Int) < (k0 : Int) := by omega
        refine ⟨F, k, _, _, rfl, ?_, hi, ⟨rfl, z, some (.int nm), some (wv ws), some (.int (sumL F ws)), rfl⟩, .inl ⟨rfl, rfl, fun h => ⟨k0, hl, ?_⟩⟩⟩
        · simp [dLawLeast_l3b, hc1, b_all, hall, hc2, hsum, hnin, hidx, hlt']
        · show k0 ≤ sumL F ws
          omega
structure LW (g : Gr) (F : LT) : Prop extends LI g F where
  low : ∀ s w, Der g s w → ∃ k, lookT F s = some k ∧ k ≤ w.length
theorem LI.closed {g : Gr} {F : LT} (hi : LI g F) (hc : ∀ r ∈ g.rs, LC g r F) : LW g F := by
  refine ⟨hi, fun s w d => ?_⟩
  induction d with
  | en h0 h1 => exact ⟨_, hi.en _ h0 h1, Nat.le_refl _⟩
  | r0 h =>
    obtain ⟨w, e, hv⟩ := hc _ h fun s hs => by cases hs
    exact ⟨w, e, hv⟩
  | r1 h d ih =>
    obtain ⟨m, e, hm⟩ := ih
    obtain ⟨w, e2, hv⟩ := hc _ h fun s hs => by rw [List.mem_singleton] at hs; subst hs; rw [e]; rfl
    refine ⟨w, e2, ?_⟩
    simp only [sumL, List.map_cons, List.map_nil, List.sum_cons, List.sum_nil, e, Option.getD_some] at hv
    omega
  | r2 h d d' i1 i2 =>
    obtain ⟨m1, e1, h1⟩ := i1
    obtain ⟨m2, e2, h2⟩ := i2
    obtain ⟨w, e3, hv⟩ := hc _ h fun s hs => by
      rcases List.mem_cons.mp hs with rfl | hs
      · rw [e1]; rfl
      · rw [List.mem_singleton] at hs; subst hs; rw [e2]; rfl
    refine ⟨w, e3, ?_⟩
    simp only [sumL, List.map_cons, List.map_nil, List.sum_cons, List.sum_nil, e1, e2, Option.getD_some] at hv
    rw [List.length_append]
    omega
theorem l_while {g : Gr} (hg : g.Nice) (hs : g.n + g.e ≤ 1000) (F : LT) (fr : Fr) (st : Store) (hi : LI g F) (he : LE g F true fr st) :
    ∃ F' fr2 s2, ex (denT fnT 40) dLawLeast_l2 fr st = some (.nx, fr2, s2) ∧ LI g F' ∧ LE g F' false fr2 s2 ∧ ∀ r ∈ g.rs, LC g r F' := by
  unfold dLawLeast_l2
  rw [z_whl]
  refine wh_fix (LE g) (LI g) (fun F => ∀ r ∈ g.rs, LC g r F) (Lm1 g) (Lm2 g) (fun F k fr st he => ?_) (fun F fr st hi he => ?_) F fr st hi he
  · obtain ⟨rfl, z, a, b, c, rfl⟩ := he
    exact whc_var rfl
  · obtain ⟨rfl, z, a, b, c, rfl⟩ := he
    obtain ⟨F', k, fr2, s2, e1, e2, e3, e4, e5⟩ := fr_fix (F := rv) (asg := asgT (.tp [.nm 7, .nm 8])) (b := fun fr st => exs (denT fnT 40) dLawLeast_l3b fr st) (LE g) (LI g) (LC g) (Lm1 g) (Lm2 g) g.rs
      (fun r hr F k fr st hi he => l_turn hg hs r hr F k fr st hi he) F [some (grv g), some (.int g.n), some (.int g.e), some (.tup (g.rs.map rv)), some (.loc 0), some (.bl false), z, a, b, c, none] [.dct false (encD .int nV F)] hi ⟨rfl, _, _, _, _, rfl⟩
    refine ⟨F', k, fr2, s2, ?_, e2, e3, fun e => ?_, e5⟩
    · simp [dLawLeast_l2b, dLawLeast_l3, z_frr, e1]
    · obtain ⟨h1, h2⟩ := e4 e
      intro r hr
      rw [h1]
      exact h2 r hr
theorem q40 {n : Nat} (h : 40 < n) {g : Gr} (hg : g.Nice) (hs : g.n + g.e ≤ 1000) {st : Store} : ∃ F, LW g F ∧ denT fnT n 40 [grv g] st = some (.dct false (encD .int nV F), st) := by
  have h1 := hg.n1
  have h2 := hg.e1
  -- the ends
  obtain ⟨fr', s', e0, z, rfl, rfl⟩ := fr_go (F := PV.int) (asg := asgT (.nm 6)) (b := fun fr st => exs (denT fnT 40) dLawLeast_l1b fr st) (rngI g.n (g.n + g.e))
    (fun l fr st' => ∃ z, fr = [some (grv g), some (.int g.n), some (.int g.e), some (.tup (g.rs.map rv)), some (.loc 0), some (.bl true), z, none, none, none, none] ∧ st' = [.dct false (encD .int nV (l.map fun x => (x, 1)))]) (fun l x r fr st' hl hI => by
      obtain ⟨z, rfl, rfl⟩ := hI
      have hnd := rngI_nodup (a := g.n) (b := g.n + g.e)
      have hll : l.length ≤ 1000 := by
        have := congrArg List.length hl
        rw [rngI_len, List.length_append, List.length_cons] at this
        omega
      rw [hl, List.nodup_append] at hnd
      have hk : ((l.map fun x : Int => (x, 1)).map (·.1)) = l := by rw [List.map_map]; simp [Function.comp_def]
      have hnew : lookT (l.map fun x : Int => (x, 1)) x = none := by
        rw [lookT_none, hk]
        intro hx
        exact hnd.2.2 x hx x (List.mem_cons_self ..) rfl
      have hst : ∀ fr, stI (.loc 0) (.int x) (.int 1) fr [Cell.dct false (encD PV.int nV (l.map fun x => (x, 1)))] = some (.nx, fr, [Cell.dct false (encD PV.int nV ((l ++ [x]).map fun x => (x, 1)))]) := fun fr => by
        rw [stI_dct (t := false) (kvs := encD PV.int nV (l.map fun x => (x, 1))) rfl rfl (by rw [encD_len, List.length_map]; unfold SZ; omega)]
        have := put_enc (ke := .int) (ve := nV) int_inj (l.map fun x : Int => (x, 1)) (by rw [hk]; exact hnd.1) x 1
        rw [show PV.int 1 = nV 1 from rfl, this, putT_new hnew, List.map_append]
        rfl
      exact ⟨_, _, _, rfl, by simp [dLawLeast_l1b, hst], some (.int x), rfl, rfl⟩) [some (grv g), some (.int g.n), some (.int g.e), some (.tup (g.rs.map rv)), some (.loc 0), some (.bl true), none, none, none, none, none] [.dct false []] ⟨none, rfl, rfl⟩
  have hi0 : LI g ((rngI g.n (g.n + g.e)).map fun x => (x, 1)) := by
    have nd : (((rngI g.n (g.n + g.e)).map fun x : Int => (x, 1)).map (·.1)).Nodup := by
      rw [List.map_map]
      have : ((fun x : Int × Nat => x.1) ∘ fun x : Int => (x, 1)) = id := rfl
      rw [this, List.map_id]
      exact rngI_nodup
    refine ⟨nd, fun s k h => ?_, fun s h0 h1 => lookT_of_mem nd (List.mem_map.mpr ⟨s, mem_rngI.mpr ⟨h0, h1⟩, rfl⟩)⟩
    obtain ⟨x, hx, e⟩ := List.mem_map.mp (lookT_mem h)
    cases e
    exact ⟨[s], .en (mem_rngI.mp hx).1 (mem_rngI.mp hx).2, rfl⟩
  obtain ⟨F, fr2, s2, e1, hi, ⟨rfl, z', a, b, c, rfl⟩, hc⟩ := l_while hg hs _ [some (grv g), some (.int g.n), some (.int g.e), some (.tup (g.rs.map rv)), some (.loc 0), some (.bl true), z, none, none, none, none] _ hi0 ⟨rfl, _, _, _, _, rfl⟩
  refine ⟨F, hi.closed hc, ?_⟩
  rw [dLawLeast_at h]
  have hk2 : ∀ st', kR2 (.int g.n) (.int (g.n + g.e)) st' = some ((rngI g.n (g.n + g.e)).map .int, st') := fun st' => kR2_int (by omega) (by omega) (by omega) (by omega)
  have hfz : frzV 30 (.loc 0) [.dct false (encD .int nV F)] = some (.dct false (encD .int nV F), [.dead]) := by
    rw [frzV]
    simp only [List.getElem?_cons_zero, List.set_cons_zero]
    rw [frzD_of fun p hp => ?_]
    · rfl
    · obtain ⟨q, _, rfl⟩ := List.mem_map.mp hp
      exact frz_le (k := 0) rfl (by decide)
  have hlf : lf (.dct false (encD .int nV F)) = true := by
    rw [lf]
    refine lfD_of fun p hp => ?_
    obtain ⟨q, _, rfl⟩ := List.mem_map.mp hp
    exact ⟨rfl, rfl⟩
  have ha : asgT (.tp [.nm 1, .nm 2, .nm 3]) (grv g) [some (grv g), none, none, none, none, none, none, none, none, none, none] = some [some (grv g), some (.int g.n), some (.int g.e), some (.tup (g.rs.map rv)), none, none, none, none, none, none, none] := rfl
  refine denF_own (s1 := [.dead]) ?_ rfl rfl (by simp [lfL, lf_grv]) hlf
  show runB (denT fnT 40) dLawLeast.body [some (grv g), none, none, none, none, none, none, none, none, none, none] [] = _
  simp [dLawLeast, ha, prs, dctL, mkD, dLawLeast_l1, z_frr, hk2, e0, e1, hfz]

/-! all words -/
def allF (g : Gr) : Nat → List Wd
  | 0 => [[]]
  | m + 1 => allF g m ++ allW g (m + 1)
theorem mem_allF {g : Gr} : ∀ {m : Nat} {w : Wd}, w ∈ allF g m ↔ InE g w ∧ w.length ≤ m
  | 0, w => by
    have := mem_allW (g := g) (m := 0) (w := w)
    rw [allW] at this
    rw [allF, this]
    exact ⟨fun h => ⟨h.1, by omega⟩, fun h => ⟨h.1, by omega⟩⟩
  | m + 1, w => by
    rw [allF, List.mem_append, mem_allF, mem_allW]
    constructor
    · rintro (h | h)
      · exact ⟨h.1, by omega⟩
      · exact ⟨h.1, by omega⟩
    · rintro ⟨h1, h2⟩
      by_cases h : w.length ≤ m
      · exact .inl ⟨h1, h⟩
      · exact .inr ⟨h1, by omega⟩
theorem allW_few {g : Gr} (h1 : 1 ≤ g.n) (he : g.n + g.e ≤ 5) {m : Nat} (hm : m ≤ 4) : (allW g m).length ≤ 256 := by
  rw [allW_len]
  have h3 : g.e.toNat ^ m ≤ 4 ^ m := Nat.pow_le_pow_left (by omega) m
  have h4 : 4 ^ m ≤ 4 ^ 4 := Nat.pow_le_pow_right (by decide) hm
  omega
theorem allF_few {g : Gr} (h1 : 1 ≤ g.n) (he : g.n + g.e ≤ 5) : ∀ {m : Nat}, m ≤ 4 → (allF g m).length ≤ 256 * (m + 1)
  | 0, _ => by simp [allF]
  | m + 1, hm => by
    rw [allF, List.length_append]
    have := allF_few h1 he (m := m) (by omega)
    have := allW_few h1 he (m := m + 1) hm
    omega
theorem q41 {n : Nat} (h : 41 < n) {g : Gr} (hg : g.Nice) (he : g.n + g.e ≤ 5) {most : Nat} (hm : most ≤ 4) {st : Store} : denT fnT n 41 [grv g, .int most] st = some (wsV (allF g most), st) := by
  have h1 := hg.n1
  have h2 := hg.e1
  have hk2 : ∀ st', kR2 (.int g.n) (.int (g.n + g.e)) st' = some ((rngI g.n (g.n + g.e)).map .int, st') := fun st' => kR2_int (by omega) (by omega) (by omega) (by omega)
  have hmk : ∀ l : List PV, l.length ≤ 1000 → mkL false l st = some (.lst l, st) := fun l hl => mkL_false (by unfold SZ; omega)
  obtain ⟨fr', s', e, p7, p8, p9, rfl, hs0⟩ := fr_go (F := fun m : Nat => PV.int m) (asg := asgT (.nm 7)) (b := fun fr st => exs (denT fnT 41) dLawAllWords_l1b fr st) (List.range most)
    (fun l fr st' => ∃ p7 p8 p9, fr = [some (grv g), some (.int most), some (.int g.n), some (.int g.e), some (.tup (g.rs.map rv)), some (wsV (allW g l.length)), some (wsV (allF g l.length)), p7, p8, p9, none] ∧ st' = st) (fun l m r fr st' hl hI => by
      obtain ⟨p7, p8, p9, rfl, hs1⟩ := hI
      rw [hs1]
      have hlm := range_at hl
      obtain ⟨fr', s', e, p9', rfl, hs2⟩ := fr_go (F := wv) (asg := asgT (.nm 9)) (b := fun fr st => exs (denT fnT 41) dLawAllWords_l2b fr st) (allW g l.length)
        (fun l2 fr st' => ∃ p9, fr = [some (grv g), some (.int most), some (.int g.n), some (.int g.e), some (.tup (g.rs.map rv)), some (wsV (allW g l.length)), some (wsV (allF g l.length)), some (.int m), some (wsV (l2.flatMap fun w => (rngI g.n (g.n + g.e)).map fun x => w ++ [x])), p9, none] ∧ st' = st) (fun l2 w r2 fr st' hl2 hI => by
          obtain ⟨p9, rfl, hs3⟩ := hI
          rw [hs3]
          have hwl : w.length = l.length := (mem_allW.mp (by rw [hl2]; simp : w ∈ allW g l.length)).2
          have hc1 : ev (denT fnT 41) dLawAllWords_c1 [some (grv g), some (.int most), some (.int g.n), some (.int g.e), some (.tup (g.rs.map rv)), some (wsV (allW g l.length)), some (wsV (allF g l.length)), some (.int m), some (wsV (l2.flatMap fun w => (rngI g.n (g.n + g.e)).map fun x => w ++ [x])), some (wv w), none] st = some (wsV ((rngI g.n (g.n + g.e)).map fun x => w ++ [x]), st) := by
            have e : wsV ((rngI g.n (g.n + g.e)).map fun x => w ++ [x]) = .lst ((rngI g.n (g.n + g.e)).map fun x => wv (w ++ [x])) := by simp [wsV, List.map_map, Function.comp_def]
            rw [e]
            unfold dLawAllWords_c1
            refine ev_lcmT (xs := rngI g.n (g.n + g.e)) .int (fun x => wv (w ++ [x])) (by simp [hk2]) (fun x hx => ⟨_, rfl, ?_⟩) (by rw [rngI_len]; unfold SZ; omega)
            have hb : binP .add (wv w) (.tup [.int x]) st = some (wv (w ++ [x])) := bin_wv (b := [x]) (by simp; unfold SZ; omega)
            simp [wipeF, hb]
          have hadd : ∀ a b : List Wd, a.length + b.length ≤ 100000 → binP .add (wsV a) (wsV b) st = some (wsV (a ++ b)) := fun a b hab => by
            unfold wsV
            rw [bin_lst (by simp; unfold SZ; omega), List.map_append]
          have hsz : (l2.flatMap fun w => (rngI g.n (g.n + g.e)).map fun x => w ++ [x]).length ≤ 256 := by
            have hle : ((l2 ++ w :: r2).flatMap fun w => (rngI g.n (g.n + g.e)).map fun x => w ++ [x]).length ≤ 256 := by
              rw [← hl2]
              exact allW_few (m := l.length + 1) h1 he (by omega)
            rw [List.flatMap_append, List.length_append] at hle
            omega
          refine ⟨_, _, _, rfl, ?_, some (wv w), rfl, rfl⟩
          rw [List.flatMap_append]
          have hb := hadd (l2.flatMap fun w => (rngI g.n (g.n + g.e)).map fun x => w ++ [x]) ((rngI g.n (g.n + g.e)).map fun x => w ++ [x]) (by rw [List.length_map, rngI_len]; omega)
          simp [dLawAllWords_l2b, hc1, hb]) [some (grv g), some (.int most), some (.int g.n), some (.int g.e), some (.tup (g.rs.map rv)), some (wsV (allW g l.length)), some (wsV (allF g l.length)), some (.int m), some (wsV []), p9, none] st ⟨p9, rfl, rfl⟩
      refine ⟨[some (grv g), some (.int most), some (.int g.n), some (.int g.e), some (.tup (g.rs.map rv)), some (wsV (allW g l.length)), some (wsV (allF g l.length)), some (.int m), p8, p9, none], [some (grv g), some (.int most), some (.int g.n), some (.int g.e), some (.tup (g.rs.map rv)), some (wsV (allW g (l.length + 1))), some (wsV (allF g (l.length + 1))), some (.int m), some (wsV (allW g (l.length + 1))), p9', none], st, rfl, ?_, some (.int m), some (wsV (allW g (l.length + 1))), p9', by simp, rfl⟩
      have h0 := hmk [] (by simp)
      have hw : (allW g l.length).flatMap (fun w => (rngI g.n (g.n + g.e)).map fun x => w ++ [x]) = allW g (l.length + 1) := rfl
      rw [hw, hs2] at e
      have hadd : binP .add (wsV (allF g l.length)) (wsV (allW g (l.length + 1))) st = some (wsV (allF g (l.length + 1))) := by
        have a1 := allF_few h1 he (m := l.length) (by omega)
        have a2 := allW_few h1 he (m := l.length + 1) (by omega)
        unfold wsV
        rw [bin_lst (by simp; unfold SZ; omega), ← List.map_append]
        rfl
      have hws : wsV [] = .lst [] := rfl
      have hsq : kSeq (wsV (allW g l.length)) st = some ((allW g l.length).map wv, st) := kSeq_lst
      rw [hws] at e
      simp [dLawAllWords_l1b, h0, dLawAllWords_l2, z_frr, hsq, e, hadd]) [some (grv g), some (.int most), some (.int g.n), some (.int g.e), some (.tup (g.rs.map rv)), some (wsV [[]]), some (wsV [[]]), none, none, none, none] st ⟨none, none, none, rfl, rfl⟩
  rw [List.length_range, hs0] at e
  have hk1 : kR1 (.int (most : Int)) st = some ((List.range most).map fun m : Nat => PV.int m, st) := kR1_nat (by omega)
  have ha : asgT (.tp [.nm 2, .nm 3, .nm 4]) (grv g) [some (grv g), some (.int most), none, none, none, none, none, none, none, none, none] = some [some (grv g), some (.int most), some (.int g.n), some (.int g.e), some (.tup (g.rs.map rv)), none, none, none, none, none, none] := rfl
  have h0 := hmk [.tup []] (by simp)
  have hws : wsV [[]] = .lst [.tup []] := rfl
  rw [hws] at e
  rw [dLawAllWords_at h]
  simp [dLawAllWords, denF, ha, h0, dLawAllWords_l1, z_frr, hk1, e]
end K89
end

section
set_option Elab.async false
set_option linter.all false
set_option maxRecDepth 100000
set_option autoImplicit false
set_option maxHeartbeats 4000000
/-! _law_words -/
namespace K89
open PySem (Str)
open Pv

theorem rngI_at {a b x : Int} {l r : List Int} (h : rngI a b = l ++ x :: r) : x = a + (l.length : Nat) ∧ l.length < (b - a).toNat := by
  have hlt : l.length < (b - a).toNat := by
    have := congrArg List.length h
    rw [rngI_len, List.length_append, List.length_cons] at this
    omega
  refine ⟨?_, hlt⟩
  have : (rngI a b)[l.length]? = some x := by rw [h, List.getElem?_append_right (Nat.le_refl _)]; simp
  unfold rngI at this
  rw [List.getElem?_map, List.getElem?_range hlt] at this
  simp at this
  exact this.symm
/-! plain part -/
def wat (W : List (List Wd)) (s : Int) : List Wd := W.getD s.toNat []
def stp (most : Nat) (W : List (List Wd)) (told : List Wd) (s : Int) : List Wd := told.flatMap fun p => ((wat W s).filter fun u => decide (p.length + u.length ≤ most)).map fun u => p ++ u
def tl (most : Nat) (W : List (List Wd)) (told : List Wd) (ws : List Int) : List Wd := ws.foldl (stp most W) told
/-- a row of signs, by words that stand in the table -/
def CatT (W : List (List Wd)) : List Int → Wd → Prop
  | [], w => w = []
  | s :: ss, w => ∃ u v, w = u ++ v ∧ u ∈ wat W s ∧ CatT W ss v
theorem mem_tl {most : Nat} {W : List (List Wd)} : ∀ {ws : List Int} {told : List Wd}, (∀ p ∈ told, p.length ≤ most) → ∀ w, w ∈ tl most W told ws ↔ ∃ p ∈ told, ∃ q, CatT W ws q ∧ w = p ++ q ∧ w.length ≤ most
  | [], told, ht, w => by
    constructor
    · intro h; exact ⟨w, h, [], rfl, by simp, ht w h⟩
    · rintro ⟨p, hp, q, rfl, rfl, _⟩; simpa [tl] using hp
  | s :: ws, told, ht, w => by
    have hst : ∀ p ∈ stp most W told s, p.length ≤ most := fun p hp => by
      unfold stp at hp
      rw [List.mem_flatMap] at hp
      obtain ⟨p', _, hp⟩ := hp
      obtain ⟨u, hu, rfl⟩ := List.mem_map.mp hp
      rw [List.mem_filter, decide_eq_true_eq] at hu
      rw [List.length_append]; exact hu.2
    have e : tl most W told (s :: ws) = tl most W (stp most W told s) ws := rfl
    rw [e, mem_tl hst]
    constructor
    · rintro ⟨p, hp, q, hq, rfl, hl⟩
      unfold stp at hp
      rw [List.mem_flatMap] at hp
      obtain ⟨p', hp', hp⟩ := hp
      obtain ⟨u, hu, rfl⟩ := List.mem_map.mp hp
      rw [List.mem_filter] at hu
      exact ⟨p', hp', u ++ q, ⟨u, q, rfl, hu.1, hq⟩, by simp, hl⟩
    · rintro ⟨p, hp, q, ⟨u, v, rfl, hu, hv⟩, rfl, hl⟩
      refine ⟨p ++ u, ?_, v, hv, by simp, hl⟩
      unfold stp
      rw [List.mem_flatMap]
      refine ⟨p, hp, List.mem_map.mpr ⟨u, ?_, rfl⟩⟩
      rw [List.mem_filter, decide_eq_true_eq]
      rw [List.length_append, List.length_append] at hl
      exact ⟨hu, by omega⟩
theorem mem_tl0 {most : Nat} {W : List (List Wd)} {ws : List Int} {w : Wd} : w ∈ tl most W [[]] ws ↔ CatT W ws w ∧ w.length ≤ most := by
  rw [mem_tl (fun p hp => by rw [List.mem_singleton] at hp; subst hp; exact Nat.zero_le _)]
  constructor
  · rintro ⟨p, hp, q, hq, rfl, hl⟩
    rw [List.mem_singleton] at hp
    subst hp
    exact ⟨hq, hl⟩
  · rintro ⟨h1, h2⟩
    exact ⟨[], by simp, w, h1, rfl, h2⟩
structure WI (g : Gr) (most : Nat) (W : List (List Wd)) : Prop where
  len : W.length = (g.n + g.e).toNat
  nd : ∀ s, 0 ≤ s → s < g.n + g.e → (wat W s).Nodup
  snd : ∀ s, 0 ≤ s → s < g.n + g.e → ∀ w ∈ wat W s, Der g s w ∧ w.length ≤ most
  en : ∀ s, g.n ≤ s → s < g.n + g.e → [s] ∈ wat W s
theorem CatT.ders {g : Gr} {most : Nat} {W : List (List Wd)} (hi : WI g most W) : ∀ {ws : List Int} {w : Wd}, (∀ s ∈ ws, 0 ≤ s ∧ s < g.n + g.e) → CatT W ws w → Ders g ws w
  | [], _, _, h => h
  | s :: ws, w, hr, ⟨u, v, e, hu, hv⟩ => by
    have hs := hr s (List.mem_cons_self ..)
    exact ⟨u, v, e, (hi.snd s hs.1 hs.2 u hu).1, CatT.ders hi (fun x hx => hr x (List.mem_cons_of_mem _ hx)) hv⟩
theorem WI.few {g : Gr} {most : Nat} {W : List (List Wd)} (hi : WI g most W) (h1 : 1 ≤ g.n) (he : g.n + g.e ≤ 5) (hm : most ≤ 4) {s : Int} (h0 : 0 ≤ s) (hs : s < g.n + g.e) : (wat W s).length ≤ 1280 := by
  have h2 := nodup_len (wat W s) (allF g most) (hi.nd s h0 hs) fun w hw => mem_allF.mpr ⟨(hi.snd s h0 hs w hw).1.ends, (hi.snd s h0 hs w hw).2⟩
  have h3 := allF_few h1 he hm
  omega
def WC (most : Nat) (r : Ru) (W : List (List Wd)) : Prop := ∀ w ∈ tl most W [[]] r.2, w ∈ wat W r.1
theorem WI.closed {g : Gr} {most : Nat} {W : List (List Wd)} (hg : g.Nice) (hi : WI g most W) (hc : ∀ r ∈ g.rs, WC most r W) {s : Int} {w : Wd} (d : Der g s w) : w.length ≤ most → w ∈ wat W s := by
  induction d with
  | en h0 h1 => exact fun _ => hi.en _ h0 h1
  | r0 h => exact fun hl => hc _ h [] (mem_tl0.mpr ⟨rfl, hl⟩)
  | r1 h d ih => exact fun hl => hc _ h _ (mem_tl0.mpr ⟨⟨_, [], by simp, ih hl, rfl⟩, hl⟩)
  | r2 h d d' i1 i2 =>
    intro hl
    have hl2 := hl
    rw [List.length_append] at hl2
    exact hc _ h _ (mem_tl0.mpr ⟨⟨_, _, rfl, i1 (by omega), _, [], by simp, i2 (by omega), rfl⟩, hl⟩)
def wP (g : Gr) (most : Nat) : List (Int × Wd) := (rngI 0 (g.n + g.e)).flatMap fun s => (allF g most).map fun w => (s, w)
def Wm (g : Gr) (most : Nat) (W : List (List Wd)) : Nat := (wP g most).countP fun p => !decide (p.2 ∈ wat W p.1)
theorem wat_set {W : List (List Wd)} {s t : Int} {l : List Wd} (h0 : 0 ≤ s) (h1 : s < W.length) (h2 : 0 ≤ t) : wat (W.set s.toNat l) t = if t = s then l else wat W t := by
  unfold wat
  rw [List.getD_eq_getElem?_getD, List.getD_eq_getElem?_getD, List.getElem?_set]
  by_cases h : t = s
  · subst h; rw [if_pos rfl, if_pos rfl, if_pos (by omega)]; rfl
  · rw [if_neg h, if_neg (by omega)]
/-! the store -/
def wS (W : List (List Wd)) : Store := .dct false (encD .int (fun i => .loc (1 + i)) (idxs W.length)) :: W.map cellW
theorem wS_cell {W : List (List Wd)} {s : Int} (h0 : 0 ≤ s) (h1 : s < W.length) : (wS W)[1 + s.toNat]? = some (cellW (wat W s)) := by
  unfold wS wat
  have : s.toNat < W.length := by omega
  rw [show 1 + s.toNat = s.toNat + 1 by omega, List.getElem?_cons_succ, List.getElem?_map, List.getElem?_eq_getElem this, List.getD_eq_getElem?_getD, List.getElem?_eq_getElem this]
  rfl
theorem wS_set {W : List (List Wd)} {s : Int} {l : List Wd} : (wS W).set (1 + s.toNat) (cellW l) = wS (W.set s.toNat l) := by
  unfold wS
  rw [show 1 + s.toNat = s.toNat + 1 by omega, List.set_cons_succ, List.map_set, List.length_set]
theorem wS_noD {W : List (List Wd)} : (wS W).all noDC = true := by
  have h1 : ∀ l : List Wd, noDL ((encS wv l).map (·.1)) = true ∧ noDL ((encS wv l).map (·.2)) = true := fun l => by
    induction l with
    | nil => exact ⟨rfl, rfl⟩
    | cons a l ih => simpa [encS, noDL, noD, noD_wv] using ih
  have h2 : ∀ l : List (Int × Nat), noDL ((encD .int (fun i => .loc (1 + i)) l).map (·.1)) = true ∧ noDL ((encD .int (fun i => PV.loc (1 + i)) l).map (·.2)) = true := fun l => by
    induction l with
    | nil => exact ⟨rfl, rfl⟩
    | cons a l ih => simpa [encD, noDL, noD] using ih
  unfold wS
  rw [List.all_cons, Bool.and_eq_true]
  refine ⟨by simp [noDC, h2], ?_⟩
  rw [List.all_eq_true]
  intro c hc
  obtain ⟨l, _, rfl⟩ := List.mem_map.mp hc
  simp [noDC, cellW, h1 l]
theorem wS_idx {W : List (List Wd)} {s : Int} (h0 : 0 ≤ s) (h1 : s < W.length) : idxP (.loc 0) (.int s) (wS W) = some (.loc (1 + s.toNat)) :=
  idx_enc (ke := .int) (ve := fun i => PV.loc (1 + i)) int_inj (t := false) (dctOf_loc rfl) rfl (idxs_look h0 h1)

section
variable {g : Gr} {most : Nat} {W : List (List Wd)}
def frN (g : Gr) (most : Nat) (k : Bool) (p7 p8 p9 p10 p11 p12 p13 p14 : Option PV) : Fr := [some (grv g), some (.int most), some (.int g.n), some (.int g.e), some (.tup (g.rs.map rv)), some (.loc 0), some (.bl k), p7, p8, p9, p10, p11, p12, p13, p14, none]
def WE (g : Gr) (most : Nat) (W : List (List Wd)) (k : Bool) (fr : Fr) (st : Store) : Prop :=
  st = wS W ∧ ∃ p7 p8 p9 p10 p11 p12 p13 p14, fr = frN g most k p7 p8 p9 p10 p11 p12 p13 p14
/-- one sign more -/
theorem n_sign (hg : g.Nice) (he : g.n + g.e ≤ 5) (hm : most ≤ 4) (hi : WI g most W) {s : Int} (h0 : 0 ≤ s) (hs : s < g.n + g.e) {told : List Wd} (ht : told.length ≤ 1280) (htm : ∀ p ∈ told, p.length ≤ 4) (k : Bool) (p7 p8 p9 p12 p13 p14 : Option PV) :
    ∃ q13, exs (denT fnT 39) dLawWords_l5b (frN g most k p7 p8 p9 (some (wsV told)) (some (.int s)) p12 p13 p14) (wS W) = some (.nx, frN g most k p7 p8 p9 (some (wsV (stp most W told s))) (some (.int s)) (some (wsV (stp most W told s))) q13 p14, wS W) := by
  have hn1 := hg.n1
  have hwl : ((W.length : Nat) : Int) = g.n + g.e := by rw [hi.len]; have := hg.e1; omega
  have hfew := hi.few hn1 he hm h0 hs
  have hcell := wS_cell (W := W) h0 (by omega)
  have hix := wS_idx (W := W) h0 (by omega)
  have hsz : ∀ l : List Wd, (stp most W l s).length ≤ l.length * 1280 := fun l => by
    unfold stp
    induction l with
    | nil => simp
    | cons a l ih =>
      rw [List.flatMap_cons, List.length_append, List.length_cons, Nat.add_mul, List.length_map]
      have := List.length_filter_le (fun u : Wd => decide (a.length + u.length ≤ most)) (wat W s)
      omega
  obtain ⟨fr', s', e, q13, rfl, hs'⟩ := fr_go (F := wv) (asg := asgT (.nm 13)) (b := fun fr st => exs (denT fnT 39) dLawWords_l6b fr st) told
    (fun l fr st' => ∃ q13, fr = frN g most k p7 p8 p9 (some (wsV told)) (some (.int s)) (some (wsV (stp most W l s))) q13 p14 ∧ st' = wS W) (fun l p r fr st' hl hI => by
      obtain ⟨q13, rfl, hst⟩ := hI
      rw [hst]
      have hpl := htm p (by rw [hl]; simp)
      have hc1 : ev (denT fnT 39) dLawWords_c1 (frN g most k p7 p8 p9 (some (wsV told)) (some (.int s)) (some (wsV (stp most W l s))) (some (wv p)) p14) (wS W) = some (wsV (((wat W s).filter fun u => decide (p.length + u.length ≤ most)).map fun u => p ++ u), wS W) := by
        have e : wsV (((wat W s).filter fun u => decide (p.length + u.length ≤ most)).map fun u => p ++ u) = .lst (((wat W s).filter fun u => decide (p.length + u.length ≤ most)).map fun u => wv (p ++ u)) := by simp [wsV, List.map_map, Function.comp_def]
        rw [e]
        unfold dLawWords_c1
        refine ev_lclT (xs := wat W s) wv (fun u => decide (p.length + u.length ≤ most)) (fun u => wv (p ++ u)) (by simp [frN, hix]) hcell (encS_keys _) wS_noD (fun u hu => ⟨_, rfl, ?_, fun _ => ?_⟩) (fun _ _ _ => noD_wv) (by unfold SZ; omega)
        · have ed : decide ((p.length : Int) + (u.length : Int) ≤ (most : Int)) = decide (p.length + u.length ≤ most) := decide_eq_decide.mpr (by omega)
          simp [frN, wipeF, ed]
        · have hul := (hi.snd s h0 hs u hu).2
          have hb := bin_wv (a := p) (b := u) (st := (wS W).set (1 + s.toNat) (.lck true (encS wv (wat W s)))) (by unfold SZ; omega)
          simp [frN, wipeF, hb]
      have hadd : binP .add (wsV (stp most W l s)) (wsV (((wat W s).filter fun u => decide (p.length + u.length ≤ most)).map fun u => p ++ u)) (wS W) = some (wsV (stp most W (l ++ [p]) s)) := by
        have h1 := hsz l
        have h2 : l.length ≤ 1280 := by
          have := congrArg List.length hl
          rw [List.length_append, List.length_cons] at this
          omega
        have h3 := List.length_filter_le (fun u : Wd => decide (p.length + u.length ≤ most)) (wat W s)
        have h4 : l.length * 1280 ≤ 1280 * 1280 := Nat.mul_le_mul_right _ h2
        unfold wsV
        rw [bin_lst (by rw [List.length_map, List.length_map, List.length_map]; unfold SZ; omega), ← List.map_append]
        unfold stp
        rw [List.flatMap_append]
        simp
      refine ⟨frN g most k p7 p8 p9 (some (wsV told)) (some (.int s)) (some (wsV (stp most W l s))) (some (wv p)) p14, _, _, rfl, ?_, some (wv p), rfl, rfl⟩
      unfold frN at hc1 ⊢
      simp [dLawWords_l6b, hc1, hadd]) (frN g most k p7 p8 p9 (some (wsV told)) (some (.int s)) (some (wsV [])) p13 p14) (wS W) ⟨p13, rfl, rfl⟩
  rw [hs'] at e
  refine ⟨q13, ?_⟩
  have hmk : mkL false [] (wS W) = some (.lst [], wS W) := mkL_false (by decide)
  have hws : wsV [] = .lst [] := rfl
  have hsq : kSeq (wsV told) (wS W) = some (told.map wv, wS W) := kSeq_lst
  rw [hws] at e
  unfold frN at e ⊢
  simp [dLawWords_l5b, hmk, dLawWords_l6, z_frr, hsq, e]
/-- the words that a rule tells -/
theorem n_told (hg : g.Nice) (he : g.n + g.e ≤ 5) (hm : most ≤ 4) (hi : WI g most W) {a : Int} {ws : List Int} (hr : (a, ws) ∈ g.rs) (k : Bool) (p7 p8 p11 p12 p13 p14 : Option PV) :
    ∃ q11 q12 q13, ex (denT fnT 39) dLawWords_l5 (frN g most k p7 p8 (some (wv ws)) (some (wsV [[]])) p11 p12 p13 p14) (wS W) = some (.nx, frN g most k p7 p8 (some (wv ws)) (some (wsV (tl most W [[]] ws))) q11 q12 q13 p14, wS W) := by
  have hrng := hg.rng _ hr
  simp only at hrng
  have htl : ∀ l : List Int, (∀ p ∈ tl most W [[]] l, p.length ≤ most) := fun l p hp => (mem_tl0.mp hp).2
  obtain ⟨fr', s', e, q11, q12, q13, rfl, hs'⟩ := fr_go (F := PV.int) (asg := asgT (.nm 11)) (b := fun fr st => exs (denT fnT 39) dLawWords_l5b fr st) ws
    (fun l fr st' => ∃ q11 q12 q13, fr = frN g most k p7 p8 (some (wv ws)) (some (wsV (tl most W [[]] l))) q11 q12 q13 p14 ∧ st' = wS W) (fun l s r fr st' hl hI => by
      obtain ⟨q11, q12, q13, rfl, hst⟩ := hI
      rw [hst]
      have hsr := hrng.2.2.1 s (by rw [hl]; simp)
      have hll : l.length ≤ 1 := by
        have := congrArg List.length hl
        rw [List.length_append, List.length_cons] at this
        omega
      have hsz : (tl most W [[]] l).length ≤ 1280 := by
        match l, hll, hl with
        | [], _, _ => simp [tl]
        | [x], _, hl =>
          have hx := hrng.2.2.1 x (by rw [hl]; simp)
          have := hi.few hg.n1 he hm hx.1 hx.2
          have h2 := List.length_filter_le (fun u : Wd => decide (([] : Wd).length + u.length ≤ most)) (wat W x)
          simp only [tl, List.foldl_cons, List.foldl_nil, stp, List.flatMap_cons, List.flatMap_nil, List.append_nil, List.length_map]
          omega
      obtain ⟨q, e⟩ := n_sign hg he hm hi hsr.1 hsr.2 hsz (fun p hp => by have := htl l p hp; omega) k p7 p8 (some (wv ws)) q12 q13 p14
      refine ⟨frN g most k p7 p8 (some (wv ws)) (some (wsV (tl most W [[]] l))) (some (.int s)) q12 q13 p14, _, _, rfl, e, some (.int s), some (wsV (stp most W (tl most W [[]] l) s)), q, ?_, rfl⟩
      rw [show tl most W [[]] (l ++ [s]) = stp most W (tl most W [[]] l) s by unfold tl; rw [List.foldl_append]; rfl]) (frN g most k p7 p8 (some (wv ws)) (some (wsV [[]])) p11 p12 p13 p14) (wS W) ⟨p11, p12, p13, rfl, rfl⟩
  rw [hs'] at e
  refine ⟨q11, q12, q13, ?_⟩
  unfold dLawWords_l5
  unfold frN at e ⊢
  rw [z_frr]
  simp [e]
/-- one word is put in -/
theorem n_put (hg : g.Nice) (he : g.n + g.e ≤ 5) (hm : most ≤ 4) {a : Int} (h0 : 0 ≤ a) (ha : a < g.n + g.e) (o : Wd) (hd : Der g a o) (hol : o.length ≤ most) (p7 p8 p9 p10 p11 p12 : Option PV) (W : List (List Wd)) (k : Bool) (fr : Fr) (st : Store) (hi : WI g most W) (hE : st = wS W ∧ ∃ p13, fr = frN g most k p7 p8 p9 p10 p11 p12 p13 (some (.loc (1 + a.toNat)))) :
    ∃ fr1 W' k' fr2 s2, asgT (.nm 13) (wv o) fr = some fr1 ∧ exs (denT fnT 39) dLawWords_l7b fr1 st = some (.nx, fr2, s2) ∧ WI g most W' ∧ (s2 = wS W' ∧ ∃ p13, fr2 = frN g most k' p7 p8 p9 p10 p11 p12 p13 (some (.loc (1 + a.toNat)))) ∧ ((W' = W ∧ k' = k ∧ o ∈ wat W a) ∨ (k' = true ∧ (Wm g most W' < Wm g most W ∨ (Wm g most W' = Wm g most W ∧ 0 < 0)))) := by
  obtain ⟨rfl, p13, rfl⟩ := hE
  have hwl : ((W.length : Nat) : Int) = g.n + g.e := by rw [hi.len]; have := hg.e1; have := hg.n1; omega
  have hcell := wS_cell (W := W) h0 (by omega)
  have hfew := hi.few hg.n1 he hm h0 ha
  have hdk : dctOf (wS W) (.loc (1 + a.toNat)) = some (true, encS wv (wat W a)) := dctOf_loc hcell
  have hnin : cmpP .nin (wv o) (.loc (1 + a.toNat)) (wS W) = some (decide (o ∉ wat W a)) := (nin_encS wv_inj hdk kFor_wv).trans (by congr)
  by_cases ho : o ∈ wat W a
  · refine ⟨_, W, k, _, _, rfl, ?_, hi, ⟨rfl, some (wv o), rfl⟩, .inl ⟨rfl, rfl, ho⟩⟩
    unfold frN
    simp [dLawWords_l7b, hnin, ho]
  · have hst : ∀ fr, stI (.loc (1 + a.toNat)) (wv o) (.bl true) fr (wS W) = some (.nx, fr, wS (W.set a.toNat (putS (wat W a) o))) := fun fr => by
      rw [stI_dct hcell kFor_wv (by rw [encS_len]; unfold SZ; omega), put_encS wv_inj]
      have := wS_set (W := W) (s := a) (l := putS (wat W a) o)
      unfold cellW at this
      rw [this]
    have hua : ∀ x, 0 ≤ x → wat (W.set a.toNat (putS (wat W a) o)) x = if x = a then putS (wat W a) o else wat W x := fun x hx => wat_set h0 (by omega) hx
    refine ⟨_, W.set a.toNat (putS (wat W a) o), true, _, _, rfl, ?_, ⟨?_, fun s h1 h2 => ?_, fun s h1 h2 w hw => ?_, fun s h1 h2 => ?_⟩, ⟨rfl, some (wv o), rfl⟩, .inr ⟨rfl, .inl ?_⟩⟩
    · unfold frN
      simp [dLawWords_l7b, hnin, ho, hst]
    · rw [List.length_set]; exact hi.len
    · rw [hua s h1]; split
      · exact putS_nodup (hi.nd a h0 ha)
      · exact hi.nd s h1 h2
    · rw [hua s h1] at hw
      split at hw
      · rename_i e; subst e
        rcases mem_putS.mp hw with hw | rfl
        · exact hi.snd s h1 h2 w hw
        · exact ⟨hd, hol⟩
      · exact hi.snd s h1 h2 w hw
    · have hn1 := hg.n1
      rw [hua s (by omega)]; split
      · rename_i e; subst e; exact mem_putS.mpr (.inl (hi.en s h1 h2))
      · exact hi.en s h1 h2
    · have hpm : (a, o) ∈ wP g most := by
        unfold wP
        rw [List.mem_flatMap]
        exact ⟨a, mem_rngI.mpr ⟨h0, ha⟩, List.mem_map.mpr ⟨o, mem_allF.mpr ⟨hd.ends, hol⟩, rfl⟩⟩
      refine countP_lt (fun p hp hq => ?_) hpm (by simp [ho]) ?_
      · obtain ⟨x, t⟩ := p
        unfold wP at hp
        rw [List.mem_flatMap] at hp
        obtain ⟨x', hx', hp⟩ := hp
        obtain ⟨t', _, e⟩ := List.mem_map.mp hp
        cases e
        have hx := mem_rngI.mp hx'
        simp only [hua x hx.1] at hq
        split at hq
        · rename_i ex
          subst ex
          simp only [mem_putS, Bool.not_eq_true', decide_eq_false_iff_not, not_or] at hq ⊢
          exact hq.1
        · exact hq
      · simp only [hua a h0, if_true, mem_putS, or_true, decide_true, Bool.not_true]
theorem n_rule (hg : g.Nice) (he : g.n + g.e ≤ 5) (hm : most ≤ 4) (r : Ru) (hr : r ∈ g.rs) (W : List (List Wd)) (k : Bool) (fr : Fr) (st : Store) (hi : WI g most W) (hE : WE g most W k fr st) :
    ∃ fr1 W' k' fr2 s2, asgT (.tp [.nm 7, .nm 9]) (rv r) fr = some fr1 ∧ exs (denT fnT 39) dLawWords_l4b fr1 st = some (.nx, fr2, s2) ∧ WI g most W' ∧ WE g most W' k' fr2 s2 ∧ ((W' = W ∧ k' = k ∧ WC most r W) ∨ (k' = true ∧ (Wm g most W' < Wm g most W ∨ (Wm g most W' = Wm g most W ∧ 0 < 0)))) := by
  obtain ⟨rfl, p7, p8, p9, p10, p11, p12, p13, p14, rfl⟩ := hE
  obtain ⟨a, ws⟩ := r
  have hrng := hg.rng _ hr
  simp only at hrng
  have hwl : ((W.length : Nat) : Int) = g.n + g.e := by rw [hi.len]; have := hg.e1; have := hg.n1; omega
  have har : 0 ≤ a ∧ a < g.n + g.e := by have := hg.e1; omega
  obtain ⟨q11, q12, q13, e1⟩ := n_told hg he hm hi hr k (some (.int a)) p8 p11 p12 p13 p14
  obtain ⟨told, htold⟩ : ∃ told, told = tl most W [[]] ws := ⟨_, rfl⟩
  rw [← htold] at e1
  obtain ⟨W', k', fr2, s2, e2, hi', ⟨rfl, q13', rfl⟩, hor⟩ := fr_fixk (F := wv) (asg := asgT (.nm 13)) (b := fun fr st => exs (denT fnT 39) dLawWords_l7b fr st) (fun W k fr st => st = wS W ∧ ∃ p13, fr = frN g most k (some (.int a)) p8 (some (wv ws)) (some (wsV told)) q11 q12 p13 (some (.loc (1 + a.toNat)))) (WI g most) (fun o W => o ∈ wat W a) (Wm g most) (fun _ => 0) told
    (fun o ho W1 k fr st hi1 hE => by
      have ho' := mem_tl0.mp (htold ▸ ho)
      have hd := (CatT.ders hi hrng.2.2.1 ho'.1).rule hg hr
      exact n_put hg he hm har.1 har.2 o hd ho'.2 (some (.int a)) p8 (some (wv ws)) (some (wsV told)) q11 q12 W1 k fr st hi1 hE) W k (frN g most k (some (.int a)) p8 (some (wv ws)) (some (wsV told)) q11 q12 q13 (some (.loc (1 + a.toNat)))) (wS W) hi ⟨rfl, q13, rfl⟩
  refine ⟨frN g most k (some (.int a)) p8 (some (wv ws)) p10 p11 p12 p13 p14, W', k', frN g most k' (some (.int a)) p8 (some (wv ws)) (some (wsV told)) q11 q12 q13' (some (.loc (1 + a.toNat))), wS W', rfl, ?_, hi', ⟨rfl, _, _, _, _, _, _, q13', _, rfl⟩, ?_⟩
  · have hmk : mkL false [.tup []] (wS W) = some (.lst [.tup []], wS W) := mkL_false (by simp [SZ])
    have hix := wS_idx (W := W) har.1 (by omega)
    have hws : wsV [[]] = .lst [.tup []] := rfl
    rw [hws] at e1
    unfold frN at e1 e2 ⊢
    simp [dLawWords_l4b, hmk, e1, hix, dLawWords_l7, z_frr, wsV]
    unfold wsV at e2
    simp [e2]
  · rcases hor with ⟨rfl, rfl, hc⟩ | h
    · refine .inl ⟨rfl, rfl, fun w hw => ?_⟩
      exact hc w (htold ▸ hw)
    · exact .inr h
theorem n_while (hg : g.Nice) (he : g.n + g.e ≤ 5) (hm : most ≤ 4) (W : List (List Wd)) (fr : Fr) (st : Store) (hi : WI g most W) (hE : WE g most W true fr st) :
    ∃ W' fr2 s2, ex (denT fnT 39) dLawWords_l3 fr st = some (.nx, fr2, s2) ∧ WI g most W' ∧ WE g most W' false fr2 s2 ∧ ∀ r ∈ g.rs, WC most r W' := by
  unfold dLawWords_l3
  rw [z_whl]
  refine wh_fix (WE g most) (WI g most) (fun W => ∀ r ∈ g.rs, WC most r W) (Wm g most) (fun _ => 0) (fun W k fr st hE => ?_) (fun W fr st hi hE => ?_) W fr st hi hE
  · obtain ⟨rfl, p7, p8, p9, p10, p11, p12, p13, p14, rfl⟩ := hE
    exact whc_var rfl
  · obtain ⟨rfl, p7, p8, p9, p10, p11, p12, p13, p14, rfl⟩ := hE
    obtain ⟨W', k, fr2, s2, e1, e2, e3, e4, e5⟩ := fr_fix (F := rv) (asg := asgT (.tp [.nm 7, .nm 9])) (b := fun fr st => exs (denT fnT 39) dLawWords_l4b fr st) (WE g most) (WI g most) (WC most) (Wm g most) (fun _ => 0) g.rs
      (fun r hr W k fr st hi hE => n_rule hg he hm r hr W k fr st hi hE) W (frN g most false p7 p8 p9 p10 p11 p12 p13 p14) (wS W) hi ⟨rfl, _, _, _, _, _, _, _, _, rfl⟩
    refine ⟨W', k, fr2, s2, ?_, e2, e3, fun e => ?_, e5⟩
    · unfold frN at e1 ⊢
      simp [dLawWords_l3b, dLawWords_l4, z_frr, e1]
    · obtain ⟨h1, h2⟩ := e4 e
      intro r hr
      rw [h1]
      exact h2 r hr
/-- the table at first -/
def W0 (g : Gr) (k : Nat) : List (List Wd) := (List.range k).map fun i : Nat => if (i : Int) < g.n then [] else [[(i : Int)]]
theorem W0_len {k : Nat} : (W0 g k).length = k := by simp [W0]
theorem idxs_succ {k : Nat} : idxs (k + 1) = idxs k ++ [((k : Int), k)] := by unfold idxs; rw [List.range_succ]; simp
theorem wS_add {k : Nat} {fr : Fr} {kvs : List Wd} (hk : k < 1000) (hw : (if (k : Int) < g.n then [] else [[(k : Int)]]) = kvs) : stI (.loc 0) (.int k) (.loc (1 + k)) fr (wS (W0 g k) ++ [cellW kvs]) = some (.nx, fr, wS (W0 g (k + 1))) := by
  have hc : (wS (W0 g k) ++ [cellW kvs])[0]? = some (.dct false (encD .int (fun i => .loc (1 + i)) (idxs k))) := by unfold wS; rw [W0_len]; rfl
  have hnew : lookT (idxs k) (k : Int) = none := by
    rw [lookT_none]
    unfold idxs
    rw [List.map_map, List.mem_map]
    rintro ⟨i, hi, e⟩
    rw [List.mem_range] at hi
    simp at e
    omega
  rw [stI_dct hc rfl (by rw [encD_len]; unfold idxs; simp; unfold SZ; omega)]
  have := put_enc (ke := .int) (ve := fun i => PV.loc (1 + i)) int_inj (idxs k) idxs_nodup (k : Int) k
  rw [this, putT_new hnew, ← idxs_succ]
  unfold wS
  rw [W0_len, W0_len]
  unfold W0
  rw [List.range_succ]
  simp [hw]
theorem setW_cells (W : List (List Wd)) : ∀ (m k : Nat) (st : Store), (∀ i, k ≤ i → i < k + m → st[1 + i]? = some (cellW (W.getD i []))) →
    ∃ st', frzD (frzV 29) ((List.range' k m).map fun i : Nat => (PV.int i, PV.loc (1 + i))) st = some ((List.range' k m).map fun i : Nat => (PV.int i, setW (W.getD i [])), st')
  | 0, k, st, _ => ⟨st, rfl⟩
  | m + 1, k, st, h => by
    obtain ⟨st', e⟩ := setW_cells W m (k + 1) (st.set (1 + k) .dead) fun i h1 h2 => by
      rw [List.getElem?_set_ne (by omega)]
      exact h i (by omega) (by omega)
    refine ⟨st', ?_⟩
    have hf : frzV 29 (.loc (1 + k)) st = some (setW (W.getD k []), st.set (1 + k) .dead) := by
      rw [frzV]
      simp only [h k (Nat.le_refl _) (by omega), cellW]
      rw [frzD_of fun p hp => ?_]
      · rfl
      · obtain ⟨x, _, rfl⟩ := List.mem_map.mp hp
        exact frz_le (k := 0) rfl (by omega)
    rw [List.range'_succ, List.map_cons, frzD, hf]
    simp [e]
structure WW (g : Gr) (most : Nat) (WF : FT) : Prop where
  nd : ∀ s l, lookT WF s = some l → l.Nodup
  mem : ∀ s l, lookT WF s = some l → ∀ w, w ∈ l ↔ Der g s w ∧ w.length ≤ most
  all : ∀ s, 0 ≤ s → s < g.n + g.e → (lookT WF s).isSome = true
theorem q39 {n : Nat} (h : 39 < n) (hg : g.Nice) (he : g.n + g.e ≤ 5) (hm : most ≤ 4) (hm1 : 1 ≤ most) {st : Store} : ∃ WF : FT, WW g most WF ∧ denT fnT n 39 [grv g, .int most] st = some (.dct false (encD .int setW WF), st) := by
  have h1 := hg.n1
  have h2 := hg.e1
  have hk1 : ∀ st', kR1 (.int g.n) st' = some ((List.range g.n.toNat).map fun m : Nat => PV.int m, st') := fun st' => by
    have := kR1_nat (j := g.n.toNat) (s := st') (by omega)
    rwa [show ((g.n.toNat : Nat) : Int) = g.n by omega] at this
  have hk2 : ∀ st', kR2 (.int g.n) (.int (g.n + g.e)) st' = some ((rngI g.n (g.n + g.e)).map .int, st') := fun st' => kR2_int (by omega) (by omega) (by omega) (by omega)
  have hsl : ∀ k, (wS (W0 g k)).length = 1 + k := fun k => by unfold wS; rw [List.length_cons, List.length_map, W0_len]; omega
  obtain ⟨fr1, s1, e1, q7, rfl, hs1⟩ := fr_go (F := fun m : Nat => PV.int m) (asg := asgT (.nm 7)) (b := fun fr st => exs (denT fnT 39) dLawWords_l1b fr st) (List.range g.n.toNat)
    (fun l fr st' => ∃ q7, fr = frN g most true q7 none none none none none none none ∧ st' = wS (W0 g l.length)) (fun l x r fr st' hl hI => by
      obtain ⟨q7, rfl, hst⟩ := hI
      rw [hst]
      obtain ⟨rfl, hlt⟩ := range_at hl
      have hadd := wS_add (g := g) (k := l.length) (fr := frN g most true (some (.int l.length)) none none none none none none none) (kvs := []) (by omega) (if_pos (by omega))
      refine ⟨frN g most true (some (.int l.length)) none none none none none none none, _, wS (W0 g (l.length + 1)), rfl, ?_, some (.int l.length), rfl, by simp⟩
      unfold frN at hadd ⊢
      have e0 : [Cell.dct true []] = [cellW []] := rfl
      simp [dLawWords_l1b, prs, dctL, mkD, e0, hsl, hadd]) (frN g most true none none none none none none none none) (wS (W0 g 0)) ⟨none, rfl, rfl⟩
  rw [List.length_range] at hs1
  rw [hs1] at e1
  obtain ⟨fr2, s2, e2, q8, rfl, hs2⟩ := fr_go (F := PV.int) (asg := asgT (.nm 8)) (b := fun fr st => exs (denT fnT 39) dLawWords_l2b fr st) (rngI g.n (g.n + g.e))
    (fun l fr st' => ∃ q8, fr = frN g most true q7 q8 none none none none none none ∧ st' = wS (W0 g (g.n.toNat + l.length))) (fun l x r fr st' hl hI => by
      obtain ⟨q8, rfl, hst⟩ := hI
      rw [hst]
      obtain ⟨hx, hlt⟩ := rngI_at hl
      have hx2 : ((g.n.toNat + l.length : Nat) : Int) = x := by omega
      have hadd := wS_add (g := g) (k := g.n.toNat + l.length) (fr := frN g most true q7 (some (.int x)) none none none none none none) (kvs := [[x]]) (by omega) (by rw [if_neg (by omega), hx2])
      rw [hx2, Nat.add_assoc g.n.toNat l.length 1] at hadd
      refine ⟨frN g most true q7 (some (.int x)) none none none none none none, _, wS (W0 g (g.n.toNat + (l.length + 1))), rfl, ?_, some (.int x), rfl, by simp⟩
      unfold frN at hadd ⊢
      have e0 : [Cell.dct true [(PV.tup [.int x], PV.bl true)]] = [cellW [[x]]] := rfl
      have hkf : kFor true (.tup [.int x]) = true := kFor_wv (w := [x])
      simp [dLawWords_l2b, prs, dctL, put, mkD, hkf, e0, hsl, hadd]) (frN g most true q7 none none none none none none none) (wS (W0 g g.n.toNat)) ⟨none, rfl, rfl⟩
  rw [rngI_len, show g.n.toNat + (g.n + g.e - g.n).toNat = (g.n + g.e).toNat by omega] at hs2
  rw [hs2] at e2
  have hw0 : ∀ s : Int, 0 ≤ s → s < g.n + g.e → wat (W0 g (g.n + g.e).toNat) s = if s < g.n then [] else [[s]] := fun s h0 h1 => by
    unfold wat W0
    rw [List.getD_eq_getElem?_getD, List.getElem?_map, List.getElem?_range (by omega)]
    simp only [Option.map_some, Option.getD_some]
    rw [show ((s.toNat : Nat) : Int) = s by omega]
  have hi0 : WI g most (W0 g (g.n + g.e).toNat) := by
    refine ⟨W0_len, fun s h0 h1 => ?_, fun s h0 h1 w hw => ?_, fun s h0 h1 => ?_⟩
    · rw [hw0 s h0 h1]; split <;> simp
    · rw [hw0 s h0 h1] at hw
      split at hw
      · cases hw
      · rw [List.mem_singleton] at hw; subst hw; exact ⟨.en (by omega) h1, hm1⟩
    · rw [hw0 s (by omega) h1, if_neg (by omega)]; simp
  obtain ⟨W, fr3, s3, e3, hi, ⟨rfl, p7, p8, p9, p10, p11, p12, p13, p14, rfl⟩, hc⟩ := n_while hg he hm _ (frN g most true q7 q8 none none none none none none) _ hi0 ⟨rfl, _, _, _, _, _, _, _, _, rfl⟩
  have hwl := hi.len
  obtain ⟨st', ef⟩ := setW_cells W (g.n + g.e).toNat 0 ((wS W).set 0 .dead) fun i _ h2 => by
    rw [List.getElem?_set_ne (by omega)]
    have := wS_cell (W := W) (s := (i : Int)) (by omega) (by omega)
    simpa [wat] using this
  have hfu : ((List.range' 0 (g.n + g.e).toNat).map fun i : Nat => (PV.int i, setW (W.getD i []))) = encD .int setW ((rngI 0 (g.n + g.e)).map fun s => (s, wat W s)) := by
    rw [← List.range_eq_range']
    unfold encD rngI wat
    rw [List.map_map, List.map_map, Int.sub_zero]
    refine List.map_congr_left fun i _ => ?_
    simp
  have hnd : (((rngI 0 (g.n + g.e)).map fun s => (s, wat W s)).map (·.1)) = rngI 0 (g.n + g.e) := by rw [List.map_map]; simp [Function.comp_def]
  have hlk : ∀ s l, lookT ((rngI 0 (g.n + g.e)).map fun s => (s, wat W s)) s = some l → (0 ≤ s ∧ s < g.n + g.e) ∧ l = wat W s := fun s l hl => by
    obtain ⟨x, hx, e⟩ := List.mem_map.mp (lookT_mem hl)
    cases e
    exact ⟨mem_rngI.mp hx, rfl⟩
  have hfz : frzV 30 (.loc 0) (wS W) = some (.dct false (encD .int setW ((rngI 0 (g.n + g.e)).map fun s => (s, wat W s))), st') := by
    have hc0 : (wS W)[0]? = some (.dct false (encD .int (fun i => .loc (1 + i)) (idxs W.length))) := rfl
    rw [frzV]
    simp only [hc0]
    have e0 : encD PV.int (fun i => PV.loc (1 + i)) (idxs W.length) = (List.range' 0 (g.n + g.e).toNat).map fun i : Nat => (PV.int i, PV.loc (1 + i)) := by
      rw [← List.range_eq_range', hwl]; simp [encD, idxs]
    rw [e0, ef, hfu]
    rfl
  refine ⟨(rngI 0 (g.n + g.e)).map fun s => (s, wat W s), ⟨fun s l hl => ?_, fun s l hl w => ?_, fun s h0 h1 => ?_⟩, ?_⟩
  · obtain ⟨hr, rfl⟩ := hlk s l hl
    exact hi.nd s hr.1 hr.2
  · obtain ⟨hr, rfl⟩ := hlk s l hl
    exact ⟨fun hw => hi.snd s hr.1 hr.2 w hw, fun hw => hi.closed hg hc hw.1 hw.2⟩
  · rw [lookT_of_mem (b := wat W s) (by rw [hnd]; exact rngI_nodup) (List.mem_map.mpr ⟨s, mem_rngI.mpr ⟨h0, h1⟩, rfl⟩)]; rfl
  · rw [dLawWords_at h]
    have hlv : lf (.dct false (encD .int setW ((rngI 0 (g.n + g.e)).map fun s => (s, wat W s)))) = true := by
      rw [lf]
      refine lfD_of fun p hp => ?_
      obtain ⟨x, _, rfl⟩ := List.mem_map.mp hp
      refine ⟨rfl, ?_⟩
      simp only
      rw [setW, lf]
      refine lfD_of fun p hp => ?_
      obtain ⟨y, _, rfl⟩ := List.mem_map.mp hp
      exact ⟨lf_wv, rfl⟩
    refine denF_own (s1 := st') ?_ rfl rfl (by simp [lfL, lf_grv, lf]) hlv
    have ha : asgT (.tp [.nm 2, .nm 3, .nm 4]) (grv g) [some (grv g), some (.int most), none, none, none, none, none, none, none, none, none, none, none, none, none, none] = some [some (grv g), some (.int most), some (.int g.n), some (.int g.e), some (.tup (g.rs.map rv)), none, none, none, none, none, none, none, none, none, none, none] := rfl
    have ew : [Cell.dct false []] = wS (W0 g 0) := rfl
    show runB (denT fnT 39) dLawWords.body [some (grv g), some (.int most), none, none, none, none, none, none, none, none, none, none, none, none, none, none] [] = _
    unfold frN at e1 e2 e3
    simp [dLawWords, ha, prs, dctL, mkD, ew, dLawWords_l1, dLawWords_l2, z_frr, hk1, hk2, e1, e2, e3, hfz]
end
end K89
end

section
set_option Elab.async false
set_option linter.all false
set_option maxRecDepth 100000
set_option autoImplicit false
set_option maxHeartbeats 4000000
/-! _law_same, _law_bag, _law_draw, _law_one -/
namespace K89
open PySem (Str)
open Pv

@[simp] theorem isi_int {i : Int} {ts : List Ty} {st : Store} : tyOk st (.int i) = true := rfl
theorem q31i {n : Nat} (h : 31 < n) {a b : Int} {st : Store} : denT fnT n 31 [.int a, .int b] st = some (.bl (decide (a = b)), st) := by
  rw [dLawSame1_at h]
  simp [dLawSame1, denF, tyIs, tyOk, lstOf, dctOf]
theorem q32i {n : Nat} (h : 32 < n) {a b : Int} {st : Store} : denT fnT n 32 [.int a, .int b] st = some (.bl (decide (a = b)), st) := by
  rw [dLawSame2_at h]
  simp [dLawSame2, denF, tyIs, tyOk, lstOf, dctOf]
theorem cmp_eq_bl {a b : Bool} {st : Store} : cmpP .eq (.bl a) (.bl b) st = some (decide (a = b)) := by
  cases a <;> cases b <;> simp [cmpP, dv, both, isD, eqv]
@[simp] theorem cmp_is_bln {a : Bool} {st : Store} : cmpP .is (.bl a) .non st = some false := by unfold cmpP; rfl
theorem q32b {n : Nat} (h : 32 < n) {a b : Bool} {st : Store} : denT fnT n 32 [.bl a, .bl b] st = some (.bl (decide (a = b)), st) := by
  rw [dLawSame2_at h]
  simp [dLawSame2, denF, tyIs, tyOk, lstOf, dctOf, cmp_eq_bl]
theorem idxw {w : List Int} {k : Nat} {x : Int} {st : Store} (h : w[k]? = some x) : idxP (wv w) (.int k) st = some (.int x) := by
  obtain ⟨hk, rfl⟩ := List.getElem?_eq_some_iff.mp h
  have h1 : ixOf w.length (k : Int) = some k := by unfold ixOf; rw [if_pos (by omega), if_pos (by omega)]; simp
  simp [wv, idxP, dctOf, seqOf, h1, hk]
theorem q32w {n : Nat} (h : 32 < n) {a b : List Int} {st : Store} (hb : b.length ≤ 1000) : denT fnT n 32 [wv a, wv b] st = some (.bl (decide (a = b)), st) := by
  rw [dLawSame2_at h]
  have t1 : ∀ w : List Int, tyOk st (wv w) = true := fun _ => rfl
  have t2 : ∀ w : List Int, tyIs st (wv w) .tup = true := fun _ => rfl
  have t3 : ∀ w : List Int, tyIs st (wv w) .lst = false := fun _ => rfl
  by_cases hl : a.length = b.length
  · have hc : ev (denT fnT 32) dLawSame2_c1 [some (wv a), some (wv b), none] st = some (.lst ((List.range b.length).map fun k => .bl (decide (a.getD k 0 = b.getD k 0))), st) := by
      have hk1 : kR1 (.int (b.length : Int)) st = some ((List.range b.length).map fun m : Nat => PV.int m, st) := kR1_nat (by omega)
      refine ev_lcmT (xs := List.range b.length) (s1 := st) (fun k : Nat => .int k) (fun k => .bl (decide (a.getD k 0 = b.getD k 0))) (by simp [hk1]) (fun k hk => ⟨_, rfl, ?_⟩) (by rw [List.length_range]; unfold SZ; omega)
      have hk := List.mem_range.mp hk
      have i1 := idxw (w := a) (k := k) (x := a.getD k 0) (st := st) (by rw [List.getD_eq_getElem?_getD, List.getElem?_eq_getElem (by omega)]; rfl)
      have i2 := idxw (w := b) (k := k) (x := b.getD k 0) (st := st) (by rw [List.getD_eq_getElem?_getD, List.getElem?_eq_getElem (by omega)]; rfl)
      have hq := q31i (n := 32) (by decide) (a := a.getD k 0) (b := b.getD k 0) (st := st)
      simp only [wipeF, List.set_cons_succ, List.set_cons_zero, z_call, z_cons, z_nil, z_idx, z_var, List.getElem?_cons_succ, List.getElem?_cons_zero, gv_some, Option.bind_some, kPr_mk, i1, i2, Option.map_some, hq]
    have hd : ((List.range b.length).all fun k => decide (a.getD k 0 = b.getD k 0)) = decide (a = b) := by
      rw [Bool.eq_iff_iff, List.all_eq_true, decide_eq_true_eq]
      constructor
      · intro h
        refine List.ext_getElem hl fun i h1 h2 => ?_
        have := h i (List.mem_range.mpr h2)
        rw [decide_eq_true_eq, List.getD_eq_getElem?_getD, List.getD_eq_getElem?_getD, List.getElem?_eq_getElem h1, List.getElem?_eq_getElem h2] at this
        exact this
      · rintro rfl k _
        simp
    have hl' : (a.length : Int) = (b.length : Int) := by omega
    have ha := b_all (p := fun k => decide (a.getD k 0 = b.getD k 0)) (l := List.range b.length) (st := st)
    rw [hd] at ha
    simp [dLawSame2, denF, t1, t2, t3, hl', hc, ha, -List.getD_eq_getElem?_getD]
  · have hl' : ¬ (a.length : Int) = (b.length : Int) := by omega
    have : ¬ a = b := fun e => hl (by rw [e])
    simp [dLawSame2, denF, t1, t2, t3, hl', this]

/-! the bag -/
def M256 : Int := 10 ^ 64 * 10 ^ 64 * 10 ^ 64 * 10 ^ 64
def bagL (c f k : Int) : Cell := .lst [.int c, .int f, .int k]
def BagOk (st : Store) (b m : Nat) : Prop := ∃ c f k : Int, st[b]? = some (bagL c f k) ∧ 0 ≤ c ∧ c < M256 ∧ 0 ≤ k ∧ k ≤ m
theorem log2_lt {a n : Nat} (hn : 0 < n) (h : a < 2 ^ n) : a.log2 < n := by
  by_cases h0 : a = 0
  · subst h0; simpa using hn
  · exact (Nat.log2_lt h0).mpr h
theorem mul_ok {i j : Int} {a b : Nat} (ha : 0 < a) (hb : 0 < b) (h1 : i.natAbs < 2 ^ a) (h2 : j.natAbs < 2 ^ b) (h : a + b ≤ 1000000) : binI .mul i j = some (i * j) := by
  have := log2_lt ha h1
  have := log2_lt hb h2
  show (if mulOk i j = true then some (i * j) else none) = _
  have hm : mulOk i j = true := decide_eq_true (by omega)
  rw [if_pos hm]
theorem bin_mul {i j : Int} {st : Store} {a b : Nat} (ha : 0 < a) (hb : 0 < b) (h1 : i.natAbs < 2 ^ a) (h2 : j.natAbs < 2 ^ b) (h : a + b ≤ 1000000) : binP .mul (.int i) (.int j) st = some (.int (i * j)) := by
  have e : binP .mul (.int i) (.int j) st = (binI .mul i j).map .int := rfl
  rw [e, mul_ok ha hb h1 h2 h]; rfl
theorem bin_mod {i j : Int} {st : Store} (h : 0 < j) : binP .mod (.int i) (.int j) st = some (.int (i % j)) := by
  have e : binP .mod (.int i) (.int j) st = (binI .mod i j).map .int := rfl
  rw [e]; unfold binI; simp only [h, if_true]; rfl
theorem bin_fdiv {i j : Int} {st : Store} (h : 0 < j) (h2 : j < 2 ^ 64) : binP .fdiv (.int i) (.int j) st = some (.int (i / j)) := by
  have e : binP .fdiv (.int i) (.int j) st = (binI .fdiv i j).map .int := rfl
  have := log2_lt (a := j.natAbs) (n := 64) (by decide) (by omega)
  rw [e]; unfold binI; simp only
  rw [if_pos ⟨h, by omega⟩]; rfl
theorem p64 {st : Store} : binP .pow (.int 10) (.int 64) st = some (.int (10 ^ 64)) := by
  have e : binP .pow (.int 10) (.int 64) st = (binI .pow 10 64).map .int := rfl
  rw [e]; rfl
theorem p18 {st : Store} : binP .pow (.int 10) (.int 18) st = some (.int (10 ^ 18)) := by
  have e : binP .pow (.int 10) (.int 18) st = (binI .pow 10 18).map .int := rfl
  rw [e]; rfl
theorem M_pos : 0 < M256 := by unfold M256; decide +kernel
theorem M_lt : M256.natAbs < 2 ^ 1000 := by unfold M256; decide +kernel
theorem mM1 {st : Store} : binP .mul (.int (10 ^ 64)) (.int (10 ^ 64)) st = some (.int (10 ^ 64 * 10 ^ 64)) := bin_mul (a := 1000) (b := 1000) (by decide) (by decide) (by decide +kernel) (by decide +kernel) (by decide)
theorem mM2 {st : Store} : binP .mul (.int (10 ^ 64 * 10 ^ 64)) (.int (10 ^ 64)) st = some (.int (10 ^ 64 * 10 ^ 64 * 10 ^ 64)) := bin_mul (a := 1000) (b := 1000) (by decide) (by decide) (by decide +kernel) (by decide +kernel) (by decide)
theorem mM3 {st : Store} : binP .mul (.int (10 ^ 64 * 10 ^ 64 * 10 ^ 64)) (.int (10 ^ 64)) st = some (.int M256) := bin_mul (a := 1000) (b := 1000) (by decide) (by decide) (by decide +kernel) (by decide +kernel) (by decide)
theorem b_int {i : Int} {st : Store} : biP .int [.int i] st = some (.int i) := by unfold biP; rfl
theorem b_intb {b : Bool} {st : Store} : biP .int [.bl b] st = some (.int (if b then 1 else 0)) := by unfold biP; rfl
theorem b_abs {i : Int} {st : Store} : biP .abs [.int i] st = some (.int (if i < 0 then -i else i)) := by unfold biP; rfl
theorem q27 {n : Nat} (h : 27 < n) {ns : List Int} {a : Nat} (ha : a ≤ 10) {st : Store} : ∃ st', denT fnT n 27 [.fz (ns.map .int), .int a] st = some (.loc st.length, st') ∧ BagOk st' st.length (3 * a + 1) := by
  rw [dLawBag_at h]
  have hlen : biP .len [.fz (ns.map .int)] st = some (.int ns.length) := by
    have e : biP .len [.fz (ns.map .int)] st = some (.int (ns.map PV.int).length) := rfl
    rw [e, List.length_map]
  have key : ∀ c : Int, ev (denT fnT 27) (.ife (.cmp .lt (.var 1) (.bi .len [(.var 0)])) (.bi .int [(.bi .abs [(.idx (.var 0) (.var 1))])]) (.bin .add (.bin .mul (.con (.int 29)) (.var 1)) (.con (.int 11)))) [some (.fz (ns.map .int)), some (.int a), none] st = some (.int c, st) →
      ∃ st', denF (denT fnT 27) dLawBag [.fz (ns.map .int), .int a] st = some (.loc st.length, st') ∧ BagOk st' st.length (3 * a + 1) := by
    intro c hc
    have h3 : binP .mul (.int 3) (.int a) st = some (.int (3 * (a : Int))) := bin_mul (a := 10) (b := 10) (by decide) (by decide) (by decide) (by simp; omega) (by decide)
    have hm : binP .mod (.int c) (.int M256) st = some (.int (c % M256)) := bin_mod M_pos
    have hmk : ∀ x y z : PV, mkL true [x, y, z] st = some (.loc st.length, st ++ [.lst [x, y, z]]) := fun x y z => by unfold mkL; rw [if_pos (by simp [SZ])]; rfl
    refine ⟨st ++ [bagL (c % M256) (if decide ((10 ^ 18 : Int) ≤ c % M256) then 1 else 0) (3 * a + 1)], ?_, c % M256, _, _, by rw [List.getElem?_append_right (Nat.le_refl _), Nat.sub_self]; rfl, Int.emod_nonneg _ (by have := M_pos; omega), Int.emod_lt_of_pos _ M_pos, by omega, by omega⟩
    rw [denF_out rfl rfl]
    show runB _ _ [some (.fz (ns.map .int)), some (.int a), none] st = _
    unfold dLawBag
    rw [z_runB, z_s1, z_set, hc]
    simp only [Option.bind_some, kPr_mk, asgT_nm, List.length_cons, List.length_nil, Nat.zero_add, Nat.reduceAdd, Nat.reduceLT, if_true, List.set_cons_succ, List.set_cons_zero, Option.map_some, kSq_nx, z_s1, z_set, z_bin, z_bi, z_cons, z_nil, z_var, List.getElem?_cons_succ, List.getElem?_cons_zero, gv_some, b_int, z_con, p64, mM1, mM2, mM3, hm, z_ret, z_lstd, z_cmp, p18, cmp_ge_int, b_intb, h3, bin_add, hmk, kSq_ret, kB_ret]
    rfl
  by_cases hlt : a < ns.length
  · have hix : idxP (.fz (ns.map .int)) (.int a) st = some (.int (ns[a]'hlt)) := by
      have h1 : ixOf ns.length (a : Int) = some a := by unfold ixOf; rw [if_pos (by omega), if_pos (by omega)]; simp
      simp [idxP, dctOf, seqOf, h1, hlt]
    have hlt' : (a : Int) < (ns.length : Int) := by omega
    exact key (if ns[a]'hlt < 0 then -(ns[a]'hlt) else ns[a]'hlt) (by simp [hlen, hlt', hix, b_abs, b_int])
  · have h3 : binP .mul (.int 29) (.int a) st = some (.int (29 * (a : Int))) := bin_mul (a := 10) (b := 10) (by decide) (by decide) (by decide) (by simp; omega) (by decide)
    have hlt' : ¬ (a : Int) < (ns.length : Int) := by omega
    exact key (29 * a + 11) (by simp [hlen, hlt', h3])
theorem bag_idx {st : Store} {b : Nat} {c f k : Int} (h : st[b]? = some (bagL c f k)) : idxP (.loc b) (.int 0) st = some (.int c) ∧ idxP (.loc b) (.int 1) st = some (.int f) ∧ idxP (.loc b) (.int 2) st = some (.int k) := by
  have x0 : ixOf 3 0 = some 0 := rfl
  have x1 : ixOf 3 1 = some 1 := rfl
  have x2 : ixOf 3 2 = some 2 := rfl
  unfold bagL at h
  refine ⟨?_, ?_, ?_⟩ <;> simp [idxP, dctOf, seqOf, lstOf, h, x0, x1, x2]
theorem bag_set {st : Store} {b : Nat} {c f k : Int} {fr : Fr} (h : st[b]? = some (bagL c f k)) : (∀ v : Int, stI (.loc b) (.int 2) (.int v) fr st = some (.nx, fr, st.set b (bagL c f v))) ∧ ∀ v : Int, stI (.loc b) (.int 0) (.int v) fr st = some (.nx, fr, st.set b (bagL v f k)) :=
  ⟨fun v => stI_lst (m := 2) h rfl, fun v => stI_lst (m := 0) h rfl⟩
theorem bag_self {st : Store} {b : Nat} {x y : Cell} (h : st[b]? = some x) : (st.set b y)[b]? = some y := by
  obtain ⟨hb, _⟩ := List.getElem?_eq_some_iff.mp h
  exact List.getElem?_set_self hb
theorem q28 {n : Nat} (h : 28 < n) {b m : Nat} {many : Int} {st : Store} (hb : BagOk st b m) (hm : m ≤ 10000) (h1 : 0 < many) (h2 : many < 2 ^ 64) :
    ∃ d c, denT fnT n 28 [.loc b, .int many] st = some (.int d, st.set b c) ∧ 0 ≤ d ∧ d < many ∧ BagOk (st.set b c) b (m + 1) := by
  obtain ⟨c, f, k, hc, c0, c1, k0, k1⟩ := hb
  rw [dLawDraw_at h, denF_out rfl rfl]
  show ∃ d c, runB _ _ [some (.loc b), some (.int many), none, none] st = _ ∧ _
  have hs1 := (bag_set (fr := [some (.loc b), some (.int many), none, none]) hc).1 (k + 1)
  have hc1 : (st.set b (bagL c f (k + 1)))[b]? = some (bagL c f (k + 1)) := bag_self hc
  obtain ⟨i0, i1, i2⟩ := bag_idx hc
  obtain ⟨j0, j1, j2⟩ := bag_idx hc1
  have hM := M_lt
  have hMp := M_pos
  by_cases hcase : f = 1 ∧ 0 < c
  · obtain ⟨rfl, hcp⟩ := hcase
    have hs2 := (bag_set (fr := [some (.loc b), some (.int many), some (.int (c % many)), none]) hc1).2 (c / many)
    have m1 := bin_mod (i := c) (j := many) (st := st.set b (bagL c 1 (k + 1))) h1
    have m2 := bin_fdiv (i := c) (j := many) (st := st.set b (bagL c 1 (k + 1))) h1 h2
    refine ⟨c % many, bagL (c / many) 1 (k + 1), ?_, Int.emod_nonneg _ (by omega), Int.emod_lt_of_pos _ h1, c / many, 1, k + 1, bag_self hc, Int.ediv_nonneg c0 (by omega), Int.lt_of_le_of_lt (Int.ediv_le_self _ c0) c1, by omega, by omega⟩
    simp [dLawDraw, i2, hs1, j0, j1, hcp, b_int, m1, m2, hs2]
  · have hand : (f = 1 → ¬ 0 < c) := fun e h => hcase ⟨e, h⟩
    have a1 := bin_mul (i := 7919) (j := k + 1) (st := st.set b (bagL c f (k + 1))) (a := 20) (b := 20) (by decide) (by decide) (by decide) (by omega) (by decide)
    have hx : (c + 7919 * (k + 1)).natAbs < 2 ^ 1001 := by
      have h3 : (2 : Nat) ^ 1000 + 2 ^ 40 ≤ 2 ^ 1001 := by decide +kernel
      have key : ∀ P Q : Nat, M256.natAbs < P → P + 2 ^ 40 ≤ Q → (c + 7919 * (k + 1)).natAbs < Q := fun P Q _ _ => by omega
      exact key _ _ hM h3
    have a2 := bin_mul (i := c + 7919 * (k + 1)) (j := 48611) (st := st.set b (bagL c f (k + 1))) (a := 1001) (b := 20) (by decide) (by decide) hx (by decide) (by decide)
    have a3 := bin_mod (i := (c + 7919 * (k + 1)) * 48611 + 577) (j := 2147483579) (st := st.set b (bagL c f (k + 1))) (by decide)
    have hone0 := Int.emod_nonneg ((c + 7919 * (k + 1)) * 48611 + 577) (b := 2147483579) (by decide)
    have hone1 := Int.emod_lt_of_pos ((c + 7919 * (k + 1)) * 48611 + 577) (b := 2147483579) (by decide)
    generalize ((c + 7919 * (k + 1)) * 48611 + 577) % 2147483579 = one at a3 hone0 hone1
    have a4 := bin_mul (i := one) (j := one) (st := st.set b (bagL c f (k + 1))) (a := 32) (b := 32) (by decide) (by decide) (by omega) (by omega) (by decide)
    have a5 := bin_mul (i := 17) (j := k + 1) (st := st.set b (bagL c f (k + 1))) (a := 20) (b := 20) (by decide) (by decide) (by decide) (by omega) (by decide)
    have a6 := bin_mod (i := one * one + 17 * (k + 1)) (j := 2147483587) (st := st.set b (bagL c f (k + 1))) (by decide)
    generalize (one * one + 17 * (k + 1)) % 2147483587 = two at a6
    have a7 := bin_fdiv (i := two) (j := 11) (st := st.set b (bagL c f (k + 1))) (by decide) (by decide)
    have a8 := bin_mod (i := two / 11) (j := many) (st := st.set b (bagL c f (k + 1))) h1
    refine ⟨two / 11 % many, bagL c f (k + 1), ?_, Int.emod_nonneg _ (by omega), Int.emod_lt_of_pos _ h1, c, f, k + 1, bag_self hc, c0, c1, by omega, by omega⟩
    have hcond : ev (denT fnT 28) (.and (.cmp .eq (.idx (.var 0) (.con (.int 1))) (.con (.int 1))) (.cmp .gt (.idx (.var 0) (.con (.int 0))) (.con (.int 0)))) [some (.loc b), some (.int many), none, none] (st.set b (bagL c f (k + 1))) = some (.bl false, st.set b (bagL c f (k + 1))) := by
      by_cases hf : f = 1
      · subst hf
        have := hand rfl
        simp [j1, j0, this]
      · simp [j1, hf]
    unfold dLawDraw
    simp only [z_runB, z_s1, z_seti, z_bin, z_idx, z_var, List.getElem?_cons_zero, List.getElem?_cons_succ, gv_some, Option.bind_some, kPr_mk, z_con, i2, Option.map_some, bin_add, hs1, kSq_nx, z_if, hcond, kIfS_f, z_s0, z_set, z_bi, z_cons, z_nil, j0, j2, a1, a2, b_int, a3, asgT_nm, List.length_cons, List.length_nil, Nat.zero_add, Nat.reduceAdd, Nat.reduceLT, if_true, List.set_cons_succ, List.set_cons_zero, a4, a5, a6, a7, a8, z_ret, kSq_ret, kB_ret]
theorem q29 {n : Nat} (h : 29 < n) {b m : Nat} {l : List PV} {st : Store} (hb : BagOk st b m) (hm : m ≤ 10000) (h1 : l ≠ []) (h2 : l.length ≤ 1000) :
    ∃ x ∈ l, ∃ c, denT fnT n 29 [.loc b, .lst l] st = some (x, st.set b c) ∧ BagOk (st.set b c) b (m + 1) := by
  have hl : 0 < l.length := List.length_pos_iff.mpr h1
  obtain ⟨d, c, e, d0, d1, hb'⟩ := q28 (n := 29) (by decide) hb hm (many := l.length) (by omega) (by omega)
  have hdl : d.toNat < l.length := by omega
  refine ⟨l[d.toNat], List.getElem_mem hdl, c, ?_, hb'⟩
  rw [dLawOne_at h]
  have hix : idxP (.lst l) (.int d) (st.set b c) = some l[d.toNat] := by
    have h1 : ixOf l.length d = some d.toNat := by unfold ixOf; rw [if_pos d0, if_pos d1]
    simp [idxP, dctOf, seqOf, lstOf, h1, hdl]
  simp [dLawOne, denF, e, hix]
end K89
end

section
set_option Elab.async false
set_option linter.all false
set_option maxRecDepth 100000
set_option autoImplicit false
set_option maxHeartbeats 4000000
/-! _law_grammar -/
namespace K89
open PySem (Str)
open Pv

theorem rv_inj : ∀ x y : Ru, rv x = rv y → x = y := fun x y h => by
  unfold rv at h
  simp only [PV.tup.injEq, List.cons.injEq, PV.int.injEq, and_true] at h
  exact Prod.ext h.1 (wv_inj _ _ h.2)
@[simp] theorem kFor_rv {r : Ru} : kFor true (rv r) = true := by simp [kFor, rv, wv, isTup, kOk, kOkL, kOkL_int]
/-! rules in order -/
def kap (r : Ru) : List Int := r.1 :: r.2
theorem kap_inj {r s : Ru} (h : kap r = kap s) : r = s := by
  unfold kap at h
  injection h with h1 h2
  exact Prod.ext h1 h2
theorem ltW_lt : ∀ a b : List Int, ltW a b = decide (a < b)
  | [], [] => by simp [ltW]
  | [], _ :: _ => by simp [ltW]
  | _ :: _, [] => by simp [ltW]
  | a :: r, b :: s => by
    rw [ltW, ltW_lt r s]
    by_cases h : a = b
    · subst h; simp [List.cons_lt_cons_iff]
    · simp [List.cons_lt_cons_iff, h]
theorem ltR_lt (r s : Ru) : ltR r s = decide (kap r < kap s) := by
  rw [← ltW_lt]
  unfold ltR kap
  rw [ltW]
def leK (r s : Ru) : Bool := decide (kap r ≤ kap s)
theorem leK_not (r s : Ru) : leK r s = !ltP (rv s) (rv r) := by
  rw [lt_rv, ltR_lt]
  unfold leK
  rw [← decide_not]
  exact decide_eq_decide.mpr List.not_lt.symm
theorem sort_rv (l : List Ru) : sortP (l.map rv) = (l.mergeSort leK).map rv := by
  unfold sortP
  rw [List.map_mergeSort]
  intro a _ b _
  exact leK_not a b
theorem asc_of : ∀ {l : List Ru}, l.Pairwise (fun a b => leK a b = true) → l.Nodup → ascR l = true
  | [], _, _ => rfl
  | [a], _, _ => rfl
  | a :: b :: r, h, hn => by
    have e : ascR (a :: b :: r) = (ltR a b && ascR (b :: r)) := by simp [ascR]
    rw [List.pairwise_cons] at h
    rw [List.nodup_cons] at hn
    rw [e, asc_of h.2 hn.2, Bool.and_true, ltR_lt, decide_eq_true_eq]
    have h1 := h.1 b (List.mem_cons_self ..)
    unfold leK at h1
    rw [decide_eq_true_eq] at h1
    have h2 : kap a ≠ kap b := fun e => hn.1 (by rw [kap_inj e]; exact List.mem_cons_self ..)
    rcases List.le_iff_lt_or_eq.mp h1 with h | h
    · exact h
    · exact absurd h h2
theorem sorted_asc {l : List Ru} (hn : l.Nodup) : ascR (l.mergeSort leK) = true := by
  refine asc_of ?_ ((List.mergeSort_perm l leK).nodup_iff.mpr hn)
  refine List.pairwise_mergeSort (fun a b c h1 h2 => ?_) (fun a b => ?_) l
  · unfold leK at *
    rw [decide_eq_true_eq] at *
    exact List.le_trans h1 h2
  · unfold leK
    rw [Bool.or_eq_true, decide_eq_true_eq, decide_eq_true_eq]
    exact List.le_total _ _
theorem sortable_rv (l : List Ru) : sortable (l.map rv) = true := by
  have h1 : isDL 30 (l.map rv) = true := by
    induction l with
    | nil => rfl
    | cons a l ih => simp [isDL, isD_rv, ih]
  have h2 : (l.map rv).all (fun x => (l.map rv).all fun y => alk x y) = true := by
    simp [List.all_map, alk_rv]
  have h3 : (l.map rv).all (fun x => match x with | .tup (_ :: _) => true | _ => false) = true := by
    simp [List.all_map, rv]
  unfold sortable
  rw [h1, h2]
  simp only [Bool.and_self, Bool.true_and, Bool.or_eq_true]
  exact .inl h3
theorem cut2 {a b : PV} {j : Int} (h0 : 0 ≤ j) (h : j ≤ 2) : cut [a, b] none (some j) = [a, b].take j.toNat := by
  obtain rfl | rfl | rfl : j = 0 ∨ j = 1 ∨ j = 2 := by omega
  · rfl
  · rfl
  · rfl
theorem g_turn {b r m : Nat} {N E : Int} {st : Store} (hb : BagOk st b m) (hm : m ≤ 5000) (hbr : b ≠ r) (hN : 1 ≤ N ∧ N ≤ 1000) (hE : 1 ≤ E ∧ E ≤ 1000) {L : List Ru} (hr : st[r]? = some (.dct true (encS rv L))) (hL : L.length ≤ 1000) (x : Int) (p6 p7 p8 p9 : Option PV) (M : PV) :
    ∃ nr st' q6 q7 q8 q9, exs (denT fnT 33) dLawGrammar_l1b [some (.loc b), some (.int N), some (.int E), some M, some (.loc r), some (.int x), p6, p7, p8, p9] st = some (.nx, [some (.loc b), some (.int N), some (.int E), some M, some (.loc r), some (.int x), q6, q7, q8, q9], st') ∧ BagOk st' b (m + 4) ∧ st'[r]? = some (.dct true (encS rv (putS L nr))) ∧ 0 ≤ nr.1 ∧ nr.1 < N ∧ (∀ y ∈ nr.2, 0 ≤ y ∧ y < N + E) ∧ nr.2.length ≤ 2 := by
  obtain ⟨d1, c1, e1, a0, a1, hb1⟩ := q28 (n := 33) (by decide) hb (by omega) (many := N) (by omega) (by omega)
  obtain ⟨v, hv, c2, e2, hb2⟩ := q29 (n := 33) (by decide) hb1 (by omega) (l := [.int 2, .int 0, .int 1, .int 2, .int 1, .int 2]) (by simp) (by simp)
  obtain ⟨j, rfl, j0, j2⟩ : ∃ j : Int, v = .int j ∧ 0 ≤ j ∧ j ≤ 2 := by
    simp only [List.mem_cons, List.not_mem_nil, or_false] at hv
    rcases hv with rfl | rfl | rfl | rfl | rfl | rfl <;> exact ⟨_, rfl, by decide, by decide⟩
  obtain ⟨d3, c3, e3, f0, f1, hb3⟩ := q28 (n := 33) (by decide) hb2 (by omega) (many := N + E) (by omega) (by omega)
  obtain ⟨d4, c4, e4, g0, g1, hb4⟩ := q28 (n := 33) (by decide) hb3 (by omega) (many := N + E) (by omega) (by omega)
  have hmk : ∀ st, mkL false [.int 2, .int 0, .int 1, .int 2, .int 1, .int 2] st = some (.lst [.int 2, .int 0, .int 1, .int 2, .int 1, .int 2], st) := fun st => mkL_false (by simp [SZ])
  have hr4 : ((((st.set b c1).set b c2).set b c3).set b c4)[r]? = some (.dct true (encS rv L)) := by
    rw [List.getElem?_set_ne hbr, List.getElem?_set_ne hbr, List.getElem?_set_ne hbr, List.getElem?_set_ne hbr]; exact hr
  have hrl : r < ((((st.set b c1).set b c2).set b c3).set b c4).length := by obtain ⟨h, _⟩ := List.getElem?_eq_some_iff.mp hr4; exact h
  have hsl : ∀ st, slcP (.tup [.int d3, .int d4]) none (some j) st = some (wv ([d3, d4].take j.toNat)) := fun st => by
    show some (PV.tup (cut [.int d3, .int d4] none (some j))) = _
    rw [cut2 j0 j2]
    unfold wv
    rw [List.map_take]; rfl
  have hst : ∀ fr, stI (.loc r) (.tup [.int d1, wv ([d3, d4].take j.toNat)]) (.bl true) fr ((((st.set b c1).set b c2).set b c3).set b c4) = some (.nx, fr, ((((st.set b c1).set b c2).set b c3).set b c4).set r (.dct true (encS rv (putS L (d1, [d3, d4].take j.toNat))))) := fun fr => by
    have e : PV.tup [.int d1, wv ([d3, d4].take j.toNat)] = rv (d1, [d3, d4].take j.toNat) := rfl
    rw [e, stI_dct hr4 kFor_rv (by rw [encS_len]; unfold SZ; omega), put_encS rv_inj]
  refine ⟨(d1, [d3, d4].take j.toNat), _, some (.int d1), some (.int j), some (.int d3), some (.int d4), ?_, ?_, List.getElem?_set_self hrl, a0, a1, fun y hy => ?_, ?_⟩
  · simp [dLawGrammar_l1b, e1, hmk, e2, e3, e4, sliP, hsl, hst, -List.set_set]
  · obtain ⟨c, f, k, h1, h2⟩ := hb4
    exact ⟨c, f, k, by rw [List.getElem?_set_ne (Ne.symm hbr)]; exact h1, h2⟩
  · have := List.mem_of_mem_take hy
    simp only [List.mem_cons, List.not_mem_nil, or_false] at this
    rcases this with rfl | rfl
    · exact ⟨f0, f1⟩
    · exact ⟨g0, g1⟩
  · show (([d3, d4] : List Int).take j.toNat).length ≤ 2
    rw [List.length_take]; exact Nat.min_le_right _ _
theorem q33 {n : Nat} (h : 33 < n) {b m most : Nat} {N E : Int} {st : Store} (hb : BagOk st b m) (hm : m ≤ 1000) (hmo : most ≤ 100) (hN : 1 ≤ N ∧ N ≤ 1000) (hE : 1 ≤ E ∧ E ≤ 1000) :
    ∃ g st', denT fnT n 33 [.loc b, .int N, .int E, .int most] st = some (grv g, st') ∧ g.n = N ∧ g.e = E ∧ g.rs.length ≤ most ∧ g.Ok ∧ BagOk st' b (m + 1 + 4 * most) := by
  have hbl : b < st.length := by obtain ⟨c, f, k, h, _⟩ := hb; obtain ⟨h, _⟩ := List.getElem?_eq_some_iff.mp h; exact h
  have hb0 : BagOk (st ++ [.dct true []]) b m := by
    obtain ⟨c, f, k, h1, h2⟩ := hb
    exact ⟨c, f, k, by rw [List.getElem?_append_left hbl]; exact h1, h2⟩
  obtain ⟨d, c, ed, d0, d1, hb1⟩ := q28 (n := 33) (by decide) hb0 (by omega) (many := most + 1) (by omega) (by omega)
  have hr0 : ((st ++ [Cell.dct true []]).set b c)[st.length]? = some (.dct true (encS rv [])) := by
    rw [List.getElem?_set_ne (by omega), List.getElem?_append_right (Nat.le_refl _)]; simp [encS]
  obtain ⟨fr', s', e, L, p5, p6, p7, p8, p9, rfl, hbs, hrs, hLn, hLr, hLl⟩ := fr_go (F := PV.int) (asg := asgT (.nm 5)) (b := fun fr st => exs (denT fnT 33) dLawGrammar_l1b fr st) (rngI 0 d)
    (fun l fr st' => ∃ L p5 p6 p7 p8 p9, fr = [some (.loc b), some (.int N), some (.int E), some (.int most), some (.loc st.length), p5, p6, p7, p8, p9] ∧ BagOk st' b (m + 1 + 4 * l.length) ∧ st'[st.length]? = some (.dct true (encS rv L)) ∧ L.Nodup ∧ (∀ r ∈ L, 0 ≤ r.1 ∧ r.1 < N ∧ (∀ y ∈ r.2, 0 ≤ y ∧ y < N + E) ∧ r.2.length ≤ 2) ∧ L.length ≤ l.length) (fun l x r fr st' hl hI => by
      obtain ⟨L, p5, p6, p7, p8, p9, rfl, hbs, hrs, hLn, hLr, hLl⟩ := hI
      have hlt := (rngI_at hl).2
      obtain ⟨nr, st2, q6, q7, q8, q9, e, hb2, hr2, h1, h2, h3, h4⟩ := g_turn hbs (by omega) (by omega) hN hE hrs (by omega) x p6 p7 p8 p9 (.int most)
      refine ⟨_, _, st2, rfl, e, putS L nr, _, _, _, _, _, rfl, by rw [List.length_append]; exact hb2, hr2, putS_nodup hLn, fun r hr => ?_, ?_⟩
      · rcases mem_putS.mp hr with hr | rfl
        · exact hLr r hr
        · exact ⟨h1, h2, h3, h4⟩
      · have := putS_len (l := L) (a := nr)
        rw [List.length_append]
        simp
        omega) [some (.loc b), some (.int N), some (.int E), some (.int most), some (.loc st.length), none, none, none, none, none] _ ⟨[], none, none, none, none, none, rfl, hb1, hr0, List.nodup_nil, fun r hr => (by cases hr), Nat.le_refl _⟩
  rw [rngI_len] at hLl hbs
  have hperm := List.mergeSort_perm L leK
  have hnice : (Gr.mk N E (L.mergeSort leK)).Nice := ⟨hN.1, hE.1, fun r hr => hLr r (hperm.mem_iff.mp hr), by rw [hperm.length_eq]; show L.length ≤ 1000; omega⟩
  refine ⟨⟨N, E, L.mergeSort leK⟩, s', ?_, rfl, rfl, by show (L.mergeSort leK).length ≤ most; rw [hperm.length_eq]; omega, hnice.ok (sorted_asc hLn), ?_⟩
  · rw [dLawGrammar_at h]
    have hk1 : ∀ st', kR1 (.int d) st' = some ((rngI 0 d).map .int, st') := fun st' => kR1_int (by omega) (by omega)
    have hso : biP .sorted [.loc st.length] s' = some (.lst ((L.mergeSort leK).map rv)) := by
      have hdk : dctOf s' (.loc st.length) = some (true, encS rv L) := dctOf_loc hrs
      unfold biP
      simp only [hdk, encS_keys, sortable_rv, if_true, sort_rv]
    have htu : ∀ l : List PV, biP .tuple [.lst l] s' = some (.tup l) := fun l => rfl
    simp [dLawGrammar, denF, prs, dctL, mkD, dLawGrammar_l1, z_frr, ed, hk1, e, hso, htu, grv]
  · obtain ⟨c, f, k, h1, h2, h3, h4, h5⟩ := hbs
    exact ⟨c, f, k, h1, h2, h3, h4, by omega⟩
end K89
end

section
set_option Elab.async false
set_option linter.all false
set_option maxRecDepth 100000
set_option autoImplicit false
set_option maxHeartbeats 4000000
/-! _law_odd, _law_bent -/
namespace K89
open PySem (Str)
open Pv

def bentA : List CS := [.set (.tp [(.nm 2), (.nm 3), (.nm 4)]) (.var 1), .set (.nm 5) (.call 28 [(.var 0), (.bin .add (.bi .len [(.var 4)]) (.con (.int 1)))]), .set (.nm 6) (.ife (.cmp .lt (.var 5) (.bi .len [(.var 4)])) (.idx (.var 4) (.var 5)) (.tup [(.bin .sub (.var 2) (.con (.int 1))), (.tup [(.con (.int 0)), (.var 2)])])), .set (.tp [(.nm 7), (.nm 8)]) (.var 6), .set (.nm 9) (.lstd false [(.con (.non)), (.bi .list [(.var 6)]), (.bin .add (.var 6) (.tup [(.con (.int 0))])), (.slc (.var 6) none (some (.con (.int 1)))), (.tup [(.var 7), (.bi .list [(.var 8)])]), (.tup [(.var 7), (.bin .add (.var 8) (.tup [(.con (.int 0)), (.con (.int 0)), (.con (.int 0))]))]), (.tup [(.neg (.con (.int 1))), (.var 8)]), (.tup [(.var 2), (.var 8)]), (.tup [(.con (.bl true)), (.var 8)]), (.tup [(.var 7), (.tup [(.bin .add (.var 2) (.var 3))])])]), .set (.nm 9) (.bin .add (.var 9) (.lstd false [(.tup [(.var 7), (.tup [(.con (.int 0)), (.var 2), (.con (.int 0))])]), (.tup [(.var 7), (.tup [(.neg (.con (.int 1)))])]), (.tup [(.var 7), (.tup [(.con (.non))])]), (.tup [(.var 7), (.tup [(.con (.bl true))])]), (.tup [(.var 7), (.tup [(.con (.int 0)), (.bin .sub (.bin .add (.var 2) (.var 3)) (.con (.int 1)))])]), (.tup [(.var 7), (.con (.non))]), (.tup [(.var 7), (.con (.int 0))]), (.tup [(.var 7), (.tup [(.con (.int 0)), (.con (.bl false))])]), (.var 6)]))]
def bentB : List CS := [.set (.nm 10) (.bin .add (.bin .add (.slc (.var 4) none (some (.var 5))) (.tup [(.call 29 [(.var 0), (.var 9)])])) (.slc (.var 4) (some (.bin .add (.var 5) (.con (.int 1)))) none))]
def bentC : List CS := [.set (.nm 11) (.bin .add (.bin .mul (.lstd false [(.tup [(.var 2), (.var 3), (.var 10)])]) (.con (.int 12))) (.lstd false [(.call 37 [(.var 0)]), (.bi .list [(.var 1)]), (.slc (.var 1) none (some (.con (.int 2)))), (.bin .add (.var 1) (.tup [(.con (.int 0))])), (.tup [(.con (.int 0)), (.var 3), (.tup [])]), (.tup [(.con (.bl true)), (.var 3), (.tup [])]), (.tup [(.var 2), (.con (.int 0)), (.tup [])]), (.tup [(.var 2), (.neg (.con (.int 1))), (.tup [])])]))]
def bentD : List CS := [.set (.nm 11) (.bin .add (.var 11) (.lstd false [(.tup [(.var 2), (.var 3), (.bi .list [(.var 4)])]), (.tup [(.var 2), (.var 3), (.con (.non))]), (.tup [(.var 2), (.var 3), (.rev (.var 4))]), (.tup [(.var 2), (.var 3), (.bin .add (.var 4) (.slc (.var 4) (some (.neg (.con (.int 1)))) none))]), (.tup [(.bin .add (.var 2) (.con (.int 1))), (.var 3), (.var 4)]), (.tup [(.var 2), (.bin .add (.var 3) (.con (.int 1))), (.var 4)])])), .ret (.call 29 [(.var 0), (.bin .add (.var 11) (.lstd false [(.tup [(.con (.int 1)), (.var 3), (.var 4)]), (.tup [(.var 2), (.con (.int 1)), (.var 4)]), (.tup [(.con (.str "1")), (.var 3), (.var 4)]), (.tup [(.var 2), (.var 3), (.slc (.var 4) (some (.con (.int 1))) none)]), (.tup [(.var 2), (.con (.non)), (.var 4)]), (.tup [(.var 2), (.var 3), (.tup [(.var 4)])])]))])]
theorem bent_split : dLawBent.body = bentA ++ (bentB ++ (bentC ++ bentD)) := rfl

theorem b_list_tup {l : List PV} {st : Store} (h : l.length ≤ SZ) : biP .list [.tup l] st = some (.lst l) := by
  have e : biP .list [.tup l] st = if l.length ≤ SZ then some (.lst l) else none := rfl
  rw [e, if_pos h]
theorem mkLf {l : List PV} {st : Store} (h : l.length ≤ 1000) : mkL false l st = some (.lst l, st) := mkL_false (by unfold SZ; omega)
def oddL : List PV := [.non, .bl true, .bl false, .int 0, .int 1, .int (-1), .str "", .str "a", .tup [], .lst [], .tup [.int 1, .int 1], .tup [.int 1, .int 1, .tup []], .lst [.int 1, .int 1, .tup []], .tup [.int 1, .int 1, .tup [.tup [.int 0, .tup []]]], .int 1000000000000000000000000000000000000000, .tup [.tup []]]
theorem p39 {st : Store} : binP .pow (.int 10) (.int 39) st = some (.int 1000000000000000000000000000000000000000) := by
  have e : binP .pow (.int 10) (.int 39) st = (binI .pow 10 39).map .int := rfl
  rw [e]; rfl
theorem q37 {n : Nat} (h : 37 < n) {b m : Nat} {st : Store} (hb : BagOk st b m) (hm : m ≤ 10000) : ∃ v c, denT fnT n 37 [.loc b] st = some (v, st.set b c) ∧ plV v = true ∧ BagOk (st.set b c) b (m + 1) := by
  obtain ⟨v, hv, c, e, hb'⟩ := q29 (n := 37) (by decide) hb hm (l := oddL) (by simp [oddL]) (by simp [oddL])
  refine ⟨v, c, ?_, ?_, hb'⟩
  · rw [dLawOdd_at h]
    have m0 : mkL false [] st = some (.lst [], st) := mkLf (by simp)
    have m3 : mkL false [.int 1, .int 1, .tup []] st = some (.lst [.int 1, .int 1, .tup []], st) := mkLf (by simp)
    have m16 : mkL false oddL st = some (.lst oddL, st) := mkLf (by simp [oddL])
    unfold oddL at m16 e
    simp [dLawOdd, denF, m0, m3, p39, m16, e]
  · have hall : plL oddL = true := by simp [oddL, plL, plV]
    exact plL_mem hall v hv
def rows1 (a N E : Int) (w : List PV) : List PV := [.non, .lst [.int a, .tup w], .tup [.int a, .tup w, .int 0], .tup [.int a], .tup [.int a, .lst w], .tup [.int a, .tup (w ++ [.int 0, .int 0, .int 0])], .tup [.int (-1), .tup w], .tup [.int N, .tup w], .tup [.bl true, .tup w], .tup [.int a, .tup [.int (N + E)]]]
def rows2 (a N E : Int) (w : List PV) : List PV := [.tup [.int a, .tup [.int 0, .int N, .int 0]], .tup [.int a, .tup [.int (-1)]], .tup [.int a, .tup [.non]], .tup [.int a, .tup [.bl true]], .tup [.int a, .tup [.int 0, .int (N + E - 1)]], .tup [.int a, .non], .tup [.int a, .int 0], .tup [.int a, .tup [.int 0, .bl false]], .tup [.int a, .tup w]]
theorem rows_pl {a N E : Int} {w : List PV} (hw : w.length ≤ 2) (hp : plL w = true) : plL (rows1 a N E w ++ rows2 a N E w) = true := by
  have h3 : plL (w ++ [.int 0, .int 0, .int 0]) = true := plL_of fun x hx => by
    rcases List.mem_append.mp hx with hx | hx
    · exact plL_mem hp x hx
    · simp only [List.mem_cons, List.not_mem_nil, or_false] at hx
      rcases hx with rfl | rfl | rfl <;> rfl
  have hl : w.length ≤ 1000 := by omega
  have hl3 : w.length + 3 ≤ 1000 := by omega
  simp [rows1, rows2, plL, plV, hp, h3, hl, hl3]
theorem bentA_run {b k : Nat} {a N E : Int} {w R : List PV} {st st1 : Store} (hw : w.length ≤ 2) (hR : R.length ≤ 1000) (hd : denT fnT 38 28 [.loc b, .int (R.length + 1)] st = some (.int k, st1)) (hk : k ≤ R.length) (hrow : k < R.length → R[k]? = some (.tup [.int a, .tup w])) (hrow2 : ¬ k < R.length → a = N - 1 ∧ w = [.int 0, .int N]) :
    exs (denT fnT 38) bentA [some (.loc b), some (.tup [.int N, .int E, .tup R]), none, none, none, none, none, none, none, none, none, none] st
      = some (.nx, [some (.loc b), some (.tup [.int N, .int E, .tup R]), some (.int N), some (.int E), some (.tup R), some (.int k), some (.tup [.int a, .tup w]), some (.int a), some (.tup w), some (.lst (rows1 a N E w ++ rows2 a N E w)), none, none], st1) := by
  have h6 : ev (denT fnT 38) (.ife (.cmp .lt (.var 5) (.bi .len [(.var 4)])) (.idx (.var 4) (.var 5)) (.tup [(.bin .sub (.var 2) (.con (.int 1))), (.tup [(.con (.int 0)), (.var 2)])])) [some (.loc b), some (.tup [.int N, .int E, .tup R]), some (.int N), some (.int E), some (.tup R), some (.int k), none, none, none, none, none, none] st1 = some (.tup [.int a, .tup w], st1) := by
    by_cases h : k < R.length
    · have hix : idxP (.tup R) (.int k) st1 = some (.tup [.int a, .tup w]) := by
        have h1 : ixOf R.length (k : Int) = some k := by unfold ixOf; rw [if_pos (by omega), if_pos (by omega)]; simp
        have := hrow h
        simp [idxP, dctOf, seqOf, h1, this]
      have h' : (k : Int) < (R.length : Int) := by omega
      simp [h', hix]
    · have h' : ¬ (k : Int) < (R.length : Int) := by omega
      obtain ⟨rfl, rfl⟩ := hrow2 h
      simp [h']
  have a1 : binP .add (.tup [.int a, .tup w]) (.tup [.int 0]) st1 = some (.tup [.int a, .tup w, .int 0]) := bin_tup (by simp [SZ])
  have a2 : binP .add (.tup w) (.tup [.int 0, .int 0, .int 0]) st1 = some (.tup (w ++ [.int 0, .int 0, .int 0])) := bin_tup (by simp [SZ]; omega)
  have s1 : slcP (.tup [.int a, .tup w]) none (some 1) st1 = some (.tup [.int a]) := rfl
  have l1 : biP .list [.tup [.int a, .tup w]] st1 = some (.lst [.int a, .tup w]) := b_list_tup (by simp [SZ])
  have l2 : biP .list [.tup w] st1 = some (.lst w) := b_list_tup (by unfold SZ; omega)
  have m1 : mkL false (rows1 a N E w) st1 = some (.lst (rows1 a N E w), st1) := mkLf (by simp [rows1])
  have m2 : mkL false (rows2 a N E w) st1 = some (.lst (rows2 a N E w), st1) := mkLf (by simp [rows2])
  have ba : binP .add (.lst (rows1 a N E w)) (.lst (rows2 a N E w)) st1 = some (.lst (rows1 a N E w ++ rows2 a N E w)) := bin_lst (by simp [rows1, rows2, SZ])
  have r1 : rows1 a N E w = [.non, .lst [.int a, .tup w], .tup [.int a, .tup w, .int 0], .tup [.int a], .tup [.int a, .lst w], .tup [.int a, .tup (w ++ [.int 0, .int 0, .int 0])], .tup [.int (-1), .tup w], .tup [.int N, .tup w], .tup [.bl true, .tup w], .tup [.int a, .tup [.int (N + E)]]] := rfl
  have r2 : rows2 a N E w = [.tup [.int a, .tup [.int 0, .int N, .int 0]], .tup [.int a, .tup [.int (-1)]], .tup [.int a, .tup [.non]], .tup [.int a, .tup [.bl true]], .tup [.int a, .tup [.int 0, .int (N + E - 1)]], .tup [.int a, .non], .tup [.int a, .int 0], .tup [.int a, .tup [.int 0, .bl false]], .tup [.int a, .tup w]] := rfl
  have e9 : ev (denT fnT 38) (.lstd false [(.con (.non)), (.bi .list [(.var 6)]), (.bin .add (.var 6) (.tup [(.con (.int 0))])), (.slc (.var 6) none (some (.con (.int 1)))), (.tup [(.var 7), (.bi .list [(.var 8)])]), (.tup [(.var 7), (.bin .add (.var 8) (.tup [(.con (.int 0)), (.con (.int 0)), (.con (.int 0))]))]), (.tup [(.neg (.con (.int 1))), (.var 8)]), (.tup [(.var 2), (.var 8)]), (.tup [(.con (.bl true)), (.var 8)]), (.tup [(.var 7), (.tup [(.bin .add (.var 2) (.var 3))])])]) [some (.loc b), some (.tup [.int N, .int E, .tup R]), some (.int N), some (.int E), some (.tup R), some (.int k), some (.tup [.int a, .tup w]), some (.int a), some (.tup w), none, none, none] st1 = some (.lst (rows1 a N E w), st1) := by
    rw [r1] at m1 ⊢
    simp [l1, a1, s1, sliP, l2, a2, m1]
  have e9b : ev (denT fnT 38) (.lstd false [(.tup [(.var 7), (.tup [(.con (.int 0)), (.var 2), (.con (.int 0))])]), (.tup [(.var 7), (.tup [(.neg (.con (.int 1)))])]), (.tup [(.var 7), (.tup [(.con (.non))])]), (.tup [(.var 7), (.tup [(.con (.bl true))])]), (.tup [(.var 7), (.tup [(.con (.int 0)), (.bin .sub (.bin .add (.var 2) (.var 3)) (.con (.int 1)))])]), (.tup [(.var 7), (.con (.non))]), (.tup [(.var 7), (.con (.int 0))]), (.tup [(.var 7), (.tup [(.con (.int 0)), (.con (.bl false))])]), (.var 6)]) [some (.loc b), some (.tup [.int N, .int E, .tup R]), some (.int N), some (.int E), some (.tup R), some (.int k), some (.tup [.int a, .tup w]), some (.int a), some (.tup w), some (.lst (rows1 a N E w)), none, none] st1 = some (.lst (rows2 a N E w), st1) := by
    rw [r2] at m2 ⊢
    simp [m2]
  unfold bentA
  rw [z_s1, z_set, z_var]
  simp only [List.getElem?_cons_succ, List.getElem?_cons_zero, gv_some, Option.bind_some, kPr_mk, asgT_tup, asgTs_cons, asgTs_nil, asgT_nm, List.length_cons, List.length_nil, Nat.zero_add, Nat.reduceAdd, Nat.reduceLT, if_true, List.set_cons_succ, List.set_cons_zero, Option.map_some, kSq_nx]
  rw [z_s1, z_set, z_call]
  simp only [z_cons, z_nil, z_var, z_bin, z_bi, z_con, b_len_tup, bin_add, List.getElem?_cons_succ, List.getElem?_cons_zero, gv_some, Option.bind_some, kPr_mk, Option.map_some, hd, asgT_nm, List.length_cons, List.length_nil, Nat.zero_add, Nat.reduceAdd, Nat.reduceLT, if_true, List.set_cons_succ, List.set_cons_zero, kSq_nx]
  rw [z_s1, z_set, h6]
  simp only [Option.bind_some, kPr_mk, asgT_nm, List.length_cons, List.length_nil, Nat.zero_add, Nat.reduceAdd, Nat.reduceLT, if_true, List.set_cons_succ, List.set_cons_zero, Option.map_some, kSq_nx]
  rw [z_s1, z_set, z_var]
  simp only [List.getElem?_cons_succ, List.getElem?_cons_zero, gv_some, Option.bind_some, kPr_mk, asgT_tup, asgTs_cons, asgTs_nil, asgT_nm, List.length_cons, List.length_nil, Nat.zero_add, Nat.reduceAdd, Nat.reduceLT, if_true, List.set_cons_succ, List.set_cons_zero, Option.map_some, kSq_nx]
  rw [z_s1, z_set, e9]
  simp only [Option.bind_some, kPr_mk, asgT_nm, List.length_cons, List.length_nil, Nat.zero_add, Nat.reduceAdd, Nat.reduceLT, if_true, List.set_cons_succ, List.set_cons_zero, Option.map_some, kSq_nx]
  rw [z_s1, z_set, z_bin]
  simp only [z_var, List.getElem?_cons_succ, List.getElem?_cons_zero, gv_some, Option.bind_some, kPr_mk]
  rw [e9b]
  simp only [z_var, List.getElem?_cons_succ, List.getElem?_cons_zero, gv_some, Option.bind_some, kPr_mk, ba, asgT_nm, List.length_cons, List.length_nil, Nat.zero_add, Nat.reduceAdd, Nat.reduceLT, if_true, List.set_cons_succ, List.set_cons_zero, Option.map_some, kSq_nx, z_s0]

theorem cut_sub {l : List PV} {lo hi : Option Int} : ∀ x ∈ cut l lo hi, x ∈ l := fun x hx => by
  unfold cut at hx
  exact List.mem_of_mem_drop (List.mem_of_mem_take hx)
theorem cut_le {l : List PV} {lo hi : Option Int} : (cut l lo hi).length ≤ l.length := by
  unfold cut
  rw [List.length_take, List.length_drop]; omega
theorem slc_tup {l : List PV} {lo hi : Option Int} {st : Store} : slcP (.tup l) lo hi st = some (.tup (cut l lo hi)) := rfl
theorem pl_app {a b : List PV} (h1 : plL a = true) (h2 : plL b = true) : plL (a ++ b) = true := plL_of fun x hx => by
  rcases List.mem_append.mp hx with hx | hx
  · exact plL_mem h1 x hx
  · exact plL_mem h2 x hx
theorem pl_sub {a b : List PV} (h : plL a = true) (hs : ∀ x ∈ b, x ∈ a) : plL b = true := plL_of fun x hx => plL_mem h x (hs x hx)
def putL (R : List PV) (k : Nat) (x : PV) : List PV := cut R none (some (k : Int)) ++ [x] ++ cut R (some ((k : Int) + 1)) none
theorem bentB_run {b k : Nat} {N E : Int} {R rows : List PV} {st st1 : Store} {x : PV} (hR : R.length ≤ 100) (hd : denT fnT 38 29 [.loc b, .lst rows] st = some (x, st1)) (q6 q7 q8 : Option PV) :
    exs (denT fnT 38) bentB [some (.loc b), some (.tup [.int N, .int E, .tup R]), some (.int N), some (.int E), some (.tup R), some (.int k), q6, q7, q8, some (.lst rows), none, none] st
      = some (.nx, [some (.loc b), some (.tup [.int N, .int E, .tup R]), some (.int N), some (.int E), some (.tup R), some (.int k), q6, q7, q8, some (.lst rows), some (.tup (putL R k x)), none], st1) := by
  have c1 := cut_le (l := R) (lo := none) (hi := some (k : Int))
  have c2 := cut_le (l := R) (lo := some ((k : Int) + 1)) (hi := none)
  have h1 : binP .add (.tup (cut R none (some (k : Int)))) (.tup [x]) st1 = some (.tup (cut R none (some (k : Int)) ++ [x])) := bin_tup (by simp; unfold SZ; omega)
  have h2 : binP .add (.tup (cut R none (some (k : Int)) ++ [x])) (.tup (cut R (some ((k : Int) + 1)) none)) st1 = some (.tup (putL R k x)) := bin_tup (by simp; unfold SZ; omega)
  simp [bentB, slc_tup, sliP, hd, h1, h2, -List.append_assoc]
def some1 (N E : Int) (put : List PV) : List PV := (List.replicate 12 [.tup [.int N, .int E, .tup put]]).flatten
def some2 (N E : Int) (R : List PV) (o : PV) : List PV := [o, .lst [.int N, .int E, .tup R], .tup [.int N, .int E], .tup [.int N, .int E, .tup R, .int 0], .tup [.int 0, .int E, .tup []], .tup [.bl true, .int E, .tup []], .tup [.int N, .int 0, .tup []], .tup [.int N, .int (-1), .tup []]]
def some3 (N E : Int) (R : List PV) : List PV := [.tup [.int N, .int E, .lst R], .tup [.int N, .int E, .non], .tup [.int N, .int E, .tup R.reverse], .tup [.int N, .int E, .tup (R ++ cut R (some (-1)) none)], .tup [.int (N + 1), .int E, .tup R], .tup [.int N, .int (E + 1), .tup R]]
def some4 (N E : Int) (R : List PV) : List PV := [.tup [.int 1, .int E, .tup R], .tup [.int N, .int 1, .tup R], .tup [.str "1", .int E, .tup R], .tup [.int N, .int E, .tup (cut R (some 1) none)], .tup [.int N, .non, .tup R], .tup [.int N, .int E, .tup [.tup R]]]
theorem bentC_run {b k : Nat} {N E : Int} {R put : List PV} {st st1 : Store} {o : PV} (hR : R.length ≤ 100) (hd : denT fnT 38 37 [.loc b] st = some (o, st1)) (q6 q7 q8 q9 : Option PV) :
    exs (denT fnT 38) bentC [some (.loc b), some (.tup [.int N, .int E, .tup R]), some (.int N), some (.int E), some (.tup R), some (.int k), q6, q7, q8, q9, some (.tup put), none] st
      = some (.nx, [some (.loc b), some (.tup [.int N, .int E, .tup R]), some (.int N), some (.int E), some (.tup R), some (.int k), q6, q7, q8, q9, some (.tup put), some (.lst (some1 N E put ++ some2 N E R o))], st1) := by
  have m1 : mkL false [.tup [.int N, .int E, .tup put]] st = some (.lst [.tup [.int N, .int E, .tup put]], st) := mkLf (by simp)
  have h12 : binP .mul (.lst [.tup [.int N, .int E, .tup put]]) (.int 12) st = some (.lst (some1 N E put)) := by
    have e : binP .mul (.lst [.tup [.int N, .int E, .tup put]]) (.int 12) st = if -(2 ^ 63) ≤ (12 : Int) ∧ (12 : Int) < 2 ^ 63 ∧ [PV.tup [.int N, .int E, .tup put]].length * (12 : Int).toNat ≤ SZ then some (.lst (List.replicate (12 : Int).toNat [.tup [.int N, .int E, .tup put]]).flatten) else none := rfl
    rw [e, if_pos (by simp [SZ])]
    rfl
  have l1 : biP .list [.tup [.int N, .int E, .tup R]] st1 = some (.lst [.int N, .int E, .tup R]) := b_list_tup (by simp [SZ])
  have s1 : slcP (.tup [.int N, .int E, .tup R]) none (some 2) st1 = some (.tup [.int N, .int E]) := rfl
  have a1 : binP .add (.tup [.int N, .int E, .tup R]) (.tup [.int 0]) st1 = some (.tup [.int N, .int E, .tup R, .int 0]) := bin_tup (by simp [SZ])
  have m2 : mkL false (some2 N E R o) st1 = some (.lst (some2 N E R o), st1) := mkLf (by simp [some2])
  have ba : binP .add (.lst (some1 N E put)) (.lst (some2 N E R o)) st1 = some (.lst (some1 N E put ++ some2 N E R o)) := bin_lst (by simp [some1, some2, SZ])
  have r2 : some2 N E R o = [o, .lst [.int N, .int E, .tup R], .tup [.int N, .int E], .tup [.int N, .int E, .tup R, .int 0], .tup [.int 0, .int E, .tup []], .tup [.bl true, .int E, .tup []], .tup [.int N, .int 0, .tup []], .tup [.int N, .int (-1), .tup []]] := rfl
  have e9b : ev (denT fnT 38) (.lstd false [(.call 37 [(.var 0)]), (.bi .list [(.var 1)]), (.slc (.var 1) none (some (.con (.int 2)))), (.bin .add (.var 1) (.tup [(.con (.int 0))])), (.tup [(.con (.int 0)), (.var 3), (.tup [])]), (.tup [(.con (.bl true)), (.var 3), (.tup [])]), (.tup [(.var 2), (.con (.int 0)), (.tup [])]), (.tup [(.var 2), (.neg (.con (.int 1))), (.tup [])])]) [some (.loc b), some (.tup [.int N, .int E, .tup R]), some (.int N), some (.int E), some (.tup R), some (.int k), q6, q7, q8, q9, some (.tup put), none] st = some (.lst (some2 N E R o), st1) := by
    rw [r2] at m2 ⊢
    simp [hd, l1, s1, sliP, a1, m2]
  have e1 : ev (denT fnT 38) (.bin .mul (.lstd false [(.tup [(.var 2), (.var 3), (.var 10)])]) (.con (.int 12))) [some (.loc b), some (.tup [.int N, .int E, .tup R]), some (.int N), some (.int E), some (.tup R), some (.int k), q6, q7, q8, q9, some (.tup put), none] st = some (.lst (some1 N E put), st) := by
    simp [m1, h12]
  unfold bentC
  rw [z_s1, z_set, z_bin, e1]
  simp only [Option.bind_some, kPr_mk]
  rw [e9b]
  simp only [Option.bind_some, kPr_mk, ba, asgT_nm, List.length_cons, List.length_nil, Nat.zero_add, Nat.reduceAdd, Nat.reduceLT, if_true, List.set_cons_succ, List.set_cons_zero, Option.map_some, kSq_nx, z_s0]
theorem bentD_run {b k : Nat} {N E : Int} {R sm : List PV} {st st1 : Store} {v : PV} (hR : R.length ≤ 100) (hs : sm.length ≤ 100) (hd : denT fnT 38 29 [.loc b, .lst (sm ++ some3 N E R ++ some4 N E R)] st = some (v, st1)) (q6 q7 q8 q9 q10 : Option PV) :
    ∃ fr, exs (denT fnT 38) bentD [some (.loc b), some (.tup [.int N, .int E, .tup R]), some (.int N), some (.int E), some (.tup R), some (.int k), q6, q7, q8, q9, q10, some (.lst sm)] st = some (.ret v, fr, st1) := by
  have l1 : biP .list [.tup R] st = some (.lst R) := b_list_tup (by unfold SZ; omega)
  have c1 := cut_le (l := R) (lo := some (-1)) (hi := none)
  have a1 : binP .add (.tup R) (.tup (cut R (some (-1)) none)) st = some (.tup (R ++ cut R (some (-1)) none)) := bin_tup (by unfold SZ; omega)
  have m3 : mkL false (some3 N E R) st = some (.lst (some3 N E R), st) := mkLf (by simp [some3])
  have m4 : mkL false (some4 N E R) st = some (.lst (some4 N E R), st) := mkLf (by simp [some4])
  have ba : binP .add (.lst sm) (.lst (some3 N E R)) st = some (.lst (sm ++ some3 N E R)) := bin_lst (by simp [some3, SZ]; omega)
  have bb : binP .add (.lst (sm ++ some3 N E R)) (.lst (some4 N E R)) st = some (.lst (sm ++ some3 N E R ++ some4 N E R)) := bin_lst (by simp [some3, some4, SZ]; omega)
  have r3 : some3 N E R = [.tup [.int N, .int E, .lst R], .tup [.int N, .int E, .non], .tup [.int N, .int E, .tup R.reverse], .tup [.int N, .int E, .tup (R ++ cut R (some (-1)) none)], .tup [.int (N + 1), .int E, .tup R], .tup [.int N, .int (E + 1), .tup R]] := rfl
  have r4 : some4 N E R = [.tup [.int 1, .int E, .tup R], .tup [.int N, .int 1, .tup R], .tup [.str "1", .int E, .tup R], .tup [.int N, .int E, .tup (cut R (some 1) none)], .tup [.int N, .non, .tup R], .tup [.int N, .int E, .tup [.tup R]]] := rfl
  have e3 : ∀ fr : Fr, fr[2]? = some (some (.int N)) → fr[3]? = some (some (.int E)) → fr[4]? = some (some (.tup R)) → ev (denT fnT 38) (.lstd false [(.tup [(.var 2), (.var 3), (.bi .list [(.var 4)])]), (.tup [(.var 2), (.var 3), (.con (.non))]), (.tup [(.var 2), (.var 3), (.rev (.var 4))]), (.tup [(.var 2), (.var 3), (.bin .add (.var 4) (.slc (.var 4) (some (.neg (.con (.int 1)))) none))]), (.tup [(.bin .add (.var 2) (.con (.int 1))), (.var 3), (.var 4)]), (.tup [(.var 2), (.bin .add (.var 3) (.con (.int 1))), (.var 4)])]) fr st = some (.lst (some3 N E R), st) := fun fr h2 h3 h4 => by
    rw [r3] at m3 ⊢
    simp [h2, h3, h4, l1, slc_tup, sliP, a1, m3]
  have e4 : ∀ fr : Fr, fr[2]? = some (some (.int N)) → fr[3]? = some (some (.int E)) → fr[4]? = some (some (.tup R)) → ev (denT fnT 38) (.lstd false [(.tup [(.con (.int 1)), (.var 3), (.var 4)]), (.tup [(.var 2), (.con (.int 1)), (.var 4)]), (.tup [(.con (.str "1")), (.var 3), (.var 4)]), (.tup [(.var 2), (.var 3), (.slc (.var 4) (some (.con (.int 1))) none)]), (.tup [(.var 2), (.con (.non)), (.var 4)]), (.tup [(.var 2), (.var 3), (.tup [(.var 4)])])]) fr st = some (.lst (some4 N E R), st) := fun fr h2 h3 h4 => by
    rw [r4] at m4 ⊢
    simp [h2, h3, h4, slc_tup, sliP, m4]
  refine ⟨[some (.loc b), some (.tup [.int N, .int E, .tup R]), some (.int N), some (.int E), some (.tup R), some (.int k), q6, q7, q8, q9, q10, some (.lst (sm ++ some3 N E R))], ?_⟩
  unfold bentD
  rw [z_s1, z_set, z_bin, z_var]
  simp only [List.getElem?_cons_succ, List.getElem?_cons_zero, gv_some, Option.bind_some, kPr_mk]
  rw [e3 _ rfl rfl rfl]
  simp only [Option.bind_some, kPr_mk, ba, asgT_nm, List.length_cons, List.length_nil, Nat.zero_add, Nat.reduceAdd, Nat.reduceLT, if_true, List.set_cons_succ, List.set_cons_zero, Option.map_some, kSq_nx]
  rw [z_s1, z_ret, z_call, z_cons, z_var]
  simp only [List.getElem?_cons_succ, List.getElem?_cons_zero, gv_some, Option.bind_some, kPr_mk]
  rw [z_cons, z_bin, z_var]
  simp only [List.getElem?_cons_succ, List.getElem?_cons_zero, gv_some, Option.bind_some, kPr_mk]
  rw [e4 _ rfl rfl rfl]
  simp only [Option.bind_some, kPr_mk, bb, Option.map_some, z_nil, hd, kSq_ret]
theorem q38 {n : Nat} (h : 38 < n) {b m : Nat} {g : Gr} {st : Store} (hb : BagOk st b m) (hm : m ≤ 5000) (hk : g.Ok) (hf : g.rs.length ≤ 50) (hN : g.n ≤ 1000) :
    ∃ v st', denT fnT n 38 [.loc b, grv g] st = some (v, st') ∧ plV v = true ∧ BagOk st' b (m + 4) := by
  have hnice := hk.nice
  have hRl : (g.rs.map rv).length = g.rs.length := List.length_map ..
  have hpR : plL (g.rs.map rv) = true := by
    have := (plV_tup hk.pl).2 (.tup (g.rs.map rv)) (by simp)
    exact plL_of (plV_tup this).2
  obtain ⟨d1, c1, e1, a0, a1, hb1⟩ := q28 (n := 38) (by decide) hb (by omega) (many := (g.rs.map rv).length + 1) (by omega) (by rw [hRl]; omega)
  -- the row
  obtain ⟨r, hr1, hr2, hr3⟩ : ∃ r : Ru, (d1.toNat < (g.rs.map rv).length → (g.rs.map rv)[d1.toNat]? = some (.tup [.int r.1, .tup (r.2.map .int)])) ∧ (¬ d1.toNat < (g.rs.map rv).length → r.1 = g.n - 1 ∧ r.2.map PV.int = [.int 0, .int g.n]) ∧ r.2.length ≤ 2 := by
    by_cases hlt : d1.toNat < g.rs.length
    · refine ⟨g.rs[d1.toNat], fun _ => by rw [List.getElem?_map, List.getElem?_eq_getElem hlt]; rfl, fun h => absurd (by rw [hRl]; exact hlt) h, (hnice.rng _ (List.getElem_mem hlt)).2.2.2⟩
    · exact ⟨(g.n - 1, [0, g.n]), fun h => absurd (by rw [hRl] at h; exact h) hlt, fun _ => ⟨rfl, rfl⟩, by simp⟩
  have hwl : (r.2.map PV.int).length ≤ 2 := by rw [List.length_map]; exact hr3
  have hpw : plL (r.2.map PV.int) = true := plL_of fun x hx => by obtain ⟨y, _, rfl⟩ := List.mem_map.mp hx; rfl
  have hA := bentA_run (b := b) (k := d1.toNat) (a := r.1) (N := g.n) (E := g.e) (w := r.2.map .int) (R := g.rs.map rv) (st := st) (st1 := st.set b c1) hwl (by omega) (by rw [show ((d1.toNat : Nat) : Int) = d1 by omega]; exact e1) (by omega) hr1 hr2
  -- a row of the menu
  have hrows := rows_pl (a := r.1) (N := g.n) (E := g.e) hwl hpw
  obtain ⟨x, hx, c2, e2, hb2⟩ := q29 (n := 38) (by decide) hb1 (by omega) (l := rows1 r.1 g.n g.e (r.2.map .int) ++ rows2 r.1 g.n g.e (r.2.map .int)) (by simp [rows1]) (by simp [rows1, rows2])
  have hpx := plL_mem hrows x hx
  have hB := bentB_run (b := b) (k := d1.toNat) (N := g.n) (E := g.e) (R := g.rs.map rv) (by omega) e2 (some (.tup [.int r.1, .tup (r.2.map .int)])) (some (.int r.1)) (some (.tup (r.2.map .int)))
  have hput : plL (putL (g.rs.map rv) d1.toNat x) = true := pl_app (pl_app (pl_sub hpR cut_sub) (by simp [plL, hpx])) (pl_sub hpR cut_sub)
  have hputl : (putL (g.rs.map rv) d1.toNat x).length ≤ 1000 := by
    have c1 := cut_le (l := g.rs.map rv) (lo := none) (hi := some (d1.toNat : Int))
    have c2 := cut_le (l := g.rs.map rv) (lo := some ((d1.toNat : Int) + 1)) (hi := none)
    unfold putL
    simp only [List.length_append, List.length_cons, List.length_nil]
    omega
  obtain ⟨o, c3, e3, hpo, hb3⟩ := q37 (n := 38) (by decide) hb2 (by omega)
  have hC := bentC_run (b := b) (k := d1.toNat) (N := g.n) (E := g.e) (R := g.rs.map rv) (put := putL (g.rs.map rv) d1.toNat x) (by omega) e3 (some (.tup [.int r.1, .tup (r.2.map .int)])) (some (.int r.1)) (some (.tup (r.2.map .int))) (some (.lst (rows1 r.1 g.n g.e (r.2.map .int) ++ rows2 r.1 g.n g.e (r.2.map .int))))
  have hsl : (some1 g.n g.e (putL (g.rs.map rv) d1.toNat x) ++ some2 g.n g.e (g.rs.map rv) o).length ≤ 100 := by simp [some1, some2]
  obtain ⟨v, hv, c4, e4, hb4⟩ := q29 (n := 38) (by decide) hb3 (by omega) (l := some1 g.n g.e (putL (g.rs.map rv) d1.toNat x) ++ some2 g.n g.e (g.rs.map rv) o ++ some3 g.n g.e (g.rs.map rv) ++ some4 g.n g.e (g.rs.map rv)) (by simp [some2]) (by simp [some1, some2, some3, some4])
  obtain ⟨fr, hD⟩ := bentD_run (b := b) (k := d1.toNat) (N := g.n) (E := g.e) (R := g.rs.map rv) (by omega) hsl e4 (some (.tup [.int r.1, .tup (r.2.map .int)])) (some (.int r.1)) (some (.tup (r.2.map .int))) (some (.lst (rows1 r.1 g.n g.e (r.2.map .int) ++ rows2 r.1 g.n g.e (r.2.map .int)))) (some (.tup (putL (g.rs.map rv) d1.toNat x)))
  refine ⟨v, _, ?_, ?_, hb4⟩
  · rw [dLawBent_at h, denF_out rfl rfl, bent_split]
    show runB _ _ [some (.loc b), some (.tup [.int g.n, .int g.e, .tup (g.rs.map rv)]), none, none, none, none, none, none, none, none, none, none] st = _
    rw [z_runB, exs_app, hA]
    simp only [Option.bind_some, kSq_nx]
    rw [exs_app, hB]
    simp only [Option.bind_some, kSq_nx]
    rw [exs_app, hC]
    simp only [Option.bind_some, kSq_nx]
    rw [hD]
    simp only [Option.bind_some, kB_ret]
  · have hR0 : (g.rs.map rv).length ≤ 1000 := by omega
    have c1 := cut_le (l := g.rs.map rv) (lo := some (-1)) (hi := none)
    have c2 := cut_le (l := g.rs.map rv) (lo := some 1) (hi := none)
    have p1 : plV (.tup (g.rs.map rv)) = true := by simp only [plV, Bool.and_eq_true, decide_eq_true_eq]; exact ⟨hR0, hpR⟩
    have p2 : plV (.lst (g.rs.map rv)) = true := by simp only [plV, Bool.and_eq_true, decide_eq_true_eq]; exact ⟨hR0, hpR⟩
    have p3 : plV (.tup (g.rs.map rv).reverse) = true := by
      simp only [plV, Bool.and_eq_true, decide_eq_true_eq]
      exact ⟨by rw [List.length_reverse]; exact hR0, pl_sub hpR fun x hx => List.mem_reverse.mp hx⟩
    have p4 : plV (.tup (g.rs.map rv ++ cut (g.rs.map rv) (some (-1)) none)) = true := by
      simp only [plV, Bool.and_eq_true, decide_eq_true_eq]
      exact ⟨by rw [List.length_append]; omega, pl_app hpR (pl_sub hpR cut_sub)⟩
    have p5 : plV (.tup (cut (g.rs.map rv) (some 1) none)) = true := by
      simp only [plV, Bool.and_eq_true, decide_eq_true_eq]
      exact ⟨by omega, pl_sub hpR cut_sub⟩
    have p6 : plV (.tup (putL (g.rs.map rv) d1.toNat x)) = true := by
      simp only [plV, Bool.and_eq_true, decide_eq_true_eq]
      exact ⟨hputl, hput⟩
    have t3 : ∀ a b c : PV, plV a = true → plV b = true → plV c = true → plV (.tup [a, b, c]) = true := fun a b c h1 h2 h3 => by simp [plV, plL, h1, h2, h3]
    have pi : ∀ i : Int, plV (.int i) = true := fun i => rfl
    have h1 : plL (some1 g.n g.e (putL (g.rs.map rv) d1.toNat x)) = true := plL_of fun y hy => by
      unfold some1 at hy
      rw [List.mem_flatten] at hy
      obtain ⟨l, hl, hy⟩ := hy
      rw [List.mem_replicate] at hl
      obtain ⟨_, rfl⟩ := hl
      rw [List.mem_singleton] at hy
      subst hy
      exact t3 _ _ _ (pi _) (pi _) p6
    have h2 : plL (some2 g.n g.e (g.rs.map rv) o) = true := by
      have q : plV (.lst [.int g.n, .int g.e, .tup (g.rs.map rv)]) = true := by
        have := t3 _ _ _ (pi g.n) (pi g.e) p1
        simpa only [plV] using this
      have q4 : plV (.tup [.int g.n, .int g.e, .tup (g.rs.map rv), .int 0]) = true := by
        rw [plV]
        simp only [plL, p1, pi, List.length_cons, List.length_nil, Bool.and_true, Bool.true_and]
        rfl
      have q0 : plV (.tup []) = true := rfl
      have qb : plV (.bl true) = true := rfl
      have q2 : plV (.tup [.int g.n, .int g.e]) = true := by simp [plV, plL]
      unfold some2
      simp only [plL, hpo, q, q2, q4, t3 _ _ _ (pi _) (pi _) q0, t3 _ _ _ qb (pi _) q0, Bool.and_self]
    have h3 : plL (some3 g.n g.e (g.rs.map rv)) = true := by
      have q0 : plV .non = true := rfl
      unfold some3
      simp only [plL, t3 _ _ _ (pi _) (pi _) p2, t3 _ _ _ (pi _) (pi _) q0, t3 _ _ _ (pi _) (pi _) p3, t3 _ _ _ (pi _) (pi _) p4, t3 _ _ _ (pi _) (pi _) p1, Bool.and_self]
    have h4 : plL (some4 g.n g.e (g.rs.map rv)) = true := by
      have q0 : plV .non = true := rfl
      have qs : plV (.str "1") = true := rfl
      have qt : plV (.tup [.tup (g.rs.map rv)]) = true := by
        rw [plV]
        simp only [plL, p1, List.length_cons, List.length_nil, Bool.and_true]
        rfl
      unfold some4
      simp only [plL, t3 _ _ _ (pi _) (pi _) p1, t3 _ _ _ qs (pi _) p1, t3 _ _ _ (pi _) (pi _) p5, t3 _ _ _ (pi _) q0 p1, t3 _ _ _ (pi _) (pi _) qt, Bool.and_self]
    exact plL_mem (pl_app (pl_app (pl_app h1 h2) h3) h4) v hv
end K89
end

section
set_option Elab.async false
set_option linter.all false
set_option maxRecDepth 100000
set_option autoImplicit false
set_option maxHeartbeats 4000000
/-! _law_shortest_right, law -/
namespace K89
open PySem (Str)
open Pv

def kV (w : Wd) : PV := .tup [.int w.length, wv w]
theorem ltP_kV (a b : Wd) : ltP (kV a) (kV b) = ltS a b := by
  have h := len_lt_cmp (a := a) (b := b) (st := [])
  have h2 : cmpP .lt (kV a) (kV b) [] = if both (kV a) (kV b) && alk (kV a) (kV b) && !decide ((kV a : PV) = .non) then some (ltP (kV a) (kV b)) else none := rfl
  have e : cmpP .lt (kV a) (kV b) [] = some (ltS a b) := h
  rw [h2] at e
  split at e
  · injection e
  · cases e
theorem isD_kV {w : Wd} : isD 3 (kV w) = true := by simp [kV, isD, isDL, isD_wv]
theorem alk_kV {a b : Wd} : alk (kV a) (kV b) = true := by simp [kV, alk, alkL, wv, alkL_int]
theorem isDL_kV (l : List Wd) (m : Nat) (h : 3 ≤ m) : isDL m (l.map kV) = true := by
  induction l with
  | nil => simp [isDL]
  | cons a l ih => simp [isDL, isD_mono isD_kV h, ih]
theorem sortable_kV (l : List Wd) : sortable (l.map kV) = true := by
  have h2 : (l.map kV).all (fun x => (l.map kV).all fun y => alk x y) = true := by simp [List.all_map, alk_kV]
  have h3 : (l.map kV).all (fun x => match x with | .tup (_ :: _) => true | _ => false) = true := by simp [List.all_map, kV]
  unfold sortable
  rw [isDL_kV l 30 (by decide), h2]
  simp only [Bool.and_self, Bool.true_and, Bool.or_eq_true]
  exact .inl h3
def leV (g : Gr) (a b : Wd) : Bool := decide (val g a ≤ val g b)
theorem sort_kV {g : Gr} {l : List Wd} (h : ∀ w ∈ l, InE g w) : sortP (l.map kV) = (l.mergeSort (leV g)).map kV := by
  unfold sortP
  rw [List.map_mergeSort]
  intro a ha b hb
  rw [ltP_kV, ltS_iff (h b hb) (h a ha)]
  unfold leV
  rw [← decide_not]
  exact decide_eq_decide.mpr Nat.not_lt.symm
theorem ne_kV {l : List Wd} {st : Store} : cmpP .ne (.lst (l.map kV)) (.lst []) st = some (!decide (l = [])) := by
  have h1 : isD 30 (.lst (l.map kV)) = true := by rw [isD]; exact isDL_kV l 29 (by decide)
  cases l with
  | nil => simp [cmpP, dv, both, isD, isDL, eqv, eqvL]
  | cons a l =>
    simp only [cmpP, dv, both, h1, show isD 30 (.lst []) = true from rfl, Bool.and_self, if_true]
    simp [eqv, eqvL]
theorem q42 {n : Nat} (h : 42 < n) {g : Gr} {s : Int} {l : List Wd} {FL : LT} {st : Store} (hk : g.Ok) (he : g.n + g.e ≤ 5) (h0 : 0 ≤ s) (h1 : s < g.n) (hln : l.Nodup) (hl : ∀ w, w ∈ l ↔ Der g s w ∧ w.length ≤ 4) (hL : LW g FL) :
    denT fnT n 42 [grv g, .int s, setW l, .dct false (encD .int nV FL)] st = some (.bl true, st) := by
  have hg := hk.nice
  have hn1 := hg.n1
  have he1 := hg.e1
  obtain ⟨F, hF, e25⟩ := q25 (n := 42) (by decide) hk (by omega) h0 h1 (st := st)
  have hlE : ∀ w ∈ l, InE g w := fun w hw => ((hl w).mp hw).1.ends
  have hll : l.length ≤ 1280 := by
    have h2 := nodup_len l (allF g 4) hln fun w hw => mem_allF.mpr ⟨hlE w hw, ((hl w).mp hw).2⟩
    have h3 := allF_few hn1 he (m := 4) (by decide)
    omega
  have hwlen : ∀ m, lookT F s = some m → m.length ≤ 32 := fun m hm => by
    have h2 := hF.len s m hm
    have h3 := hF.toFI.few hg
    have h4 : 2 ^ F.length ≤ 2 ^ 5 := Nat.pow_le_pow_right (by decide) (by omega)
    omega
  have hc1 : ∀ fr : Fr, fr[2]? = some (some (setW l)) → 6 < fr.length → ev (denT fnT 42) dLawShortestRight_c1 fr st = some (.lst (l.map kV), st) := fun fr h2 h6 => by
    refine ev_lcmT (xs := l) wv kV (by simp [h2, setW, encS_keys]) (fun w hw => ⟨_, by simp [wipeF, h6]; rfl, ?_⟩) (by unfold SZ; omega)
    simp [List.getElem?_set, h6, kV]
  have hso : biP .sorted [.lst (l.map kV)] st = some (.lst ((l.mergeSort (leV g)).map kV)) := by
    have e : biP .sorted [.lst (l.map kV)] st = if sortable (l.map kV) ∧ (l.map kV).length ≤ SZ then some (.lst (sortP (l.map kV))) else none := rfl
    rw [e, if_pos ⟨sortable_kV l, by rw [List.length_map]; unfold SZ; omega⟩, sort_kV hlE]
  have hmk : mkL false [] st = some (.lst [], st) := mkL_false (by decide)
  have hperm := List.mergeSort_perm l (leV g)
  have hpw : (l.mergeSort (leV g)).Pairwise (fun a b => leV g a b = true) := by
    refine List.pairwise_mergeSort (fun a b c h1 h2 => ?_) (fun a b => ?_) l
    · unfold leV at *
      rw [decide_eq_true_eq] at *
      omega
    · unfold leV
      rw [Bool.or_eq_true, decide_eq_true_eq, decide_eq_true_eq]
      omega
  have hc1' := hc1 [some (grv g), some (.int s), some (setW l), some (.dct false (encD .int nV FL)), none, none, none, none] rfl (by simp)
  have hne := ne_kV (l := l.mergeSort (leV g)) (st := st)
  rw [dLawShortestRight_at h]
  cases hS : l.mergeSort (leV g) with
  | cons w0 S =>
    rw [hS] at hso hne hpw hperm
    have hw0 : w0 ∈ l := hperm.mem_iff.mp (List.mem_cons_self ..)
    have hd0 := (hl w0).mp hw0
    obtain ⟨m, hm, hv⟩ := hF.low s w0 hd0.1
    have hmd := hF.snd s m hm
    have hml := len_of_val hd0.1.ends hv
    have hmin : m ∈ l := (hl m).mpr ⟨hmd, by omega⟩
    have hmS : m ∈ w0 :: S := hperm.mem_iff.mpr hmin
    have hv2 : val g w0 ≤ val g m := by
      rcases List.mem_cons.mp hmS with rfl | h
      · exact Nat.le_refl _
      · have := (List.pairwise_cons.mp hpw).1 m h
        unfold leV at this
        rwa [decide_eq_true_eq] at this
    have hmw : m = w0 := val_inj hmd.ends hd0.1.ends (by omega)
    subst hmw
    rw [hm] at e25
    have hq := q32w (n := 42) (by decide) (a := m) (b := m) (st := st) (by have := hwlen m hm; omega)
    have hx0 : idxP (.lst (kV m :: S.map kV)) (.int 0) st = some (kV m) := by
      have h1 : ixOf (S.length + 1) (0 : Int) = some 0 := by unfold ixOf; rw [if_pos (by omega), if_pos (by omega)]; rfl
      simp [idxP, dctOf, seqOf, lstOf, h1]
    have hx1 : idxP (kV m) (.int 1) st = some (wv m) := rfl
    rw [List.map_cons] at hso hne
    simp only [Option.map_some, Option.getD_some] at e25
    simp [dLawShortestRight, denF, e25, hc1', hso, hmk, hne, hx0, hx1, hq]
  | nil =>
    rw [hS] at hso hne hperm
    rw [List.map_nil] at hso hne
    have hl0 : l = [] := List.Perm.eq_nil hperm.symm
    have hnin : cmpP .nin (.int s) (.dct false (encD .int nV FL)) st = some (lookT FL s).isNone := nin_enc (ke := .int) (ve := nV) int_inj dctOf_val rfl
    cases hfl : lookT FL s with
    | none =>
      have hno : lookT F s = none := by
        cases hf : lookT F s with
        | none => rfl
        | some m =>
          obtain ⟨k, hk, _⟩ := hL.low s m (hF.snd s m hf)
          rw [hfl] at hk; cases hk
      rw [hno] at e25
      rw [hfl] at hnin
      simp only [Option.map_none, Option.getD_none] at e25
      simp [dLawShortestRight, denF, e25, hc1', hso, hmk, hne, hnin]
    | some k =>
      obtain ⟨w, hw, hwk⟩ := hL.snd s k hfl
      obtain ⟨m, hm, hv⟩ := hF.low s w hw
      have hmd := hF.snd s m hm
      have hm1 := len_of_val hw.ends hv
      obtain ⟨k', hk', hkm⟩ := hL.low s m hmd
      rw [hfl] at hk'
      cases hk'
      have hmk2 : m.length = k := by omega
      rw [hm] at e25
      rw [hfl] at hnin
      have hidx : idxP (.dct false (encD .int nV FL)) (.int s) st = some (.int k) := idx_enc (ke := .int) (ve := nV) int_inj dctOf_val rfl hfl
      have hc2 : ∀ fr : Fr, fr[0]? = some (some (grv g)) → fr[4]? = some (some (wv m)) → 7 < fr.length → ev (denT fnT 42) dLawShortestRight_c2 fr st = some (.lst (m.map fun _ => .bl true), st) := fun fr f0 f4 f7 => by
        refine ev_lcmT (xs := m) .int (fun _ => .bl true) (by simp [f4]) (fun x hx => ⟨_, by simp [wipeF, f7]; rfl, ?_⟩) (by have := hwlen m hm; unfold SZ; omega)
        have hxe := hmd.ends x hx
        have hq := q34 (n := 42) (by decide) (v := .int x) (st := st) rfl
        simp [List.getElem?_set, f7, f0, hq, isI, g_at, hxe.1, hxe.2]
      have hc2' := hc2 [some (grv g), some (.int s), some (setW l), some (.dct false (encD .int nV FL)), some (wv m), some (.lst []), none, none] rfl rfl (by simp)
      have hb : biP .all [.lst (m.map fun _ => .bl true)] st = some (.bl true) := by
        rw [b_all (p := fun _ : Int => true)]
        simp
      have h24 := q24 (n := 42) (by decide) (w := m) (st := st) hk h0 h1 (by omega) (by have := hwlen m hm; omega) hmd.ends
      have t1 : tyOk st (wv m) = true := rfl
      have t2 : tyIs st (wv m) .tup = true := rfl
      have hmk' : (m.length : Int) = (k : Int) := by omega
      simp only [Option.map_some, Option.getD_some] at e25
      simp [dLawShortestRight, denF, e25, hc1', hso, hmk, hne, hnin, t1, t2, hidx, hmk', hc2', hb, h24, hmd]

/-! the law -/
section
variable {g : Gr} {st : Store} {l : List Wd} {s : Int} {WF : FT} {FL : LT}
def frL2 (S : PV) (a : Int) (b : Nat) (g : Gr) (WF : FT) (FL : LT) (p4 p5 p8 p9 p10 p11 : Option PV) : Fr := [some S, some (.int a), some (.loc b), some (grv g), p4, p5, some (.dct false (encD .int setW WF)), some (.dct false (encD .int nV FL)), p8, p9, p10, p11]
theorem law_words (hk : g.Ok) (he : g.n + g.e ≤ 5) (h0 : 0 ≤ s) (h1 : s < g.n) (hl : ∀ w, w ∈ l ↔ Der g s w ∧ w.length ≤ 4) (S : PV) (a : Int) (b : Nat) (p4 p5 p10 p11 : Option PV) :
    ∃ q10, ex (denT fnT 43) dLaw_l4 (frL2 S a b g WF FL p4 p5 (some (.int s)) (some (setW l)) p10 p11) st = some (.nx, frL2 S a b g WF FL p4 p5 (some (.int s)) (some (setW l)) q10 p11, st) := by
  have h41 := q41 (n := 43) (by decide) hk.nice he (most := 4) (by decide) (st := st)
  obtain ⟨fr', s', e, q10, rfl, hs'⟩ := fr_go (F := wv) (asg := asgT (.nm 10)) (b := fun fr st => exs (denT fnT 43) dLaw_l4b fr st) (allF g 4)
    (fun _ fr st' => ∃ q10, fr = frL2 S a b g WF FL p4 p5 (some (.int s)) (some (setW l)) q10 p11 ∧ st' = st) (fun l' w r fr st' hll hI => by
      obtain ⟨q10, rfl, hst⟩ := hI
      rw [hst]
      have hw := mem_allF.mp (by rw [hll]; simp : w ∈ allF g 4)
      have h24 := q24 (n := 43) (by decide) (w := w) (st := st) hk h0 h1 (by omega) (by omega) hw.1
      have hin : cmpP .inn (wv w) (setW l) st = some (decide (w ∈ l)) := (in_encS wv_inj (t := true) dctOf_val kFor_wv).trans (by congr)
      have hq := q32b (n := 43) (by decide) (a := @decide (Der g s w) (Classical.propDecidable _)) (b := decide (w ∈ l)) (st := st)
      have hd : @decide (Der g s w) (Classical.propDecidable _) = decide (w ∈ l) := decide_eq_decide.mpr ⟨fun d => (hl w).mpr ⟨d, hw.2⟩, fun h => ((hl w).mp h).1⟩
      rw [hd] at h24 hq
      refine ⟨frL2 S a b g WF FL p4 p5 (some (.int s)) (some (setW l)) (some (wv w)) p11, frL2 S a b g WF FL p4 p5 (some (.int s)) (some (setW l)) (some (wv w)) p11, st, rfl, ?_, some (wv w), rfl, rfl⟩
      unfold frL2
      simp only [dLaw_l4b, z_s1, z_if, z_nt, z_call, z_cons, z_nil, z_cmp, z_var, List.getElem?_cons_succ, List.getElem?_cons_zero, gv_some, Option.bind_some, kPr_mk, Option.map_some, h24, hin, hq, decide_true, kNt_bl, Bool.not_true, kIfS_f, z_s0, kSq_nx]) (frL2 S a b g WF FL p4 p5 (some (.int s)) (some (setW l)) p10 p11) st ⟨p10, rfl, rfl⟩
  rw [hs'] at e
  refine ⟨q10, ?_⟩
  have hsq : kSeq (wsV (allF g 4)) st = some ((allF g 4).map wv, st) := kSeq_lst
  unfold dLaw_l4
  rw [z_frr]
  unfold frL2 at e ⊢
  have h41' : denT fnT 43 41 [grv g, .int 4] st = some (wsV (allF g 4), st) := h41
  simp only [z_iseq, z_call, z_cons, z_nil, z_con, z_var, List.getElem?_cons_succ, List.getElem?_cons_zero, gv_some, Option.bind_some, kPr_mk, Option.map_some, h41', hsq, e]
theorem law_counts (hk : g.Ok) (he : g.n + g.e ≤ 5) (h0 : 0 ≤ s) (h1 : s < g.n) (hln : l.Nodup) (hl : ∀ w, w ∈ l ↔ Der g s w ∧ w.length ≤ 4) (S : PV) (a : Int) (b : Nat) (p4 p5 p10 p11 : Option PV) :
    ∃ q11, ex (denT fnT 43) dLaw_l5 (frL2 S a b g WF FL p4 p5 (some (.int s)) (some (setW l)) p10 p11) st = some (.nx, frL2 S a b g WF FL p4 p5 (some (.int s)) (some (setW l)) p10 q11, st) := by
  have hg := hk.nice
  have hll : l.length ≤ 1280 := by
    have h2 := nodup_len l (allF g 4) hln fun w hw => mem_allF.mpr ⟨((hl w).mp hw).1.ends, ((hl w).mp hw).2⟩
    have h3 := allF_few hg.n1 he (m := 4) (by decide)
    omega
  obtain ⟨fr', s', e, q11, rfl, hs'⟩ := fr_go (F := fun m : Nat => PV.int m) (asg := asgT (.nm 11)) (b := fun fr st => exs (denT fnT 43) dLaw_l5b fr st) (List.range 5)
    (fun _ fr st' => ∃ q11, fr = frL2 S a b g WF FL p4 p5 (some (.int s)) (some (setW l)) p10 q11 ∧ st' = st) (fun l' m r fr st' hll2 hI => by
      obtain ⟨q11, rfl, hst⟩ := hI
      rw [hst]
      have hm := (range_at hll2).2
      obtain ⟨l2, hn2, hm2, h26⟩ := q26 (n := 43) (by decide) hk he (m := m) (by omega) h0 h1 (st := st)
      have hc1 : ev (denT fnT 43) dLaw_c1 (frL2 S a b g WF FL p4 p5 (some (.int s)) (some (setW l)) p10 (some (.int m))) st = some (.lst ((l.filter fun w => decide (w.length = m)).map wv), st) := by
        refine ev_lcfT (xs := l) wv (fun w => decide (w.length = m)) wv (by simp [frL2, setW, encS_keys]) (fun w hw => ⟨_, rfl, ?_, fun _ => by simp [frL2, wipeF]⟩) (by rw [List.length_map]; have := List.length_filter_le (fun w : Wd => decide (w.length = m)) l; unfold SZ; omega)
        have ed : decide ((w.length : Int) = (m : Int)) = decide (w.length = m) := decide_eq_decide.mpr (by omega)
        simp [frL2, wipeF, ed]
      have hlen : l2.length = (l.filter fun w => decide (w.length = m)).length := nodup_len_eq hn2 (hln.filter _) fun w => by
        rw [hm2, List.mem_filter, hl, decide_eq_true_eq]
        constructor
        · rintro ⟨d, e⟩; exact ⟨⟨d, by omega⟩, e⟩
        · rintro ⟨⟨d, _⟩, e⟩; exact ⟨d, e⟩
      have hq := q32i (n := 43) (by decide) (a := (l2.length : Int)) (b := (l2.length : Int)) (st := st)
      refine ⟨frL2 S a b g WF FL p4 p5 (some (.int s)) (some (setW l)) p10 (some (.int m)), frL2 S a b g WF FL p4 p5 (some (.int s)) (some (setW l)) p10 (some (.int m)), st, rfl, ?_, some (.int m), rfl, rfl⟩
      unfold frL2 at hc1 ⊢
      simp only [dLaw_l5b, z_s1, z_if, z_nt, z_call, z_cons, z_nil, z_bi, z_var, List.getElem?_cons_succ, List.getElem?_cons_zero, gv_some, Option.bind_some, kPr_mk, Option.map_some, h26, hc1, b_len_lst, List.length_map, ← hlen, hq, decide_true, kNt_bl, Bool.not_true, kIfS_f, z_s0, kSq_nx]) (frL2 S a b g WF FL p4 p5 (some (.int s)) (some (setW l)) p10 p11) st ⟨p11, rfl, rfl⟩
  rw [hs'] at e
  refine ⟨q11, ?_⟩
  have hk1 : kR1 (.int 5) st = some ((List.range 5).map fun m : Nat => PV.int m, st) := kR1_nat (j := 5) (by decide)
  unfold dLaw_l5
  rw [z_frr]
  unfold frL2 at e ⊢
  simp only [z_ir1, z_con, Option.bind_some, kPr_mk, hk1, e]
theorem law_names (hk : g.Ok) (he : g.n + g.e ≤ 5) (hW : WW g 4 WF) (hL : LW g FL) (S : PV) (a : Int) (b : Nat) (p4 p5 p8 p9 p10 p11 : Option PV) :
    ∃ q8 q9 q10 q11, ex (denT fnT 43) dLaw_l3 (frL2 S a b g WF FL p4 p5 p8 p9 p10 p11) st = some (.nx, frL2 S a b g WF FL p4 p5 q8 q9 q10 q11, st) := by
  have hg := hk.nice
  have hn1 := hg.n1
  have he1 := hg.e1
  obtain ⟨fr', s', e, q8, q9, q10, q11, rfl, hs'⟩ := fr_go (F := PV.int) (asg := asgT (.nm 8)) (b := fun fr st => exs (denT fnT 43) dLaw_l3b fr st) (rngI 0 g.n)
    (fun _ fr st' => ∃ q8 q9 q10 q11, fr = frL2 S a b g WF FL p4 p5 q8 q9 q10 q11 ∧ st' = st) (fun l' s r fr st' hll hI => by
      obtain ⟨q8, q9, q10, q11, rfl, hst⟩ := hI
      rw [hst]
      have hs := mem_rngI.mp (by rw [hll]; simp : s ∈ rngI 0 g.n)
      obtain ⟨l, hlk⟩ := Option.isSome_iff_exists.mp (hW.all s hs.1 (by omega))
      have hln := hW.nd s l hlk
      have hl := hW.mem s l hlk
      have hix : idxP (.dct false (encD .int setW WF)) (.int s) st = some (setW l) := idx_enc (ke := .int) (ve := setW) int_inj dctOf_val rfl hlk
      obtain ⟨r10, e4⟩ := law_words (st := st) (WF := WF) (FL := FL) hk he hs.1 hs.2 hl S a b p4 p5 q10 q11
      obtain ⟨r11, e5⟩ := law_counts (st := st) (WF := WF) (FL := FL) hk he hs.1 hs.2 hln hl S a b p4 p5 r10 q11
      have h42 := q42 (n := 43) (by decide) (st := st) hk he hs.1 hs.2 hln hl hL
      refine ⟨frL2 S a b g WF FL p4 p5 (some (.int s)) q9 q10 q11, frL2 S a b g WF FL p4 p5 (some (.int s)) (some (setW l)) r10 r11, st, rfl, ?_, some (.int s), some (setW l), r10, r11, rfl, rfl⟩
      unfold frL2 at e4 e5 ⊢
      simp only [dLaw_l3b, z_s1, z_set, z_idx, z_var, List.getElem?_cons_succ, List.getElem?_cons_zero, gv_some, Option.bind_some, kPr_mk, Option.map_some, hix, asgT_nm, List.length_cons, List.length_nil, Nat.zero_add, Nat.reduceAdd, Nat.reduceLT, if_true, List.set_cons_succ, List.set_cons_zero, kSq_nx, e4, e5, z_if, z_nt, z_call, z_cons, z_nil, h42, kNt_bl, Bool.not_true, kIfS_f, z_s0]) (frL2 S a b g WF FL p4 p5 p8 p9 p10 p11) st ⟨p8, p9, p10, p11, rfl, rfl⟩
  rw [hs'] at e
  refine ⟨q8, q9, q10, q11, ?_⟩
  by_cases hbig : g.n ≤ 1000
  · have hk1 : kR1 (.int g.n) st = some ((rngI 0 g.n).map .int, st) := kR1_int (by omega) (by omega)
    unfold dLaw_l3
    rw [z_frr]
    unfold frL2 at e ⊢
    simp only [z_ir1, z_idx, z_con, z_var, List.getElem?_cons_succ, List.getElem?_cons_zero, gv_some, Option.bind_some, kPr_mk, g_at, Option.map_some, hk1, e]
  · omega
end
/-- ten values that are bent -/
theorem law_bents {g : Gr} {st : Store} {b m : Nat} (hk : g.Ok) (hf : g.rs.length ≤ 50) (hN : g.n ≤ 1000) (hb : BagOk st b m) (hm : m ≤ 1000) (S : PV) (a : Int) (p4 p5 p6 p7 p8 p9 p10 p11 : Option PV) :
    ∃ st' q4 q5, ex (denT fnT 43) dLaw_l2 [some S, some (.int a), some (.loc b), some (grv g), p4, p5, p6, p7, p8, p9, p10, p11] st = some (.nx, [some S, some (.int a), some (.loc b), some (grv g), q4, q5, p6, p7, p8, p9, p10, p11], st') := by
  obtain ⟨fr', s', e, q4, q5, rfl, hb'⟩ := fr_go (F := fun m : Nat => PV.int m) (asg := asgT (.nm 4)) (b := fun fr st => exs (denT fnT 43) dLaw_l2b fr st) (List.range 10)
    (fun l fr st' => ∃ q4 q5, fr = [some S, some (.int a), some (.loc b), some (grv g), q4, q5, p6, p7, p8, p9, p10, p11] ∧ BagOk st' b (m + 4 * l.length)) (fun l x r fr st' hl hI => by
      obtain ⟨q4, q5, rfl, hb1⟩ := hI
      have hlt := (range_at hl).2
      have hxl := (range_at hl).1
      obtain ⟨v, st2, e38, hpl, hb2⟩ := q38 (n := 43) (by decide) hb1 (by omega) hk hf hN
      have h23 := q23 (n := 43) (by decide) (st := st2) hpl
      have h36 := q36 (n := 43) (by decide) (st := st2) hpl
      have hq := q32b (n := 43) (by decide) (a := isG v) (b := isG v) (st := st2)
      refine ⟨[some S, some (.int a), some (.loc b), some (grv g), some (.int x), q5, p6, p7, p8, p9, p10, p11], [some S, some (.int a), some (.loc b), some (grv g), some (.int x), some v, p6, p7, p8, p9, p10, p11], st2, rfl, ?_, some (.int x), some v, rfl, by rw [List.length_append]; exact hb2⟩
      simp only [dLaw_l2b, z_s1, z_set, z_call, z_cons, z_nil, z_var, List.getElem?_cons_succ, List.getElem?_cons_zero, gv_some, Option.bind_some, kPr_mk, Option.map_some, e38, asgT_nm, List.length_cons, List.length_nil, Nat.zero_add, Nat.reduceAdd, Nat.reduceLT, if_true, List.set_cons_succ, List.set_cons_zero, kSq_nx, z_if, z_nt, h23, h36, hq, decide_true, kNt_bl, Bool.not_true, kIfS_f, z_s0]) [some S, some (.int a), some (.loc b), some (grv g), p4, p5, p6, p7, p8, p9, p10, p11] st ⟨p4, p5, rfl, hb⟩
  refine ⟨s', q4, q5, ?_⟩
  have hk1 : kR1 (.int 10) st = some ((List.range 10).map fun m : Nat => PV.int m, st) := kR1_nat (j := 10) (by decide)
  unfold dLaw_l2
  rw [z_frr]
  simp only [z_ir1, z_con, Option.bind_some, kPr_mk, hk1, e]
theorem cmp_isn_bl {a b : Bool} {st : Store} : cmpP .isn (.bl a) (.bl b) st = some (!decide (a = b)) := by unfold cmpP; rfl
/-- one grammar -/
theorem law_turn {st : Store} {ns : List Int} {a : Nat} (ha : a ≤ 10) (p2 p3 p4 p5 p6 p7 p8 p9 p10 p11 : Option PV) :
    ∃ st' q2 q3 q4 q5 q6 q7 q8 q9 q10 q11, exs (denT fnT 43) dLaw_l1b [some (.fz (ns.map .int)), some (.int a), p2, p3, p4, p5, p6, p7, p8, p9, p10, p11] st = some (.nx, [some (.fz (ns.map .int)), some (.int a), q2, q3, q4, q5, q6, q7, q8, q9, q10, q11], st') := by
  obtain ⟨st1, e27, hb1⟩ := q27 (n := 43) (by decide) (ns := ns) ha (st := st)
  obtain ⟨d1, c1, e1, x0, x1, hb2⟩ := q28 (n := 43) (by decide) hb1 (by omega) (many := 3) (by decide) (by decide)
  obtain ⟨d2, c2, e2, y0, y1, hb3⟩ := q28 (n := 43) (by decide) hb2 (by omega) (many := 2) (by decide) (by decide)
  obtain ⟨g, st4, e33, gn, ge, gl, hk, hb4⟩ := q33 (n := 43) (by decide) hb3 (by omega) (most := 9) (by decide) (N := 1 + d1) (E := 1 + d2) (by omega) (by omega)
  have he : g.n + g.e ≤ 5 := by omega
  have hpl := hk.pl
  have h23 := q23 (n := 43) (by decide) (st := st4) hpl
  rw [hk.is] at h23
  obtain ⟨st5, q4, q5, el2⟩ := law_bents (st := st4) (b := st.length) hk (by omega) (by omega) hb4 (by omega) (.fz (ns.map .int)) a p4 p5 p6 p7 p8 p9 p10 p11
  obtain ⟨WF, hW, e39⟩ := q39 (n := 43) (by decide) hk.nice he (most := 4) (by decide) (by decide) (st := st5)
  obtain ⟨FL, hL, e40⟩ := q40 (n := 43) (by decide) hk.nice (by omega) (st := st5)
  obtain ⟨q8, q9, q10, q11, el3⟩ := law_names (st := st5) hk he hW hL (.fz (ns.map .int)) a st.length q4 q5 p8 p9 p10 p11
  have e39' : denT fnT 43 39 [grv g, .int 4] st5 = some (.dct false (encD .int setW WF), st5) := e39
  have e33' : denT fnT 43 33 [.loc st.length, .int (1 + d1), .int (1 + d2), .int 9] ((st1.set st.length c1).set st.length c2) = some (grv g, st4) := e33
  refine ⟨st5, some (.loc st.length), some (grv g), q4, q5, some (.dct false (encD .int setW WF)), some (.dct false (encD .int nV FL)), q8, q9, q10, q11, ?_⟩
  unfold frL2 at el3
  simp only [dLaw_l1b, z_s1, z_set, z_call, z_cons, z_nil, z_var, z_bin, z_con, z_tup, List.getElem?_cons_succ, List.getElem?_cons_zero, gv_some, Option.bind_some, kPr_mk, Option.map_some, e27, asgT_nm, asgT_tup, asgTs_cons, asgTs_nil, mkT2, List.length_cons, List.length_nil, Nat.zero_add, Nat.reduceAdd, Nat.reduceLT, if_true, List.set_cons_succ, List.set_cons_zero, kSq_nx, e1, bin_add, e2, e33', z_if, z_cmp, h23, cmp_isn_bl, decide_true, Bool.not_true, kIfS_f, z_s0, el2, e39', e40, el3]
theorem law_true {ns : List Int} (h : ns.length ≤ 63) : ∃ st', Pv.denF (Pv.denT fnT 43) dLaw [.fz (ns.map .int)] [] = some (.bl true, st') := by
  obtain ⟨fr', s', e, p1, p2, p3, p4, p5, p6, p7, p8, p9, p10, p11, rfl⟩ := fr_go (F := PV.int) (asg := asgT (.nm 1)) (b := fun fr st => exs (denT fnT 43) dLaw_l1b fr st) (rngI 0 (if (2 : Int) < (if (4 : Int) < (ns.length : Int) then 4 else (ns.length : Int)) then (if (4 : Int) < (ns.length : Int) then 4 else (ns.length : Int)) else 2))
    (fun _ fr _ => ∃ p1 p2 p3 p4 p5 p6 p7 p8 p9 p10 p11, fr = [some (.fz (ns.map .int)), p1, p2, p3, p4, p5, p6, p7, p8, p9, p10, p11]) (fun l x r fr st hl hI => by
      obtain ⟨p1, p2, p3, p4, p5, p6, p7, p8, p9, p10, p11, rfl⟩ := hI
      have hx := mem_rngI.mp (by rw [hl]; simp : x ∈ rngI 0 _)
      have hx4 : x ≤ 10 := by
        have := hx.2
        split at this <;> split at this <;> omega
      obtain ⟨k, rfl⟩ : ∃ k : Nat, x = k := ⟨x.toNat, by omega⟩
      obtain ⟨st', q2, q3, q4, q5, q6, q7, q8, q9, q10, q11, e⟩ := law_turn (st := st) (ns := ns) (a := k) (by omega) p2 p3 p4 p5 p6 p7 p8 p9 p10 p11
      exact ⟨_, _, st', rfl, e, _, q2, q3, q4, q5, q6, q7, q8, q9, q10, q11, rfl⟩) [some (.fz (ns.map .int)), none, none, none, none, none, none, none, none, none, none, none] [] ⟨none, none, none, none, none, none, none, none, none, none, none, rfl⟩
  refine ⟨s', ?_⟩
  rw [denF_out rfl rfl]
  show runB _ _ [some (.fz (ns.map .int)), none, none, none, none, none, none, none, none, none, none, none] [] = _
  have hlen : biP .len [.fz (ns.map .int)] [] = some (.int ns.length) := by
    have e : biP .len [.fz (ns.map .int)] [] = some (.int (ns.map PV.int).length) := rfl
    rw [e, List.length_map]
  have hmin : biP .min2 [.int ns.length, .int 4] [] = some (.int (if (4 : Int) < (ns.length : Int) then 4 else (ns.length : Int))) := rfl
  have hmax : ∀ x : Int, biP .max2 [.int 2, .int x] [] = some (.int (if x > 2 then x else 2)) := fun x => rfl
  have hk1 : ∀ x : Int, -1000000 ≤ x → x ≤ 1000000 → kR1 (.int x) [] = some ((rngI 0 x).map .int, []) := fun x h1 h2 => kR1_int h1 h2
  have hkk := hk1 (if (2 : Int) < (if (4 : Int) < (ns.length : Int) then 4 else (ns.length : Int)) then (if (4 : Int) < (ns.length : Int) then 4 else (ns.length : Int)) else 2) (by split <;> split <;> omega) (by split <;> split <;> omega)
  unfold dLaw dLaw_l1
  rw [z_runB, z_s1, z_frr]
  simp only [z_ir1, z_bi, z_cons, z_nil, z_con, z_var, List.getElem?_cons_zero, gv_some, Option.bind_some, kPr_mk, Option.map_some, hlen, hmin, hmax, gt_iff_lt, hkk, e, kSq_nx, z_s1, z_ret, kSq_ret, kB_ret]
end K89
end

section
set_option Elab.async false
set_option linter.all false
set_option maxRecDepth 100000
set_option maxHeartbeats 0
namespace K89
open PySem PySem.Spec PyProof.Rows L2
def dIsInteger_D : He.DefD := ⟨("is_integer", none), "is_integer", "is_integer", defArgs dIsInteger_S, defBody dIsInteger_S, defScope dIsInteger_S, [], []⟩
def dIsFrom_D : He.DefD := ⟨("is_from", none), "is_from", "is_from", defArgs dIsFrom_S, defBody dIsFrom_S, defScope dIsFrom_S, [], []⟩
def dIsBetween_D : He.DefD := ⟨("is_between", none), "is_between", "is_between", defArgs dIsBetween_S, defBody dIsBetween_S, defScope dIsBetween_S, [], []⟩
def dIsIndexOf_D : He.DefD := ⟨("is_index_of", none), "is_index_of", "is_index_of", defArgs dIsIndexOf_S, defBody dIsIndexOf_S, defScope dIsIndexOf_S, [], []⟩
def dIsAscending_D : He.DefD := ⟨("is_ascending", none), "is_ascending", "is_ascending", defArgs dIsAscending_S, defBody dIsAscending_S, defScope dIsAscending_S, [], []⟩
def dIsWord_D : He.DefD := ⟨("is_word", none), "is_word", "is_word", defArgs dIsWord_S, defBody dIsWord_S, defScope dIsWord_S, [], []⟩
def dCheckNumber_D : He.DefD := ⟨("check_number", none), "check_number", "check_number", defArgs dCheckNumber_S, defBody dCheckNumber_S, defScope dCheckNumber_S, [], []⟩
def dCheckIndex_D : He.DefD := ⟨("check_index", none), "check_index", "check_index", defArgs dCheckIndex_S, defBody dCheckIndex_S, defScope dCheckIndex_S, [], []⟩
def dChartChildren_D : He.DefD := ⟨("Chart", some "children"), "children", "Chart.children", defArgs dChartChildren_S, defBody dChartChildren_S, defScope dChartChildren_S, [], []⟩
def dChartFill_D : He.DefD := ⟨("Chart", some "fill"), "fill", "Chart.fill", defArgs dChartFill_S, defBody dChartFill_S, defScope dChartFill_S, [], []⟩
def dChartInit_D : He.DefD := ⟨("Chart", some "__init__"), "__init__", "Chart.__init__", defArgs dChartInit_S, defBody dChartInit_S, defScope dChartInit_S, [], []⟩
def dIsGrammarRule_D : He.DefD := ⟨("is_grammar_rule", none), "is_grammar_rule", "is_grammar_rule", defArgs dIsGrammarRule_S, defBody dIsGrammarRule_S, defScope dIsGrammarRule_S, [], []⟩
def dIsGrammarForm_D : He.DefD := ⟨("is_grammar_form", none), "is_grammar_form", "is_grammar_form", defArgs dIsGrammarForm_S, defBody dIsGrammarForm_S, defScope dIsGrammarForm_S, [], []⟩
def dIsEnd_D : He.DefD := ⟨("is_end", none), "is_end", "is_end", defArgs dIsEnd_S, defBody dIsEnd_S, defScope dIsEnd_S, [], []⟩
def dCheckGrammar_D : He.DefD := ⟨("check_grammar", none), "check_grammar", "check_grammar", defArgs dCheckGrammar_S, defBody dCheckGrammar_S, defScope dCheckGrammar_S, [], []⟩
def dCheckNamed_D : He.DefD := ⟨("check_named", none), "check_named", "check_named", defArgs dCheckNamed_S, defBody dCheckNamed_S, defScope dCheckNamed_S, [], []⟩
def dCheckSpelled_D : He.DefD := ⟨("check_spelled", none), "check_spelled", "check_spelled", defArgs dCheckSpelled_S, defBody dCheckSpelled_S, defScope dCheckSpelled_S, [], []⟩
def dTreeOf_D : He.DefD := ⟨("tree_of", none), "tree_of", "tree_of", defArgs dTreeOf_S, defBody dTreeOf_S, defScope dTreeOf_S, [], []⟩
def dPutInPlace_D : He.DefD := ⟨("put_in_place", none), "put_in_place", "put_in_place", defArgs dPutInPlace_S, defBody dPutInPlace_S, defScope dPutInPlace_S, [], []⟩
def dFirstWords_D : He.DefD := ⟨("first_words", none), "first_words", "first_words", defArgs dFirstWords_S, defBody dFirstWords_S, defScope dFirstWords_S, [], []⟩
def dUnitsOf_D : He.DefD := ⟨("units_of", none), "units_of", "units_of", defArgs dUnitsOf_S, defBody dUnitsOf_S, defScope dUnitsOf_S, [], []⟩
def dPartedWords_D : He.DefD := ⟨("parted_words", none), "parted_words", "parted_words", defArgs dPartedWords_S, defBody dPartedWords_S, defScope dPartedWords_S, [], []⟩
def dWordsByLength_D : He.DefD := ⟨("words_by_length", none), "words_by_length", "words_by_length", defArgs dWordsByLength_S, defBody dWordsByLength_S, defScope dWordsByLength_S, [], []⟩
def dIsGrammar_D : He.DefD := ⟨("is_grammar", none), "is_grammar", "is_grammar", defArgs dIsGrammar_S, defBody dIsGrammar_S, defScope dIsGrammar_S, [], []⟩
def dIsOf_D : He.DefD := ⟨("is_of", none), "is_of", "is_of", defArgs dIsOf_S, defBody dIsOf_S, defScope dIsOf_S, [], []⟩
def dShortest_D : He.DefD := ⟨("shortest", none), "shortest", "shortest", defArgs dShortest_S, defBody dShortest_S, defScope dShortest_S, [], []⟩
def dCountWords_D : He.DefD := ⟨("count_words", none), "count_words", "count_words", defArgs dCountWords_S, defBody dCountWords_S, defScope dCountWords_S, [], []⟩
def dLawBag_D : He.DefD := ⟨("_law_bag", none), "_law_bag", "_law_bag", defArgs dLawBag_S, defBody dLawBag_S, defScope dLawBag_S, [], []⟩
def dLawDraw_D : He.DefD := ⟨("_law_draw", none), "_law_draw", "_law_draw", defArgs dLawDraw_S, defBody dLawDraw_S, defScope dLawDraw_S, [], []⟩
def dLawOne_D : He.DefD := ⟨("_law_one", none), "_law_one", "_law_one", defArgs dLawOne_S, defBody dLawOne_S, defScope dLawOne_S, [], []⟩
def dLawSame0_D : He.DefD := ⟨("_law_same", none), "_law_same", "_law_same", defArgs dLawSame0_S, defBody dLawSame0_S, defScope dLawSame0_S, [], []⟩
def dLawGrammar_D : He.DefD := ⟨("_law_grammar", none), "_law_grammar", "_law_grammar", defArgs dLawGrammar_S, defBody dLawGrammar_S, defScope dLawGrammar_S, [], []⟩
def dLawIsInt_D : He.DefD := ⟨("_law_is_int", none), "_law_is_int", "_law_is_int", defArgs dLawIsInt_S, defBody dLawIsInt_S, defScope dLawIsInt_S, [], []⟩
def dLawIsRow_D : He.DefD := ⟨("_law_is_row", none), "_law_is_row", "_law_is_row", defArgs dLawIsRow_S, defBody dLawIsRow_S, defScope dLawIsRow_S, [], []⟩
def dLawJudged_D : He.DefD := ⟨("_law_judged", none), "_law_judged", "_law_judged", defArgs dLawJudged_S, defBody dLawJudged_S, defScope dLawJudged_S, [], []⟩
def dLawOdd_D : He.DefD := ⟨("_law_odd", none), "_law_odd", "_law_odd", defArgs dLawOdd_S, defBody dLawOdd_S, defScope dLawOdd_S, [], []⟩
def dLawBent_D : He.DefD := ⟨("_law_bent", none), "_law_bent", "_law_bent", defArgs dLawBent_S, defBody dLawBent_S, defScope dLawBent_S, [], []⟩
def dLawWords_D : He.DefD := ⟨("_law_words", none), "_law_words", "_law_words", defArgs dLawWords_S, defBody dLawWords_S, defScope dLawWords_S, [], []⟩
def dLawLeast_D : He.DefD := ⟨("_law_least", none), "_law_least", "_law_least", defArgs dLawLeast_S, defBody dLawLeast_S, defScope dLawLeast_S, [], []⟩
def dLawAllWords_D : He.DefD := ⟨("_law_all_words", none), "_law_all_words", "_law_all_words", defArgs dLawAllWords_S, defBody dLawAllWords_S, defScope dLawAllWords_S, [], []⟩
def dLawShortestRight_D : He.DefD := ⟨("_law_shortest_right", none), "_law_shortest_right", "_law_shortest_right", defArgs dLawShortestRight_S, defBody dLawShortestRight_S, defScope dLawShortestRight_S, [], []⟩
def dLaw_D : He.DefD := ⟨("law", none), "law", "law", defArgs dLaw_S, defBody dLaw_S, defScope dLaw_S, [], []⟩
def fnL0 : List He.DefD := [dIsInteger_D, dIsFrom_D, dIsBetween_D, dIsIndexOf_D, dIsAscending_D, dIsWord_D, dCheckNumber_D, dCheckIndex_D, dChartChildren_D, dChartFill_D, dChartInit_D, dIsGrammarRule_D, dIsGrammarForm_D, dIsEnd_D, dCheckGrammar_D, dCheckNamed_D, dCheckSpelled_D, dTreeOf_D, dPutInPlace_D, dFirstWords_D, dUnitsOf_D, dPartedWords_D, dWordsByLength_D, dIsGrammar_D, dIsOf_D, dShortest_D, dCountWords_D, dLawBag_D, dLawDraw_D, dLawOne_D]
def fnL1 : List He.DefD := [dLawSame0_D, dLawGrammar_D, dLawIsInt_D, dLawIsRow_D, dLawJudged_D, dLawOdd_D, dLawBent_D, dLawWords_D, dLawLeast_D, dLawAllWords_D, dLawShortestRight_D, dLaw_D]
def fnL : List He.DefD := fnL0 ++ fnL1
def faL0 : List He.Fa := [.glo "is_integer", .glo "is_from", .glo "is_between", .glo "is_index_of", .glo "is_ascending", .glo "is_word", .glo "check_number", .glo "check_index", .glo "is_grammar_rule", .glo "is_grammar_form", .glo "is_end", .glo "check_grammar", .glo "check_named", .glo "check_spelled", .glo "tree_of", .glo "put_in_place", .glo "first_words", .glo "units_of", .glo "parted_words", .glo "words_by_length", .glo "is_grammar", .glo "is_of", .glo "shortest", .glo "count_words", .glo "_law_bag", .glo "_law_draw", .glo "_law_one", .glo "_law_same", .glo "_law_grammar", .glo "_law_is_int"]
def faL1 : List He.Fa := [.glo "_law_is_row", .glo "_law_judged", .glo "_law_odd", .glo "_law_bent", .glo "_law_words", .glo "_law_least", .glo "_law_all_words", .glo "_law_shortest_right", .glo "law", .glo "Chart", .free "abs", .free "all", .free "bool", .free "enumerate", .free "int", .free "isinstance", .free "len", .free "list", .free "max", .free "min", .free "range", .free "sorted", .free "str", .free "sum", .free "tuple", .free "zip", .int "MOST_OF_A_WORD" 2, .int "MOST_COUNTED" 8, .cls "Chart", .noat "Chart" "rows"]
def faL2 : List He.Fa := [.noat "Chart" "rules", .mkr "Chart", .meth "Chart" "fill", .meth "Chart" "children"]
def faL : List He.Fa := faL0 ++ faL1 ++ faL2
def looseL0 : List Str := ["StackError", "InvalidNumber", "InvalidConfiguration", "InvalidGrammar", "MOST_OF_A_WORD", "is_integer", "is_from", "is_between", "is_index_of", "is_ascending", "is_word", "check_number", "check_index", "MOST_COUNTED", "Chart", "is_grammar_rule", "is_grammar_form", "is_end", "check_grammar", "check_named", "check_spelled", "tree_of", "put_in_place", "first_words", "units_of", "parted_words", "words_by_length", "is_grammar", "is_of", "shortest"]
def looseL1 : List Str := ["count_words", "_law_bag", "_law_draw", "_law_one", "_law_same", "_law_grammar", "_law_is_int", "_law_is_row", "_law_judged", "_law_odd", "_law_bent", "_law_words", "_law_least", "_law_all_words", "_law_shortest_right"]
def looseL : List Str := looseL0 ++ looseL1
abbrev theRow : PySem.W.OpenRow := PySem.W.OpenLaw.row PySem.Challenge.rw_everystack_k89_grammars_by_trying
abbrev hk : PySem.W.Hook := He.hookD 6 faL fnL
def obL (s : PySem.W.SharedT) : He.AlD := He.obsDG 6 faL fnL (HandSHeadRun.getT s)
theorem obL_eq (s : PySem.W.SharedT) : obL s = hk.obs s.abs := He.obsDG_eq (HandSHeadRun.getT_eq s)
theorem runL (w : World) : HandSHeadRun.RunEq theRow (PySem.W.view theRow.prog [49]) hk obL 4000 looseL w := by
  intro os
  kernel_rfl

theorem dIsInteger_k : Pv.Kept (G.upto 0) dIsInteger_D dIsInteger dIsInteger_N 0 := ⟨dIsInteger_ok, rfl, rfl, fun _ _ _ _ _ _ us hl => match us, hl with | [_], _ => rfl⟩
theorem dIsFrom_k : Pv.Kept (G.upto 1) dIsFrom_D dIsFrom dIsFrom_N 2 := ⟨dIsFrom_ok, rfl, rfl, fun _ _ _ _ _ _ us hl => match us, hl with | [_, _], _ => rfl⟩
theorem dIsBetween_k : Pv.Kept (G.upto 2) dIsBetween_D dIsBetween dIsBetween_N 2 := ⟨dIsBetween_ok, rfl, rfl, fun _ _ _ _ _ _ us hl => match us, hl with | [_, _, _], _ => rfl⟩
theorem dIsIndexOf_k : Pv.Kept (G.upto 3) dIsIndexOf_D dIsIndexOf dIsIndexOf_N 4 := ⟨dIsIndexOf_ok, rfl, rfl, fun _ _ _ _ _ _ us hl => match us, hl with | [_, _], _ => rfl⟩
theorem dIsAscending_k : Pv.Kept (G.upto 4) dIsAscending_D dIsAscending dIsAscending_N 0 := ⟨dIsAscending_ok, rfl, rfl, fun _ _ _ _ _ _ us hl => match us, hl with | [_], _ => rfl⟩
theorem dIsWord_k : Pv.Kept (G.upto 5) dIsWord_D dIsWord dIsWord_N 6 := ⟨dIsWord_ok, rfl, rfl, fun _ _ _ _ _ _ us hl => match us, hl with | [_, _], _ => rfl⟩
theorem dCheckNumber_k : Pv.Kept (G.upto 6) dCheckNumber_D dCheckNumber dCheckNumber_N 4 := ⟨dCheckNumber_ok, rfl, rfl, fun _ _ _ _ _ _ us hl => match us, hl with | [_], _ => rfl⟩
theorem dCheckIndex_k : Pv.Kept (G.upto 7) dCheckIndex_D dCheckIndex dCheckIndex_N 6 := ⟨dCheckIndex_ok, rfl, rfl, fun _ _ _ _ _ _ us hl => match us, hl with | [_, _], _ => rfl⟩
theorem dChartChildren_k : Pv.Kept (G.upto 8) dChartChildren_D dChartChildren dChartChildren_N 0 := ⟨dChartChildren_ok, rfl, rfl, fun _ _ _ _ _ _ us hl => match us, hl with | [_, _, _, _], _ => rfl⟩
theorem dChartFill_k : Pv.Kept (G.upto 9) dChartFill_D dChartFill dChartFill_N 2 := ⟨dChartFill_ok, rfl, rfl, fun _ _ _ _ _ _ us hl => match us, hl with | [_, _, _], _ => rfl⟩
theorem dChartInit_k : Pv.Kept (G.upto 10) dChartInit_D dChartInit dChartInit_N 4 := ⟨dChartInit_ok, rfl, rfl, fun _ _ _ _ _ _ us hl => match us, hl with | [_, _, _], _ => rfl⟩
theorem dIsGrammarRule_k : Pv.Kept (G.upto 11) dIsGrammarRule_D dIsGrammarRule dIsGrammarRule_N 8 := ⟨dIsGrammarRule_ok, rfl, rfl, fun _ _ _ _ _ _ us hl => match us, hl with | [_, _, _], _ => rfl⟩
theorem dIsGrammarForm_k : Pv.Kept (G.upto 12) dIsGrammarForm_D dIsGrammarForm dIsGrammarForm_N 10 := ⟨dIsGrammarForm_ok, rfl, rfl, fun _ _ _ _ _ _ us hl => match us, hl with | [_], _ => rfl⟩
theorem dIsEnd_k : Pv.Kept (G.upto 13) dIsEnd_D dIsEnd dIsEnd_N 4 := ⟨dIsEnd_ok, rfl, rfl, fun _ _ _ _ _ _ us hl => match us, hl with | [_, _], _ => rfl⟩
theorem dCheckGrammar_k : Pv.Kept (G.upto 14) dCheckGrammar_D dCheckGrammar dCheckGrammar_N 12 := ⟨dCheckGrammar_ok, rfl, rfl, fun _ _ _ _ _ _ us hl => match us, hl with | [_], _ => rfl⟩
theorem dCheckNamed_k : Pv.Kept (G.upto 15) dCheckNamed_D dCheckNamed dCheckNamed_N 14 := ⟨dCheckNamed_ok, rfl, rfl, fun _ _ _ _ _ _ us hl => match us, hl with | [_, _], _ => rfl⟩
theorem dCheckSpelled_k : Pv.Kept (G.upto 16) dCheckSpelled_D dCheckSpelled dCheckSpelled_N 16 := ⟨dCheckSpelled_ok, rfl, rfl, fun _ _ _ _ _ _ us hl => match us, hl with | [_, _, _], _ => rfl⟩
theorem dTreeOf_k : Pv.Kept (G.upto 17) dTreeOf_D dTreeOf dTreeOf_N 7 := ⟨dTreeOf_ok, rfl, rfl, fun _ _ _ _ _ _ us hl => match us, hl with | [_, _, _], _ => rfl⟩
theorem dPutInPlace_k : Pv.Kept (G.upto 18) dPutInPlace_D dPutInPlace dPutInPlace_N 0 := ⟨dPutInPlace_ok, rfl, rfl, fun _ _ _ _ _ _ us hl => match us, hl with | [_, _], _ => rfl⟩
theorem dFirstWords_k : Pv.Kept (G.upto 19) dFirstWords_D dFirstWords dFirstWords_N 2 := ⟨dFirstWords_ok, rfl, rfl, fun _ _ _ _ _ _ us hl => match us, hl with | [_], _ => rfl⟩
theorem dUnitsOf_k : Pv.Kept (G.upto 20) dUnitsOf_D dUnitsOf dUnitsOf_N 0 := ⟨dUnitsOf_ok, rfl, rfl, fun _ _ _ _ _ _ us hl => match us, hl with | [_, _], _ => rfl⟩
theorem dPartedWords_k : Pv.Kept (G.upto 21) dPartedWords_D dPartedWords dPartedWords_N 0 := ⟨dPartedWords_ok, rfl, rfl, fun _ _ _ _ _ _ us hl => match us, hl with | [_, _, _], _ => rfl⟩
theorem dWordsByLength_k : Pv.Kept (G.upto 22) dWordsByLength_D dWordsByLength dWordsByLength_N 7 := ⟨dWordsByLength_ok, rfl, rfl, fun _ _ _ _ _ _ us hl => match us, hl with | [_, _], _ => rfl⟩
theorem dIsGrammar_k : Pv.Kept (G.upto 23) dIsGrammar_D dIsGrammar dIsGrammar_N 12 := ⟨dIsGrammar_ok, rfl, rfl, fun _ _ _ _ _ _ us hl => match us, hl with | [_], _ => rfl⟩
theorem dIsOf_k : Pv.Kept (G.upto 24) dIsOf_D dIsOf dIsOf_N 18 := ⟨dIsOf_ok, rfl, rfl, fun _ _ _ _ _ _ us hl => match us, hl with | [_, _, _], _ => rfl⟩
theorem dShortest_k : Pv.Kept (G.upto 25) dShortest_D dShortest dShortest_N 16 := ⟨dShortest_ok, rfl, rfl, fun _ _ _ _ _ _ us hl => match us, hl with | [_, _], _ => rfl⟩
theorem dCountWords_k : Pv.Kept (G.upto 26) dCountWords_D dCountWords dCountWords_N 16 := ⟨dCountWords_ok, rfl, rfl, fun _ _ _ _ _ _ us hl => match us, hl with | [_, _, _], _ => rfl⟩
theorem dLawBag_k : Pv.Kept (G.upto 27) dLawBag_D dLawBag dLawBag_N 0 := ⟨dLawBag_ok, rfl, rfl, fun _ _ _ _ _ _ us hl => match us, hl with | [_, _], _ => rfl⟩
theorem dLawDraw_k : Pv.Kept (G.upto 28) dLawDraw_D dLawDraw dLawDraw_N 0 := ⟨dLawDraw_ok, rfl, rfl, fun _ _ _ _ _ _ us hl => match us, hl with | [_, _], _ => rfl⟩
theorem dLawOne_k : Pv.Kept (G.upto 29) dLawOne_D dLawOne dLawOne_N 2 := ⟨dLawOne_ok, rfl, rfl, fun _ _ _ _ _ _ us hl => match us, hl with | [_, _], _ => rfl⟩
theorem dLawSame0_k : Pv.Kept (G.upto 30) dLawSame0_D dLawSame0 dLawSame0_N 0 := ⟨dLawSame0_ok, rfl, rfl, fun _ _ _ _ _ _ us hl => match us, hl with | [_, _], _ => rfl⟩
theorem dLawSame1_k : Pv.Kept (G.upto 31) dLawSame0_D dLawSame1 dLawSame1_N 2 := ⟨dLawSame1_ok, rfl, rfl, fun _ _ _ _ _ _ us hl => match us, hl with | [_, _], _ => rfl⟩
theorem dLawSame2_k : Pv.Kept (G.upto 32) dLawSame0_D dLawSame2 dLawSame2_N 4 := ⟨dLawSame2_ok, rfl, rfl, fun _ _ _ _ _ _ us hl => match us, hl with | [_, _], _ => rfl⟩
theorem dLawGrammar_k : Pv.Kept (G.upto 33) dLawGrammar_D dLawGrammar dLawGrammar_N 4 := ⟨dLawGrammar_ok, rfl, rfl, fun _ _ _ _ _ _ us hl => match us, hl with | [_, _, _, _], _ => rfl⟩
theorem dLawIsInt_k : Pv.Kept (G.upto 34) dLawIsInt_D dLawIsInt dLawIsInt_N 0 := ⟨dLawIsInt_ok, rfl, rfl, fun _ _ _ _ _ _ us hl => match us, hl with | [_], _ => rfl⟩
theorem dLawIsRow_k : Pv.Kept (G.upto 35) dLawIsRow_D dLawIsRow dLawIsRow_N 2 := ⟨dLawIsRow_ok, rfl, rfl, fun _ _ _ _ _ _ us hl => match us, hl with | [_, _, _], _ => rfl⟩
theorem dLawJudged_k : Pv.Kept (G.upto 36) dLawJudged_D dLawJudged dLawJudged_N 4 := ⟨dLawJudged_ok, rfl, rfl, fun _ _ _ _ _ _ us hl => match us, hl with | [_], _ => rfl⟩
theorem dLawOdd_k : Pv.Kept (G.upto 37) dLawOdd_D dLawOdd dLawOdd_N 4 := ⟨dLawOdd_ok, rfl, rfl, fun _ _ _ _ _ _ us hl => match us, hl with | [_], _ => rfl⟩
theorem dLawBent_k : Pv.Kept (G.upto 38) dLawBent_D dLawBent dLawBent_N 6 := ⟨dLawBent_ok, rfl, rfl, fun _ _ _ _ _ _ us hl => match us, hl with | [_, _], _ => rfl⟩
theorem dLawWords_k : Pv.Kept (G.upto 39) dLawWords_D dLawWords dLawWords_N 0 := ⟨dLawWords_ok, rfl, rfl, fun _ _ _ _ _ _ us hl => match us, hl with | [_, _], _ => rfl⟩
theorem dLawLeast_k : Pv.Kept (G.upto 40) dLawLeast_D dLawLeast dLawLeast_N 0 := ⟨dLawLeast_ok, rfl, rfl, fun _ _ _ _ _ _ us hl => match us, hl with | [_], _ => rfl⟩
theorem dLawAllWords_k : Pv.Kept (G.upto 41) dLawAllWords_D dLawAllWords dLawAllWords_N 0 := ⟨dLawAllWords_ok, rfl, rfl, fun _ _ _ _ _ _ us hl => match us, hl with | [_, _], _ => rfl⟩
theorem dLawShortestRight_k : Pv.Kept (G.upto 42) dLawShortestRight_D dLawShortestRight dLawShortestRight_N 20 := ⟨dLawShortestRight_ok, rfl, rfl, fun _ _ _ _ _ _ us hl => match us, hl with | [_, _, _, _], _ => rfl⟩
theorem dLaw_k : Pv.Kept (G.upto 43) dLaw_D dLaw dLaw_N 22 := ⟨dLaw_ok, rfl, rfl, fun _ _ _ _ _ _ us hl => match us, hl with | [_], _ => rfl⟩
def clsL : List Str := ["Chart"]
section
variable {P : Program} {w : World} {K : PySem.W.Frag} {mg : Str → Option Value} {base h : Heap}
theorem ent (X : K.In h) (Gn : h.Ns mainGlobals mg) (c : He.SaysD faL fnL K) (n : Nat) (e : Pv.Ent) (hn : tab[n]? = some e) (g : Pv.GbOk P w K mg base (Pv.caOf K clsL) (Pv.denT fnT n) (G.upto n)) : Pv.EntOk P w K mg base (Pv.caOf K clsL) e (Pv.denF (Pv.denT fnT n) (fnT.getD n ⟨false, 0, 0, []⟩)) := by
  match n, hn, g with
  | 0, hn, g =>
    cases hn
    obtain ⟨fd, F⟩ := c.def_ 0 (d := dIsInteger_D) rfl
    exact Pv.ent_fn dIsInteger_k F (He.glo_ok X Gn (c.fact 0 (f := .glo "is_integer") rfl)) g
  | 1, hn, g =>
    cases hn
    obtain ⟨fd, F⟩ := c.def_ 1 (d := dIsFrom_D) rfl
    exact Pv.ent_fn dIsFrom_k F (He.glo_ok X Gn (c.fact 1 (f := .glo "is_from") rfl)) g
  | 2, hn, g =>
    cases hn
    obtain ⟨fd, F⟩ := c.def_ 2 (d := dIsBetween_D) rfl
    exact Pv.ent_fn dIsBetween_k F (He.glo_ok X Gn (c.fact 2 (f := .glo "is_between") rfl)) g
  | 3, hn, g =>
    cases hn
    obtain ⟨fd, F⟩ := c.def_ 3 (d := dIsIndexOf_D) rfl
    exact Pv.ent_fn dIsIndexOf_k F (He.glo_ok X Gn (c.fact 3 (f := .glo "is_index_of") rfl)) g
  | 4, hn, g =>
    cases hn
    obtain ⟨fd, F⟩ := c.def_ 4 (d := dIsAscending_D) rfl
    exact Pv.ent_fn dIsAscending_k F (He.glo_ok X Gn (c.fact 4 (f := .glo "is_ascending") rfl)) g
  | 5, hn, g =>
    cases hn
    obtain ⟨fd, F⟩ := c.def_ 5 (d := dIsWord_D) rfl
    exact Pv.ent_fn dIsWord_k F (He.glo_ok X Gn (c.fact 5 (f := .glo "is_word") rfl)) g
  | 6, hn, g =>
    cases hn
    obtain ⟨fd, F⟩ := c.def_ 6 (d := dCheckNumber_D) rfl
    exact Pv.ent_fn dCheckNumber_k F (He.glo_ok X Gn (c.fact 6 (f := .glo "check_number") rfl)) g
  | 7, hn, g =>
    cases hn
    obtain ⟨fd, F⟩ := c.def_ 7 (d := dCheckIndex_D) rfl
    exact Pv.ent_fn dCheckIndex_k F (He.glo_ok X Gn (c.fact 7 (f := .glo "check_index") rfl)) g
  | 8, hn, g =>
    cases hn
    obtain ⟨fd, F⟩ := c.def_ 8 (d := dChartChildren_D) rfl
    exact Pv.ent_meth dChartChildren_k F (Pv.caOf_at (by decide +kernel)) (He.cls_ok (c.fact 58 (f := .cls "Chart") rfl)) (He.meth_ok (c.fact 63 (f := .meth "Chart" "children") rfl)) g
  | 9, hn, g =>
    cases hn
    obtain ⟨fd, F⟩ := c.def_ 9 (d := dChartFill_D) rfl
    exact Pv.ent_meth dChartFill_k F (Pv.caOf_at (by decide +kernel)) (He.cls_ok (c.fact 58 (f := .cls "Chart") rfl)) (He.meth_ok (c.fact 62 (f := .meth "Chart" "fill") rfl)) g
  | 10, hn, g =>
    cases hn
    obtain ⟨fd, F⟩ := c.def_ 10 (d := dChartInit_D) rfl
    exact Pv.ent_init dChartInit_k F (Pv.caOf_at (by decide +kernel)) (He.mkr_ok (c.fact 61 (f := .mkr "Chart") rfl)) (He.glo_ok X Gn (c.fact 39 (f := .glo "Chart") rfl)) g
  | 11, hn, g =>
    cases hn
    obtain ⟨fd, F⟩ := c.def_ 11 (d := dIsGrammarRule_D) rfl
    exact Pv.ent_fn dIsGrammarRule_k F (He.glo_ok X Gn (c.fact 8 (f := .glo "is_grammar_rule") rfl)) g
  | 12, hn, g =>
    cases hn
    obtain ⟨fd, F⟩ := c.def_ 12 (d := dIsGrammarForm_D) rfl
    exact Pv.ent_fn dIsGrammarForm_k F (He.glo_ok X Gn (c.fact 9 (f := .glo "is_grammar_form") rfl)) g
  | 13, hn, g =>
    cases hn
    obtain ⟨fd, F⟩ := c.def_ 13 (d := dIsEnd_D) rfl
    exact Pv.ent_fn dIsEnd_k F (He.glo_ok X Gn (c.fact 10 (f := .glo "is_end") rfl)) g
  | 14, hn, g =>
    cases hn
    obtain ⟨fd, F⟩ := c.def_ 14 (d := dCheckGrammar_D) rfl
    exact Pv.ent_fn dCheckGrammar_k F (He.glo_ok X Gn (c.fact 11 (f := .glo "check_grammar") rfl)) g
  | 15, hn, g =>
    cases hn
    obtain ⟨fd, F⟩ := c.def_ 15 (d := dCheckNamed_D) rfl
    exact Pv.ent_fn dCheckNamed_k F (He.glo_ok X Gn (c.fact 12 (f := .glo "check_named") rfl)) g
  | 16, hn, g =>
    cases hn
    obtain ⟨fd, F⟩ := c.def_ 16 (d := dCheckSpelled_D) rfl
    exact Pv.ent_fn dCheckSpelled_k F (He.glo_ok X Gn (c.fact 13 (f := .glo "check_spelled") rfl)) g
  | 17, hn, g =>
    cases hn
    obtain ⟨fd, F⟩ := c.def_ 17 (d := dTreeOf_D) rfl
    exact Pv.ent_fn dTreeOf_k F (He.glo_ok X Gn (c.fact 14 (f := .glo "tree_of") rfl)) g
  | 18, hn, g =>
    cases hn
    obtain ⟨fd, F⟩ := c.def_ 18 (d := dPutInPlace_D) rfl
    exact Pv.ent_fn dPutInPlace_k F (He.glo_ok X Gn (c.fact 15 (f := .glo "put_in_place") rfl)) g
  | 19, hn, g =>
    cases hn
    obtain ⟨fd, F⟩ := c.def_ 19 (d := dFirstWords_D) rfl
    exact Pv.ent_fn dFirstWords_k F (He.glo_ok X Gn (c.fact 16 (f := .glo "first_words") rfl)) g
  | 20, hn, g =>
    cases hn
    obtain ⟨fd, F⟩ := c.def_ 20 (d := dUnitsOf_D) rfl
    exact Pv.ent_fn dUnitsOf_k F (He.glo_ok X Gn (c.fact 17 (f := .glo "units_of") rfl)) g
  | 21, hn, g =>
    cases hn
    obtain ⟨fd, F⟩ := c.def_ 21 (d := dPartedWords_D) rfl
    exact Pv.ent_fn dPartedWords_k F (He.glo_ok X Gn (c.fact 18 (f := .glo "parted_words") rfl)) g
  | 22, hn, g =>
    cases hn
    obtain ⟨fd, F⟩ := c.def_ 22 (d := dWordsByLength_D) rfl
    exact Pv.ent_fn dWordsByLength_k F (He.glo_ok X Gn (c.fact 19 (f := .glo "words_by_length") rfl)) g
  | 23, hn, g =>
    cases hn
    obtain ⟨fd, F⟩ := c.def_ 23 (d := dIsGrammar_D) rfl
    exact Pv.ent_fn dIsGrammar_k F (He.glo_ok X Gn (c.fact 20 (f := .glo "is_grammar") rfl)) g
  | 24, hn, g =>
    cases hn
    obtain ⟨fd, F⟩ := c.def_ 24 (d := dIsOf_D) rfl
    exact Pv.ent_fn dIsOf_k F (He.glo_ok X Gn (c.fact 21 (f := .glo "is_of") rfl)) g
  | 25, hn, g =>
    cases hn
    obtain ⟨fd, F⟩ := c.def_ 25 (d := dShortest_D) rfl
    exact Pv.ent_fn dShortest_k F (He.glo_ok X Gn (c.fact 22 (f := .glo "shortest") rfl)) g
  | 26, hn, g =>
    cases hn
    obtain ⟨fd, F⟩ := c.def_ 26 (d := dCountWords_D) rfl
    exact Pv.ent_fn dCountWords_k F (He.glo_ok X Gn (c.fact 23 (f := .glo "count_words") rfl)) g
  | 27, hn, g =>
    cases hn
    obtain ⟨fd, F⟩ := c.def_ 27 (d := dLawBag_D) rfl
    exact Pv.ent_fn dLawBag_k F (He.glo_ok X Gn (c.fact 24 (f := .glo "_law_bag") rfl)) g
  | 28, hn, g =>
    cases hn
    obtain ⟨fd, F⟩ := c.def_ 28 (d := dLawDraw_D) rfl
    exact Pv.ent_fn dLawDraw_k F (He.glo_ok X Gn (c.fact 25 (f := .glo "_law_draw") rfl)) g
  | 29, hn, g =>
    cases hn
    obtain ⟨fd, F⟩ := c.def_ 29 (d := dLawOne_D) rfl
    exact Pv.ent_fn dLawOne_k F (He.glo_ok X Gn (c.fact 26 (f := .glo "_law_one") rfl)) g
  | 30, hn, g =>
    cases hn
    obtain ⟨fd, F⟩ := c.def_ 30 (d := dLawSame0_D) rfl
    exact Pv.ent_fn dLawSame0_k F (He.glo_ok X Gn (c.fact 27 (f := .glo "_law_same") rfl)) g
  | 31, hn, g =>
    cases hn
    obtain ⟨fd, F⟩ := c.def_ 30 (d := dLawSame0_D) rfl
    exact Pv.ent_fn dLawSame1_k F (He.glo_ok X Gn (c.fact 27 (f := .glo "_law_same") rfl)) g
  | 32, hn, g =>
    cases hn
    obtain ⟨fd, F⟩ := c.def_ 30 (d := dLawSame0_D) rfl
    exact Pv.ent_fn dLawSame2_k F (He.glo_ok X Gn (c.fact 27 (f := .glo "_law_same") rfl)) g
  | 33, hn, g =>
    cases hn
    obtain ⟨fd, F⟩ := c.def_ 31 (d := dLawGrammar_D) rfl
    exact Pv.ent_fn dLawGrammar_k F (He.glo_ok X Gn (c.fact 28 (f := .glo "_law_grammar") rfl)) g
  | 34, hn, g =>
    cases hn
    obtain ⟨fd, F⟩ := c.def_ 32 (d := dLawIsInt_D) rfl
    exact Pv.ent_fn dLawIsInt_k F (He.glo_ok X Gn (c.fact 29 (f := .glo "_law_is_int") rfl)) g
  | 35, hn, g =>
    cases hn
    obtain ⟨fd, F⟩ := c.def_ 33 (d := dLawIsRow_D) rfl
    exact Pv.ent_fn dLawIsRow_k F (He.glo_ok X Gn (c.fact 30 (f := .glo "_law_is_row") rfl)) g
  | 36, hn, g =>
    cases hn
    obtain ⟨fd, F⟩ := c.def_ 34 (d := dLawJudged_D) rfl
    exact Pv.ent_fn dLawJudged_k F (He.glo_ok X Gn (c.fact 31 (f := .glo "_law_judged") rfl)) g
  | 37, hn, g =>
    cases hn
    obtain ⟨fd, F⟩ := c.def_ 35 (d := dLawOdd_D) rfl
    exact Pv.ent_fn dLawOdd_k F (He.glo_ok X Gn (c.fact 32 (f := .glo "_law_odd") rfl)) g
  | 38, hn, g =>
    cases hn
    obtain ⟨fd, F⟩ := c.def_ 36 (d := dLawBent_D) rfl
    exact Pv.ent_fn dLawBent_k F (He.glo_ok X Gn (c.fact 33 (f := .glo "_law_bent") rfl)) g
  | 39, hn, g =>
    cases hn
    obtain ⟨fd, F⟩ := c.def_ 37 (d := dLawWords_D) rfl
    exact Pv.ent_fn dLawWords_k F (He.glo_ok X Gn (c.fact 34 (f := .glo "_law_words") rfl)) g
  | 40, hn, g =>
    cases hn
    obtain ⟨fd, F⟩ := c.def_ 38 (d := dLawLeast_D) rfl
    exact Pv.ent_fn dLawLeast_k F (He.glo_ok X Gn (c.fact 35 (f := .glo "_law_least") rfl)) g
  | 41, hn, g =>
    cases hn
    obtain ⟨fd, F⟩ := c.def_ 39 (d := dLawAllWords_D) rfl
    exact Pv.ent_fn dLawAllWords_k F (He.glo_ok X Gn (c.fact 36 (f := .glo "_law_all_words") rfl)) g
  | 42, hn, g =>
    cases hn
    obtain ⟨fd, F⟩ := c.def_ 40 (d := dLawShortestRight_D) rfl
    exact Pv.ent_fn dLawShortestRight_k F (He.glo_ok X Gn (c.fact 37 (f := .glo "_law_shortest_right") rfl)) g
  | 43, hn, g =>
    cases hn
    obtain ⟨fd, F⟩ := c.def_ 41 (d := dLaw_D) rfl
    exact Pv.ent_fn dLaw_k F (He.glo_ok X Gn (c.fact 38 (f := .glo "law") rfl)) g
  | n + 44, hn, g => exact absurd hn (by simp [tab])
theorem glob (X : K.In h) (Gn : h.Ns mainGlobals mg) (c : He.SaysD faL fnL K) : ∀ n, Pv.GbOk P w K mg base (Pv.caOf K clsL) (Pv.denT fnT n) (G.upto n) := by
  refine Pv.gb_all (fun x hx => ?_) (fun p hp => ?_) (fun c' C hC => ?_) (ent X Gn c)
  · simp only [G, List.mem_cons, List.not_mem_nil, or_false] at hx
    rcases hx with rfl | rfl | rfl | rfl | rfl | rfl | rfl | rfl | rfl | rfl | rfl | rfl | rfl | rfl | rfl | rfl
    · exact He.free_ok X Gn (c.fact 40 (f := .free "abs") rfl)
    · exact He.free_ok X Gn (c.fact 41 (f := .free "all") rfl)
    · exact He.free_ok X Gn (c.fact 42 (f := .free "bool") rfl)
    · exact He.free_ok X Gn (c.fact 43 (f := .free "enumerate") rfl)
    · exact He.free_ok X Gn (c.fact 44 (f := .free "int") rfl)
    · exact He.free_ok X Gn (c.fact 45 (f := .free "isinstance") rfl)
    · exact He.free_ok X Gn (c.fact 46 (f := .free "len") rfl)
    · exact He.free_ok X Gn (c.fact 47 (f := .free "list") rfl)
    · exact He.free_ok X Gn (c.fact 48 (f := .free "max") rfl)
    · exact He.free_ok X Gn (c.fact 49 (f := .free "min") rfl)
    · exact He.free_ok X Gn (c.fact 50 (f := .free "range") rfl)
    · exact He.free_ok X Gn (c.fact 51 (f := .free "sorted") rfl)
    · exact He.free_ok X Gn (c.fact 52 (f := .free "str") rfl)
    · exact He.free_ok X Gn (c.fact 53 (f := .free "sum") rfl)
    · exact He.free_ok X Gn (c.fact 54 (f := .free "tuple") rfl)
    · exact He.free_ok X Gn (c.fact 55 (f := .free "zip") rfl)
  · simp only [G, List.mem_cons, List.not_mem_nil, or_false] at hp
    rcases hp with rfl | rfl
    · exact Pv.cons_int (He.int_ok X Gn (c.fact 57 (f := .int "MOST_COUNTED" 8) rfl))
    · exact Pv.cons_int (He.int_ok X Gn (c.fact 56 (f := .int "MOST_OF_A_WORD" 2) rfl))
  · unfold Pv.caOf at hC
    split at hC <;> try contradiction
    rename_i hin
    cases hC
    simp only [clsL, List.contains_eq_mem, List.mem_cons, List.not_mem_nil, or_false, decide_eq_true_eq] at hin
    rcases hin with rfl
    · refine ⟨He.cls_ok (c.fact 58 (f := .cls "Chart") rfl), fun f hf => ?_⟩
      simp only [G, Pv.Gb.upto, List.mem_cons, List.not_mem_nil, or_false] at hf
      rcases hf with rfl | rfl
      · exact He.noat_ok (c.fact 59 (f := .noat "Chart" "rows") rfl)
      · exact He.noat_ok (c.fact 60 (f := .noat "Chart" "rules") rfl)
theorem facts {f : Addr} (X : K.In h) (Gn : h.Ns mainGlobals mg) (hfa : mg ("law" : Str) = some (.ref f)) (c : He.SaysD faL fnL K) :
    ∃ fd : FuncData, (∀ (s : Shared) (v : Value), BindsTo s fd ⟨[v], []⟩ [("script", v)]) ∧ ∀ base : Heap, K.In base → base.Ns mainGlobals mg → FnOk P w K mg base CX0 24 f fd ["script"] (Pv.SpOf K w (Pv.caOf K clsL) (Pv.denF (Pv.denT fnT 43) dLaw)) := by
  obtain ⟨fd, F⟩ := c.def_ 41 (d := dLaw_D) rfl
  have e := hfa.symm.trans (He.glo_ok X Gn (c.fact 38 (f := .glo "law") rfl))
  cases e
  have b := FunD.bindsA (ps := ["script"]) F fun _ _ _ _ _ _ us hl => match us, hl with | [_], _ => rfl
  exact ⟨fd, fun s v => b s [v] rfl, fun base _ _ => dLaw_k.fnOk F (glob X Gn c 43)⟩
end
end K89
open PySem PySem.W PySem.Calls PyProof.Rows
theorem K89.holds_of (hlaw : ∀ ns : List Int, ns.length ≤ 63 → ∃ st', Pv.denF (Pv.denT K89.fnT 43) K89.dLaw [.fz (ns.map .int)] [] = some (.bl true, st')) : PySem.Challenge.rw_everystack_k89_grammars_by_trying.Holds := by
  w_on; o_law
  refine HandSHeadRun.head_any (r := OpenLaw.row PySem.Challenge.rw_everystack_k89_grammars_by_trying) (q := view (OpenLaw.row PySem.Challenge.rw_everystack_k89_grammars_by_trying).prog [49]) (H := K89.hk) (ob := K89.obL) (M := 4000) (loose := K89.looseL) (d := HandSHeadRun.topDef (OpenLaw.row PySem.Challenge.rw_everystack_k89_grammars_by_trying).prog 49) (kwd := []) K89.obL_eq
    (by kernel_rfl) (fun s => by kernel_rfl) K89.runL (by kernel_rfl) (by kernel_rfl) (by kernel_rfl) (by rfl) (by first | assumption | decide +kernel) (by decide +kernel) ⟨rfl, rfl, rfl, rfl, rfl, by decide +kernel⟩ ?hw ?hc
  case hw => w_witness2
  case hc =>
    refine L2.walk_ofE (l := PySem.Challenge.rw_everystack_k89_grammars_by_trying) (n := 63) (k := 24) (x := "script") (CX := L2.CX0) rfl (by decide) (by kernel_rfl) ⟨rfl, by decide, by decide⟩ ?F (fun _ _ _ _ z => z)
    intro w mg fa h Y Gn hmg0
    obtain ⟨K, KX, c⟩ := Y
    have hmg : mg ("law" : PySem.Str) = some (.ref fa) := by
      have e : (HandSHeadRun.topDef (OpenLaw.row PySem.Challenge.rw_everystack_k89_grammars_by_trying).prog 49).name = ("law" : PySem.Str) := by kernel_rfl
      rw [← e]
      exact hmg0
    obtain ⟨fd, hb, hF⟩ := K89.facts (P := (PySem.Challenge.rw_everystack_k89_grammars_by_trying).prog) (w := w) KX Gn hmg c
    exact ⟨K, fd, _, KX, hb, fun H a ns hl _ hS => Pv.law_sp hS (hlaw ns hl), hF⟩
end
set_option Elab.async false
set_option maxRecDepth 100000
set_option maxHeartbeats 4000000
open PySem PySem.W PyProof.Rows
theorem PySem.Challenge.cw_everystack_k89_grammars_by_trying_holds : PySem.Challenge.rw_everystack_k89_grammars_by_trying.Holds := by
  exact K89.holds_of fun ns h => K89.law_true h
