import PyProof.Rows.All
import PySem.Syntax
import KE.KDictKeyed
import HandS.ForMost
import HandS.Exc
import HandS.HeadHook2
import HandS.ExcInit
import HandS.ExcField
import HandS.Head0
import HandS.Head1
import HandS.Head2
import HandS.HeadEnd
import KE.DataEq
import KE.DataCmp
import KE.SortData
import HandS.TupAny
import HandS.TupMul
import HandS.Flow
import HandS.Star
import KE.SortCalls
import HandS.Conv
import HandS.TupLen
import HandS.WordsDict
import HandS.IsInst
import PyProof.SeqIndex
import KE.GoesMore
import PyProof.EnumMake
import HandS.Iter
import HandS.Zip
import HandS.NoneIn
import HandS.Comp
import HandS.DictComp
import PyProof.DictTable
import HandS.Style
import KE.KExcSuper
import KE.KSuper
import HandS.TryMany
import HandS.Defaults
import HandS.Dict
import HandS.Words
import HandS.Small
import PySem.Challenge.RW_floorpowers_k33_powers_by_hand
section
set_option Elab.async false
set_option linter.all false
/-! The evaluator: a Python fragment over pure data, by fuel. -/
namespace Fp
open PySem

inductive D where
  | non | bl (b : Bool) | int (i : Int) | str (x : Str) | tup (xs : List D) | lst (xs : List D) | dic (ks vs : List D)
  | fn (f : Nat) | exc (c : Nat) (fs : List D) | tok | scr (ns : List Int)
  deriving Inhabited

/-- a slot: nothing known; a value that is shared; a list or dict that no one else holds; an error that is handled -/
inductive Sl where
  | un | sh (d : D) | ow (d : D) | xc (c : Nat) (fs : List D)
  deriving Inhabited

/-- the drawing state -/
structure Gs where
  cells : List Int
  great : List Int
  spot : Int

inductive Rs (α : Type) where
  | ok (a : α) (g : Gs)
  | ex (c : Nat) (fs : List D) (g : Gs)
  | no
  deriving Inhabited

inductive Bi where
  | len | sum | tuple | list | sorted | int | any | all | min | max | repr | abs | dict | str
  deriving DecidableEq, Inhabited

inductive Me where
  | get | index | count
  deriving DecidableEq, Inhabited

/-- built-in types, own classes -/
inductive Ty where
  | int | bool | str | tuple | list | dict | own (c : Nat)
  deriving DecidableEq, Inhabited

inductive Tg where
  | nm (i : Nat) (x : Str) (p : Pos)
  | tp (ts : List Tg) (k : Nat) (p : Pos)
  deriving Inhabited

mutual
inductive Xp where
  | v (i : Nat) (x : Str) (p : Pos)
  | pk (i : Nat) (x : Str) (p : Pos)
  | c (k : Const) (j : Nat) (p : Pos)
  | gc (j : Nat) (x : Str) (p : Pos)
  | gf (f : Nat) (x : Str) (p : Pos)
  | tup (es : List Xp) (k : Nat) (p : Pos)
  | lst (es : List Xp) (p : Pos)
  | star (e : Xp) (p : Pos)
  | dis (ks vs : List Xp) (p : Pos)
  | bin (a : Xp) (op : Operator) (b : Xp) (p : Pos)
  | neg (a : Xp) (p : Pos)
  | not (a : Xp) (p : Pos)
  | and (es : List Xp) (p : Pos)
  | or (es : List Xp) (p : Pos)
  | cmp (a : Xp) (op : CmpOp) (b : Xp) (p : Pos)
  | chain (a : Xp) (op : CmpOp) (b : Xp) (op' : CmpOp) (c : Xp) (p : Pos)
  | ife (t a b : Xp) (p : Pos)
  | sub (a i : Xp) (p : Pos)
  | slc (a : Xp) (lo hi : Option Xp) (q p : Pos)
  | call (f : Nat) (x : Str) (es : List Xp) (q p : Pos)
  | callV (i : Nat) (x : Str) (es : List Xp) (q p : Pos)
  | bi (b : Bi) (x : Str) (es : List Xp) (q p : Pos)
  | lrng (x y : Str) (es : List Xp) (q1 q2 q p : Pos)
  | isi (a : Xp) (ts : List (Ty × Str × Pos)) (tp : Option (Nat × Pos)) (q p : Pos)
  | meth (m : Me) (x : Str) (a : Xp) (es : List Xp) (q p : Pos)
  | lc (e : Xp) (tg : Tg) (it : Src) (ifs : List Xp) (own : List (Str × Nat)) (sc : Scope) (p : Pos)
  | dc (k e : Xp) (tg : Tg) (it : Src) (ifs : List Xp) (own : List (Str × Nat)) (sc : Scope) (p : Pos)
  | att (i : Nat) (x : Str) (j : Nat) (f : Str) (q p : Pos)
inductive Src where
  | src (e : Xp)
  | rng (x : Str) (es : List Xp) (q p : Pos)
  | enum (x : Str) (e : Xp) (q p : Pos)
  | zip (x : Str) (a b : Xp) (q p : Pos)
end
instance : Inhabited Xp := ⟨.lst [] ⟨0, 0, 0, 0⟩⟩
instance : Inhabited Src := ⟨.src (.lst [] ⟨0, 0, 0, 0⟩)⟩

mutual
inductive Sm where
  | asg (m : Bool) (i : Nat) (x : Str) (e : Xp) (q p : Pos)
  | asgT (ms : List Bool) (ts : List Tg) (es : List Xp) (k k' : Nat) (q q' p : Pos)
  | unp (ts : List Tg) (e : Xp) (k : Nat) (q p : Pos)
  | setI (i : Nat) (x : Str) (k e : Xp) (q1 q p : Pos)
  | app (i : Nat) (x : Str) (e : Xp) (q1 q2 q p : Pos)
  | ext (i : Nat) (x : Str) (e : Xp) (q1 q2 q p : Pos)
  | expr (e : Xp) (p : Pos)
  | ret (e : Xp) (p : Pos)
  | retN (p : Pos)
  | iff (t : Xp) (a b : List Sm) (p : Pos)
  | for (tg : Tg) (it : Src) (b : List Sm) (p : Pos)
  | whl (t : Xp) (b : List Sm) (p : Pos)
  | rai (c : Nat) (x : Str) (es : List Xp) (q1 q p : Pos)
  | try (k : Bool) (b : List Sm) (hs : List Hd) (p : Pos)
  | pas (p : Pos) | brk (p : Pos) | cnt (p : Pos)
  | frz (i : Nat)
inductive Hd where
  | mk (cs : List (Nat × Str × Pos)) (tp : Option (Nat × Pos)) (n : Option (Nat × Str)) (b : List Sm) (p : Pos)
end
instance : Inhabited Sm := ⟨.frz 0⟩

/-- flow of control -/
inductive Flw where
  | next (ρ : List Sl) | ret (d : D) | brk (ρ : List Sl) | cnt (ρ : List Sl)
  deriving Inhabited

structure Fd where
  np : Nat
  n : Nat
  body : List Sm
  prim : Nat := 0
  deriving Inhabited

inductive Tre (α : Type) where
  | nil | node (l : Tre α) (v : α) (r : Tre α)
def Tre.get {α : Type} : Nat → Tre α → Nat → Option α
  | 0, _, _ => none
  | _ + 1, .nil, _ => none
  | m + 1, .node l v r, n => match Nat.beq n 0 with
    | true => some v
    | false => match Nat.beq (n % 2) 1 with
      | true => Tre.get m l (n / 2)
      | false => Tre.get m r (n / 2 - 1)

/-- a class of the program's errors: the number of the class above, how many fields -/
structure Tab where
  fns : Tre (Option Fd)
  sup : List (Option Nat)
  flds : List (List Nat)
  cons : List D
  nf : Nat
def posN (k : Nat) : Nat → List Nat → Option Nat
  | _, [] => none
  | i, j :: r => match Nat.beq j k with
    | true => some i
    | false => posN k (i + 1) r

def Tab.under (T : Tab) : Nat → Nat → Nat → Bool
  | 0, _, _ => false
  | m + 1, c, h => match Nat.beq c h with
    | true => true
    | false => match T.sup[c]? with
      | some (some s) => T.under m s h
      | _ => false

/-! ### data -/
def strEq : List Nat → List Nat → Bool
  | [], [] => true
  | a :: r, b :: s => (match Nat.beq a b with | true => strEq r s | false => false)
  | _, _ => false
def strLt : List Nat → List Nat → Bool
  | [], [] => false
  | [], _ :: _ => true
  | _ :: _, [] => false
  | a :: r, b :: s => (match Nat.beq a b with | true => strLt r s | false => Nat.blt a b)
def intEq : Int → Int → Bool
  | .ofNat a, .ofNat b => Nat.beq a b
  | .negSucc a, .negSucc b => Nat.beq a b
  | _, _ => false
def intLe : Int → Int → Bool
  | .ofNat a, .ofNat b => Nat.ble a b
  | .negSucc a, .negSucc b => Nat.ble b a
  | .negSucc _, .ofNat _ => true
  | .ofNat _, .negSucc _ => false
def b2i : Bool → Int
  | true => 1
  | false => 0
def beqB : Bool → Bool → Bool
  | true, b => b
  | false, true => false
  | false, false => true

mutual
def D.eqb : D → D → Bool
  | .non, y => (match y with | .non => true | _ => false)
  | .bl a, y => (match y with | .bl b => beqB a b | .int j => intEq (b2i a) j | _ => false)
  | .int i, y => (match y with | .int j => intEq i j | .bl b => intEq i (b2i b) | _ => false)
  | .str x, y => (match y with | .str z => strEq x.cps.toList z.cps.toList | _ => false)
  | .tup xs, y => (match y with | .tup ys => D.eqbs xs ys | _ => false)
  | .lst xs, y => (match y with | .lst ys => D.eqbs xs ys | _ => false)
  | _, _ => false
def D.eqbs : List D → List D → Bool
  | [], [] => true
  | x :: xs, y :: ys => (match D.eqb x y with | true => D.eqbs xs ys | false => false)
  | _, _ => false
end

mutual
/-- a < b where it is told; none: not of the same kind -/
def D.ltb : D → D → Option Bool
  | .int i, y => (match y with | .int j => some (match intLe j i with | true => false | false => true) | _ => none)
  | .str x, y => (match y with | .str z => some (strLt x.cps.toList z.cps.toList) | _ => none)
  | .tup xs, y => (match y with | .tup ys => D.ltbs xs ys | _ => none)
  | _, _ => none
def D.ltbs : List D → List D → Option Bool
  | [], [] => some false
  | [], _ :: _ => some true
  | _ :: _, [] => some false
  | x :: xs, y :: ys => (match D.eqb x y with | true => D.ltbs xs ys | false => D.ltb x y)
end

mutual
/-- data that == compares as a whole: no dicts, defs, errors; not deeper than n -/
def D.dp : D → Nat → Bool
  | .non, _ => true
  | .bl _, _ => true
  | .int _, _ => true
  | .str _, _ => true
  | .tup xs, n => (match n with | 0 => false | n + 1 => D.dps xs n)
  | .lst xs, n => (match n with | 0 => false | n + 1 => D.dps xs n)
  | _, _ => false
def D.dps : List D → Nat → Bool
  | [], _ => true
  | x :: xs, n => (match D.dp x n with | true => D.dps xs n | false => false)
end
mutual
def noLst : D → Bool
  | .lst _ => false
  | .tup xs => noLsts xs
  | _ => true
def noLsts : List D → Bool
  | [] => true
  | x :: xs => (match noLst x with | true => noLsts xs | false => false)
end
def fits (n : Nat) : Bool := Nat.ble n 16777000
def wee (i : Int) : Bool := Nat.blt i.natAbs 18446744073709551616

def inD (x : D) : List D → Bool
  | [] => false
  | y :: r => (match D.eqb y x with | true => true | false => inD x r)
def look (k : D) : List D → List D → Option D
  | y :: ks, v :: vs => (match D.eqb y k with | true => some v | false => look k ks vs)
  | _, _ => none
def putV (k v : D) : List D → List D → List D
  | y :: ks, w :: vs => (match D.eqb y k with | true => v :: vs | false => w :: putV k v ks vs)
  | [], vs => vs ++ [v]
  | _, [] => []
def putK (k : D) (ks : List D) : List D := match inD k ks with
  | true => ks
  | false => ks ++ [k]
def idx (x : D) : Nat → List D → Option Nat
  | _, [] => none
  | n, y :: r => (match D.eqb y x with | true => some n | false => idx x (n + 1) r)

/-- sorting by insertion: stable; none where two things can't be compared -/
def ins (x : D) : List D → Option (List D)
  | [] => some [x]
  | y :: r => match D.ltb x y with
    | some true => some (x :: y :: r)
    | some false => (match ins x r with | some r' => some (y :: r') | none => none)
    | none => none
def sortRev : List D → Option (List D) → Option (List D)
  | [], a => a
  | x :: r, a => match a with
    | some a => sortRev r (ins x a)
    | none => none
mutual
/-- data that are the same if they are equal -/
def D.pd : D → Nat → Bool
  | .non, _ => true
  | .int _, _ => true
  | .str _, _ => true
  | .tup xs, n => (match n with | 0 => false | n + 1 => D.pds xs n)
  | _, _ => false
def D.pds : List D → Nat → Bool
  | [], _ => true
  | x :: xs, n => (match D.pd x n with | true => D.pds xs n | false => false)
end
def allInt : List D → Bool
  | [] => true
  | .int _ :: r => allInt r
  | _ => false
def allStr : List D → Bool
  | [] => true
  | .str _ :: r => allStr r
  | _ => false
def allTups : List D → Bool
  | [] => true
  | .tup _ :: r => allTups r
  | _ => false
def sort (xs : List D) : Option (List D) := match D.pds xs 40 && (allInt xs || (allStr xs || allTups xs)) with
  | true => sortRev xs (some [])
  | false => none

def truth : D → Option Bool
  | .non => some false
  | .bl b => some b
  | .int i => some (match intEq i 0 with | true => false | false => true)
  | .tup xs => some (match xs with | [] => false | _ => true)
  | .lst xs => some (match xs with | [] => false | _ => true)
  | _ => none

def cOf : Const → Option D
  | .none => some .non
  | .bool b => some (.bl b)
  | .int i => some (.int i)
  | .str x => some (.str x)
  | _ => none

def powN (b : Int) : Nat → Int
  | 0 => 1
  | n + 1 => b * powN b n
def bop : Operator → D → D → Option D
  | .Add, .int a, .int b => some (.int (a + b))
  | .Add, .lst a, .lst b => (match fits (a.length + b.length) with | true => some (.lst (a ++ b)) | false => none)
  | .Add, .tup a, .tup b => (match fits (a.length + b.length) with | true => some (.tup (a ++ b)) | false => none)
  | .Sub, .int a, .int b => some (.int (a - b))
  | .Mult, .int a, .int b => (match wee a || wee b with | true => some (.int (a * b)) | false => none)
  | .Mult, .tup a, .int b => (match intLe 2 b && (intLe b 1000 && (Nat.ble a.length 1000 && Nat.blt 0 a.length)) with | true => some (.tup ((List.replicate b.toNat a).flatten)) | false => none)
  | .Mod, .int a, .int b => (match intLe b 0 with | true => none | false => some (.int (a % b)))
  | .FloorDiv, .int a, .int b => (match intLe b 0 || intLe 1073741824 b with | true => none | false => some (.int (a / b)))
  | .Pow, .int a, .int b => (match intLe 0 b && (intLe b 1000 && wee a) with | true => some (.int (a ^ b.toNat)) | false => none)
  | .LShift, .int a, .int b => (match intLe 0 b && (intLe b 1000 && wee a) with | true => some (.int (a * 2 ^ b.toNat)) | false => none)
  | .RShift, .int a, .int b => (match intLe 0 b with | true => some (.int (a / 2 ^ b.toNat)) | false => none)
  | .BitAnd, .int (.ofNat a), .int (.ofNat b) => some (.int (.ofNat (Nat.land a b)))
  | _, _, _ => none

def negO : Option Bool → Option Bool
  | some k => some (match k with | true => false | false => true)
  | none => none
def eqO (a b : D) : Option Bool := match D.dp a 40 && D.dp b 40 with
  | true => some (D.eqb a b)
  | false => none
def ltO (a b : D) : Option Bool := match D.dp a 40 && D.dp b 40 with
  | true => D.ltb a b
  | false => none
/-- a key of a dict -/
def keyOk : D → Bool
  | .int _ => true
  | .str _ => true
  | .tup xs => D.dp (.tup xs) 8 && noLst (.tup xs)
  | _ => false
def allTup : List D → Bool
  | [] => true
  | .tup _ :: r => allTup r
  | _ => false
def allFlat : List D → Bool
  | [] => true
  | .int _ :: r => allFlat r
  | .str _ :: r => allFlat r
  | _ => false
/-- a key beside keys: all of one sort -/
def keyFits (k : D) (ks : List D) : Bool := keyOk k && (match k with
  | .tup _ => allTup ks
  | _ => allFlat ks)
def inO (a : D) : D → Option Bool
  | .tup xs => (match D.dp a 40 && D.dps xs 40 with | true => some (inD a xs) | false => none)
  | .lst xs => (match D.dp a 40 && D.dps xs 40 with | true => some (inD a xs) | false => none)
  | .dic ks _ => (match keyFits a ks with | true => some (inD a ks) | false => none)
  | _ => none
def isO (a : D) : D → Option Bool
  | .non => some (match a with | .non => true | _ => false)
  | .bl b => some (match a with | .bl c => beqB c b | _ => false)
  | _ => none
def allI : List D → Bool
  | [] => true
  | .int _ :: r => allI r
  | _ => false
/-- a <= b of numbers, of tuples of numbers -/
def leO : D → D → Option Bool
  | .int i, .int j => some (intLe i j)
  | .tup xs, .tup ys => (match allI xs && allI ys with | true => negO (D.ltbs ys xs) | false => none)
  | _, _ => none
def cop : CmpOp → D → D → Option Bool
  | .Eq, a, b => eqO a b
  | .NotEq, a, b => negO (eqO a b)
  | .Lt, a, b => ltO a b
  | .Gt, a, b => negO (leO a b)
  | .LtE, a, b => leO a b
  | .GtE, a, b => leO b a
  | .In, a, b => inO a b
  | .NotIn, a, b => negO (inO a b)
  | .Is, a, b => isO a b
  | .IsNot, a, b => negO (isO a b)

/-- the place of an index -/
def ixOf (n : Nat) : Int → Option Nat
  | .ofNat k => (match Nat.blt k n with | true => some k | false => none)
  | .negSucc k => (match Nat.blt k n with | true => some (n - (k + 1)) | false => none)
def subOf : D → D → Option D
  | .tup xs, .int i => (match ixOf xs.length i with | some k => xs[k]? | none => none)
  | .lst xs, .int i => (match ixOf xs.length i with | some k => xs[k]? | none => none)
  | .dic ks vs, k => (match keyFits k ks with | true => look k ks vs | false => none)
  | _, _ => none
/-- a slice's bound -/
def sbd (n : Nat) (d : Nat) : Option Int → Nat
  | none => d
  | some (.ofNat k) => (match Nat.ble k n with | true => k | false => n)
  | some (.negSucc k) => n - (k + 1)
def cut {α : Type} (xs : List α) (lo hi : Option Int) : List α := (xs.take (sbd xs.length xs.length hi)).drop (sbd xs.length 0 lo)
def slcOf : D → Option Int → Option Int → Option D
  | .tup xs, lo, hi => some (.tup (cut xs lo hi))
  | .lst xs, lo, hi => some (.lst (cut xs lo hi))
  | _, _, _ => none

def isOne (T : Tab) : Ty → D → Bool
  | .int, d => (match d with | .int _ => true | .bl _ => true | _ => false)
  | .bool, d => (match d with | .bl _ => true | _ => false)
  | .str, d => (match d with | .str _ => true | _ => false)
  | .tuple, d => (match d with | .tup _ => true | _ => false)
  | .list, d => (match d with | .lst _ => true | _ => false)
  | .dict, d => (match d with | .dic _ _ => true | _ => false)
  | .own h, d => (match d with | .exc c _ => T.under 8 c h | _ => false)

/-- of a built-in type of data -/
def isPl : D → Bool
  | .fn _ => false
  | .exc _ _ => false
  | .tok => false
  | .scr _ => false
  | _ => true
def sumD : Int → List D → Option D
  | a, [] => some (.int a)
  | a, .int i :: r => sumD (a + i) r
  | _, _ => none
def anyD : List D → Option Bool
  | [] => some false
  | .bl b :: r => (match anyD r with | some k => some (match b with | true => true | false => k) | none => none)
  | _ => none
def allD : List D → Option Bool
  | [] => some true
  | .bl b :: r => (match allD r with | some k => some (match b with | true => k | false => false) | none => none)
  | _ => none
def minD : Int → List D → Option D
  | a, [] => some (.int a)
  | a, .int i :: r => (match intLe a i with | true => minD a r | false => minD i r)
  | _, _ => none
def maxD : Int → List D → Option D
  | a, [] => some (.int a)
  | a, .int i :: r => (match intLe i a with | true => maxD a r | false => maxD i r)
  | _, _ => none
def seqs : D → Option (List D)
  | .tup xs => some xs
  | .lst xs => some xs
  | _ => none
def items : D → Option (List D)
  | .tup xs => some xs
  | .lst xs => some xs
  | .scr ns => some (ns.map D.int)
  | _ => none
def biOf : Bi → List D → Option D
  | .len, [.tup xs] => some (.int xs.length)
  | .len, [.lst xs] => some (.int xs.length)
  | .len, [.dic ks _] => some (.int ks.length)
  | .sum, [.lst xs] => sumD 0 xs
  | .sum, [.tup xs] => sumD 0 xs
  | .tuple, [.tup xs] => some (.tup xs)
  | .tuple, [.lst xs] => some (.tup xs)
  | .list, [.tup xs] => some (.lst xs)
  | .list, [.lst xs] => some (.lst xs)
  | .list, [.dic ks _] => some (.lst ks)
  | .sorted, [.lst xs] => (match sort xs with | some ys => some (.lst ys) | none => none)
  | .int, [.int i] => some (.int i)
  | .any, [.lst xs] => (match anyD xs with | some b => some (.bl b) | none => none)
  | .all, [.lst xs] => (match allD xs with | some b => some (.bl b) | none => none)
  | .min, [.lst (.int x :: r)] => minD x r
  | .max, [.lst (.int x :: r)] => maxD x r
  | .min, [.int a, .int b] => minD a [.int b]
  | .max, [.int a, .int b] => maxD a [.int b]
  | _, _ => none
def methOf (c : Bool) : Me → D → List D → Option D
  | .get, .dic ks vs, [k] => (match keyFits k ks with | true => some (match look k ks vs with | some v => v | none => .non) | false => none)
  | .get, .dic ks vs, [k, d] => (match keyFits k ks with | true => some (match look k ks vs with | some v => v | none => d) | false => none)
  | .index, .lst xs, [x] => (match D.dp x 40 && D.dps xs 40 with | true => (match idx x 0 xs with | some n => some (.int n) | none => none) | false => none)
  | .index, .tup xs, [x] => (match c && (D.dp x 40 && D.dps xs 40) with | true => (match idx x 0 xs with | some n => some (.int n) | none => none) | false => none)
  | _, _, _ => none
def meOk (c : Bool) : Me → D → Bool
  | .get, .dic _ _ => true
  | .index, .lst _ => true
  | .index, .tup _ => c
  | _, _ => false
def isGc : Xp → Bool
  | .gc .. => true
  | _ => false

def rngList (lo : Int) : Nat → List D
  | 0 => []
  | n + 1 => .int lo :: rngList (lo + 1) n
/-- a bound of a range -/
def rgB (i : Int) : Bool := Nat.ble i.natAbs 16777000
def rngOf : List D → Option (List D)
  | [.int n] => (match rgB n with | true => some (rngList 0 n.toNat) | false => none)
  | [.int a, .int b] => (match rgB a && (rgB b && fits (b - a).toNat) with | true => some (rngList a (b - a).toNat) | false => none)
  | _ => none
def enumD : Int → List D → List D
  | _, [] => []
  | n, x :: r => .tup [.int n, x] :: enumD (n + 1) r
def zipD : List D → List D → List D
  | x :: r, y :: s => .tup [x, y] :: zipD r s
  | _, _ => []

def zipOf : List D → Option (List D)
  | [.lst xs, .lst ys] => some (zipD xs ys)
  | [.tup xs, .tup ys] => some (zipD xs ys)
  | _ => none
def enumOf : List D → Option (List D)
  | [.lst xs] => some (enumD 0 xs)
  | [.tup xs] => some (enumD 0 xs)
  | [.scr ns] => some (enumD 0 (ns.map D.int))
  | _ => none

/-! ### drawing -/
def mixed (c n : Int) : Int := (((c * (1 + 2 * n) * 48271) % 2147483647 + 7919 * n * n + 104729 * n) * 69621) % 2147483629 / 7
def draw (g : Gs) (limit : Int) : Int × Gs :=
  let n := g.spot
  let far := mixed (mixed ((g.cells[(n % 64).toNat]?).getD 0 + 31 * (n / 64)) n) (n + 7) % limit
  match g.great with
  | [] => (far, { g with spot := n + 1 })
  | gr => let here := (n % (gr.length : Int)).toNat
    let cell := (gr[here]?).getD 0
    match intLe cell 0 with
    | true => (far, { g with spot := n + 1 })
    | false => (cell % limit, { g with spot := n + 1, great := gr.set here (cell / limit) })

/-! ### fresh things -/
def isMut : D → Bool
  | .lst _ => true
  | .dic _ _ => true
  | _ => false
def fresh : Xp → Bool
  | .lst .. => true
  | .dis .. => true
  | .lc .. => true
  | .dc .. => true
  | .bin .. => true
  | _ => false
/-- m: the slot's list or dict is to be changed in place -/
def slot (m : Bool) (e : Xp) (d : D) : Sl := match m with
  | false => .sh d
  | true => match fresh e with
    | true => (match isMut d with | true => .ow d | false => .sh d)
    | false => .sh d

mutual
def tg1 : Tg → List Nat
  | .nm i _ _ => [i]
  | .tp ts _ _ => tgs ts
def tgs : List Tg → List Nat
  | [] => []
  | t :: ts => tg1 t ++ tgs ts
end
mutual
def bindT : Tg → D → List Sl → Option (List Sl)
  | .nm i _ _, d, ρ => some (ρ.set i (.sh d))
  | .tp ts _ _, d, ρ => match d with
    | .tup ds => bindTs ts ds ρ
    | .lst ds => bindTs ts ds ρ
    | _ => none
def bindTs : List Tg → List D → List Sl → Option (List Sl)
  | [], [], ρ => some ρ
  | t :: ts, d :: ds, ρ => match bindT t d ρ with
    | some ρ => bindTs ts ds ρ
    | none => none
  | _, _, _ => none
end
def bindP : List Tg → List Sl → List Sl → Option (List Sl)
  | [], [], ρ => some ρ
  | .nm i _ _ :: ts, s :: ss, ρ => bindP ts ss (ρ.set i s)
  | _, _, _ => none
def slots : List Bool → List Xp → List D → List Sl
  | m :: ms, e :: es, d :: ds => slot m e d :: slots ms es ds
  | _, _, _ => []
def noXc : List Sl → Bool
  | [] => true
  | .xc _ _ :: _ => false
  | _ :: r => noXc r
/-- slots that are forgotten -/
def wipeN (ρ : List Sl) : List Nat → List Sl
  | [] => ρ
  | i :: r => wipeN (ρ.set i .un) r
mutual
/-- slots that a statement may change -/
def Sm.asgd : Sm → List Nat
  | .asg _ i _ _ _ _ => [i]
  | .asgT _ ts _ _ _ _ _ _ => tgs ts
  | .unp ts _ _ _ _ => tgs ts
  | .setI i _ _ _ _ _ _ => [i]
  | .app i _ _ _ _ _ _ => [i]
  | .ext i _ _ _ _ _ _ => [i]
  | .iff _ a b _ => Sm.asgds a ++ Sm.asgds b
  | .for tg _ b _ => tg1 tg ++ Sm.asgds b
  | .whl _ b _ => Sm.asgds b
  | .try _ b hs _ => Sm.asgds b ++ Hd.asgds hs
  | .frz i => [i]
  | _ => []
def Sm.asgds : List Sm → List Nat
  | [] => []
  | s :: r => s.asgd ++ Sm.asgds r
def Hd.asgd : Hd → List Nat
  | .mk _ _ n b _ => (match n with | some (i, _) => i :: Sm.asgds b | none => Sm.asgds b)
def Hd.asgds : List Hd → List Nat
  | [] => []
  | h :: r => h.asgd ++ Hd.asgds r
end
def wipeS (ρ : List Sl) : List (Str × Nat) → List Sl
  | [] => ρ
  | (_, v) :: vs => (wipeS ρ vs).set v .un

/-! ### the evaluator -/
structure Ev where
  e : List Sl → Gs → Xp → Rs D
  ss : List Sl → Gs → List Sm → Rs Flw
  call : Nat → List D → Gs → Rs D

@[inline] def Rs.bind {α β : Type} (r : Rs α) (f : α → Gs → Rs β) : Rs β := match r with
  | .ok a g => f a g
  | .ex c fs g => .ex c fs g
  | .no => .no
def Rs.of {α : Type} (o : Option α) (g : Gs) : Rs α := match o with
  | some a => .ok a g
  | none => .no

section
variable (T : Tab) (r : Ev)

def evL (ρ : List Sl) : Gs → List Xp → Rs (List D)
  | g, [] => .ok [] g
  | g, .star e _ :: es => (r.e ρ g e).bind fun d g => match seqs d with
    | some xs => (evL ρ g es).bind fun ds g => .ok (xs ++ ds) g
    | none => .no
  | g, e :: es => (r.e ρ g e).bind fun d g => (evL ρ g es).bind fun ds g => .ok (d :: ds) g

def evB (ρ : List Sl) (g : Gs) (e : Xp) : Rs Bool := (r.e ρ g e).bind fun d g => Rs.of (truth d) g

/-- and, or: the value of the last that is asked -/
def evAnd (ρ : List Sl) : Gs → List Xp → Rs D
  | _, [] => .no
  | g, [e] => r.e ρ g e
  | g, e :: es => (r.e ρ g e).bind fun d g => match truth d with
    | some true => evAnd ρ g es
    | some false => .ok d g
    | none => .no
def evOr (ρ : List Sl) : Gs → List Xp → Rs D
  | _, [] => .no
  | g, [e] => r.e ρ g e
  | g, e :: es => (r.e ρ g e).bind fun d g => match truth d with
    | some true => .ok d g
    | some false => evOr ρ g es
    | none => .no
def evAll (ρ : List Sl) : Gs → List Xp → Rs Bool
  | g, [] => .ok true g
  | g, e :: es => (evB r ρ g e).bind fun b g => match b with
    | true => evAll ρ g es
    | false => .ok false g

def evOpt (ρ : List Sl) (g : Gs) : Option Xp → Rs (Option Int)
  | none => .ok none g
  | some e => (r.e ρ g e).bind fun d g => match d with
    | .int i => .ok (some i) g
    | _ => .no

def evI (ρ : List Sl) (g : Gs) : Src → Rs (List D)
  | .src e => (r.e ρ g e).bind fun d g => Rs.of (items d) g
  | .rng _ es _ _ => (evL r ρ g es).bind fun ds g => Rs.of (rngOf ds) g
  | .enum _ e _ _ => (evL r ρ g [e]).bind fun ds g => Rs.of (enumOf ds) g
  | .zip _ a b _ _ => (evL r ρ g [a, b]).bind fun ds g => Rs.of (zipOf ds) g

/-- a pair put into a dict -/
def putO (k v : D) (ks vs : List D) : Option D := match keyFits k ks && fits ks.length with
  | true => some (.dic (putK k ks) (putV k v ks vs))
  | false => none
def disGo : List (D × D) → List D → List D → Option D
  | (k, v) :: r, a, b => (match putO k v a b with | some (.dic a b) => disGo r a b | _ => none)
  | [], a, b => some (.dic a b)
/-- the pairs of a display -/
def evP (ρ : List Sl) : Gs → List Xp → List Xp → Rs (List (D × D))
  | g, k :: ks, v :: vs => (r.e ρ g k).bind fun x g => (r.e ρ g v).bind fun y g => (evP ρ g ks vs).bind fun ps g => .ok ((x, y) :: ps) g
  | g, [], [] => .ok [] g
  | _, _, _ => .no

def lcGo (ρ : List Sl) (e : Xp) (tg : Tg) (ifs : List Xp) : Gs → List D → Rs (List D)
  | g, [] => .ok [] g
  | g, d :: ds => match bindT tg d ρ with
    | none => .no
    | some ρ' => match evAll r ρ' g ifs with
      | .ok true g => (match r.e ρ' g e with
        | .ok y g => (lcGo ρ e tg ifs g ds).bind fun ys g => .ok (y :: ys) g
        | _ => .no)
      | .ok false g => lcGo ρ e tg ifs g ds
      | _ => .no
def dcGo (ρ : List Sl) (k e : Xp) (tg : Tg) (ifs : List Xp) : Gs → List D → List D → List D → Rs D
  | g, [], ks, vs => .ok (.dic ks vs) g
  | g, d :: ds, ks, vs => match bindT tg d ρ with
    | none => .no
    | some ρ' => match evAll r ρ' g ifs with
      | .ok true g => (match r.e ρ' g k with
        | .ok x g => (match r.e ρ' g e with
          | .ok y g => (match putO x y ks vs with | some (.dic ks vs) => dcGo ρ k e tg ifs g ds ks vs | _ => .no)
          | _ => .no)
        | _ => .no)
      | .ok false g => dcGo ρ k e tg ifs g ds ks vs
      | _ => .no
def stepE (ρ : List Sl) (g : Gs) : Xp → Rs D
  | .v i _ _ => (match ρ[i]? with | some (.sh d) => .ok d g | _ => .no)
  | .pk i _ _ => (match ρ[i]? with | some (.sh d) => .ok d g | some (.ow d) => .ok d g | _ => .no)
  | .c k _ _ => Rs.of (cOf k) g
  | .gc j _ _ => Rs.of T.cons[j]? g
  | .gf f _ _ => .ok (.fn f) g
  | .tup es _ _ => (evL r ρ g es).bind fun ds g => (match fits ds.length with | true => .ok (.tup ds) g | false => .no)
  | .lst es _ => (evL r ρ g es).bind fun ds g => (match fits ds.length with | true => .ok (.lst ds) g | false => .no)
  | .star _ _ => .no
  | .dis ks vs _ => (evP r ρ g ks vs).bind fun ps g => Rs.of (disGo ps [] []) g
  | .bin a op b _ => (r.e ρ g a).bind fun x g => (r.e ρ g b).bind fun y g => Rs.of (bop op x y) g
  | .neg a _ => (r.e ρ g a).bind fun x g => match x with | .int i => .ok (.int (-i)) g | _ => .no
  | .not a _ => (evB r ρ g a).bind fun b g => .ok (.bl (match b with | true => false | false => true)) g
  | .and es _ => evAnd r ρ g es
  | .or es _ => evOr r ρ g es
  | .cmp a op b _ => (r.e ρ g a).bind fun x g => (r.e ρ g b).bind fun y g => (Rs.of (cop op x y) g).bind fun k g => .ok (.bl k) g
  | .chain a op b op' c _ => (r.e ρ g a).bind fun x g => (r.e ρ g b).bind fun y g => (Rs.of (cop op x y) g).bind fun k g => match k with
    | true => (r.e ρ g c).bind fun z g => (Rs.of (cop op' y z) g).bind fun k g => .ok (.bl k) g
    | false => .ok (.bl false) g
  | .ife t a b _ => (evB r ρ g t).bind fun k g => match k with | true => r.e ρ g a | false => r.e ρ g b
  | .sub a i _ => (r.e ρ g a).bind fun x g => (r.e ρ g i).bind fun y g => Rs.of (subOf x y) g
  | .slc a lo hi _ _ => (r.e ρ g a).bind fun x g => (evOpt r ρ g lo).bind fun l g => (evOpt r ρ g hi).bind fun h g => Rs.of (slcOf x l h) g
  | .call f _ es _ _ => (evL r ρ g es).bind fun ds g => r.call f ds g
  | .callV i _ es _ _ => (match ρ[i]? with
    | some (.sh (.fn f)) => (match Nat.blt f T.nf with
      | true => (evL r ρ g es).bind fun ds g => r.call f ds g
      | false => .no)
    | _ => .no)
  | .bi b _ es _ _ => (evL r ρ g es).bind fun ds g => Rs.of (biOf b ds) g
  | .lrng _ _ es _ _ _ _ => (evL r ρ g es).bind fun ds g => match rngOf ds with
    | some xs => .ok (.lst xs) g
    | none => .no
  | .isi a ts _ _ _ => (r.e ρ g a).bind fun x g => (match isPl x with | true => .ok (.bl (ts.any fun t => isOne T t.1 x)) g | false => .no)
  | .meth m _ a es _ _ => (r.e ρ g a).bind fun x g => match meOk (isGc a) m x with
    | true => (evL r ρ g es).bind fun ds g => Rs.of (methOf (isGc a) m x ds) g
    | false => .no
  | .lc e tg it ifs own _ _ => (evI r ρ g it).bind fun ds g => match fits ds.length with
    | true => (lcGo r (wipeS ρ own) e tg ifs g ds).bind fun ys g => .ok (.lst ys) g
    | false => .no
  | .dc k e tg it ifs own _ _ => (evI r ρ g it).bind fun ds g => dcGo r (wipeS ρ own) k e tg ifs g ds [] []
  | .att i _ j _ _ _ => (match ρ[i]? with
    | some (.xc c fs) => (match T.flds[c]? with
      | some ks => (match posN j 0 ks with
        | some m => Rs.of fs[m]? g
        | none => .no)
      | none => .no)
    | _ => .no)

def forGo (tg : Tg) (b : List Sm) : List Sl → Gs → List D → Rs Flw
  | ρ, g, [] => .ok (.next ρ) g
  | ρ, g, d :: ds => match bindT tg d ρ with
    | none => .no
    | some ρ' => (r.ss ρ' g b).bind fun f g => match f with
      | .next ρ => forGo tg b ρ g ds
      | .cnt ρ => forGo tg b ρ g ds
      | .brk ρ => .ok (.next ρ) g
      | .ret d => .ok (.ret d) g
def whlGo (t : Xp) (b : List Sm) : Nat → List Sl → Gs → Rs Flw
  | 0, _, _ => .no
  | m + 1, ρ, g => (evB r ρ g t).bind fun k g => match k with
    | false => .ok (.next ρ) g
    | true => (r.ss ρ g b).bind fun f g => match f with
      | .next ρ => whlGo t b m ρ g
      | .cnt ρ => whlGo t b m ρ g
      | .brk ρ => .ok (.next ρ) g
      | .ret d => .ok (.ret d) g
/-- behind a suite: no error is raised there, none is kept -/
def suEnd (n : Option (Nat × Str)) : Rs Flw → Rs Flw
  | .ok (.next ρ) g => (match n with
    | none => (match noXc ρ with | true => .ok (.next ρ) g | false => .no)
    | some (i, _) => (match noXc (ρ.set i .un) with | true => .ok (.next (ρ.set i .un)) g | false => .no))
  | .ok (.ret d) g => .ok (.ret d) g
  | _ => .no
def suIn (n : Option (Nat × Str)) (c : Nat) (fs : List D) (ρ : List Sl) : List Sl := match n with
  | none => ρ
  | some (i, _) => ρ.set i (.xc c fs)
def handle (ρ : List Sl) (g : Gs) (c : Nat) (fs : List D) : List Hd → Rs Flw
  | [] => .ex c fs g
  | .mk cs _ n b _ :: hs => match cs.any fun h => T.under 8 c h.1 with
    | true => (match noXc ρ with
      | true => suEnd n (r.ss (suIn n c fs ρ) g b)
      | false => .no)
    | false => handle ρ g c fs hs

def stepS (ρ : List Sl) (g : Gs) : Sm → Rs Flw
  | .asg m i _ e _ _ => (r.e ρ g e).bind fun d g => .ok (.next (ρ.set i (slot m e d))) g
  | .asgT ms ts es _ _ _ _ _ => (evL r ρ g es).bind fun ds g => (Rs.of (bindP ts (slots ms es ds) ρ) g).bind fun ρ g => .ok (.next ρ) g
  | .unp ts e _ _ _ => (r.e ρ g e).bind fun d g => (Rs.of (bindT (.tp ts 0 default) d ρ) g).bind fun ρ g => .ok (.next ρ) g
  | .setI i _ k e _ _ _ => (match ρ[i]? with
    | some (.ow (.lst xs)) => (r.e ρ g e).bind fun d g => (r.e ρ g k).bind fun x g => (match x with
      | .int j => (match ixOf xs.length j with | some n => .ok (.next (ρ.set i (.ow (.lst (xs.set n d))))) g | none => .no)
      | _ => .no)
    | some (.ow (.dic ks vs)) => (r.e ρ g e).bind fun d g => (r.e ρ g k).bind fun x g => (match putO x d ks vs with | some d => .ok (.next (ρ.set i (.ow d))) g | none => .no)
    | _ => .no)
  | .app i _ e _ _ _ _ => (match ρ[i]? with
    | some (.ow (.lst xs)) => (r.e ρ g e).bind fun d g => (match fits xs.length with | true => .ok (.next (ρ.set i (.ow (.lst (xs ++ [d]))))) g | false => .no)
    | _ => .no)
  | .ext i _ e _ _ _ _ => (match ρ[i]? with
    | some (.ow (.lst xs)) => (r.e ρ g e).bind fun d g => (match d with
      | .lst ys => (match fits (xs.length + ys.length) with | true => .ok (.next (ρ.set i (.ow (.lst (xs ++ ys))))) g | false => .no)
      | _ => .no)
    | _ => .no)
  | .expr e _ => (r.e ρ g e).bind fun _ g => .ok (.next ρ) g
  | .ret e _ => (r.e ρ g e).bind fun d g => .ok (.ret d) g
  | .retN _ => .ok (.ret .non) g
  | .iff t a b _ => (evB r ρ g t).bind fun k g => match k with | true => r.ss ρ g a | false => r.ss ρ g b
  | .for tg it b _ => (evI r ρ g it).bind fun ds g => forGo r tg b ρ g ds
  | .whl t b _ => whlGo r t b 100000 ρ g
  | .rai c _ es _ _ _ => (evL r ρ g es).bind fun ds g => .ex c ds g
  | .try k b hs _ => (match r.ss ρ g b with
    | .ok f g => .ok f g
    | .ex c fs g => (match k && Nat.blt c T.sup.length with
      | true => handle T r (wipeN ρ (Sm.asgds b)) g c fs hs
      | false => .no)
    | .no => .no)
  | .pas _ => .ok (.next ρ) g
  | .brk _ => .ok (.brk ρ) g
  | .cnt _ => .ok (.cnt ρ) g
  | .frz i => (match ρ[i]? with
    | some (.ow d) => .ok (.next (ρ.set i (.sh d))) g
    | _ => .ok (.next ρ) g)

def stepSs : List Sl → Gs → List Sm → Rs Flw
  | ρ, g, [] => .ok (.next ρ) g
  | ρ, g, s :: ss => (stepS T r ρ g s).bind fun f g => match f with
    | .next ρ => stepSs ρ g ss
    | f => .ok f g

/-- ints alone -/
def intsD : List D → Option (List Int)
  | [] => some []
  | .int i :: r => (match intsD r with
    | some js => some (i :: js)
    | none => none)
  | _ :: _ => none
/-- the digit of a great cell, if there is one -/
def drawG (g : Gs) (limit : Int) : Option (Int × Gs) := match g.great with
  | [] => none
  | gr => (match gr[(g.spot % (gr.length : Int)).toNat]? with
    | some cell => (match intLe cell 0 with
      | true => none
      | false => some (cell % limit, { g with spot := g.spot + 1, great := gr.set (g.spot % (gr.length : Int)).toNat (cell / limit) }))
    | none => none)
/-- a drawn number; mx: the def that mixes -/
def drawC (mx : Nat) (limit : Int) (g : Gs) : Rs D := match intLe limit 0 || intLe 1073741824 limit with
  | true => .no
  | false => (match drawG g limit with
    | some (k, g) => .ok (.int k) g
    | none => (match g.cells[(g.spot % 64).toNat]? with
      | some c => (match r.call mx [.int (c + 31 * (g.spot / 64)), .int g.spot] { g with spot := g.spot + 1 } with
        | .ok (.int i) g1 => (match r.call mx [.int i, .int (g.spot + 7)] g1 with
          | .ok (.int j) g2 => .ok (.int (j % limit)) g2
          | _ => .no)
        | _ => .no)
      | none => .no))
/-- the slot that a block returns at its end -/
def slotL (ρ : List Sl) (b : List Sm) : Option Sl := match b.getLast? with
  | some (.ret (.v i _ _) _) => ρ[i]?
  | _ => none
/-- the first state; fd.np: the def that folds, fd.body: what the great cells are -/
def begunC (fd : Fd) (ns : List Int) (g : Gs) : Rs D := match g.cells, fd.body, Tre.get 12 T.fns fd.np with
  | [], [.expr e _], some (some ff) => (match r.ss (.sh (.scr ns) :: List.replicate (ff.n - 1) .un) g ff.body.dropLast.dropLast with
    | .ok (.next ρ) g1 => (match slotL ρ ff.body with
      | some (.ow (.lst cs)) => (match intsD cs with
        | some cells => (match Nat.beq cells.length 64 with
          | true => (match r.e (.sh (.scr ns) :: List.replicate (fd.n - 1) .un) g1 e with
            | .ok (.lst gs) _ => (match intsD gs with
              | some great => (match Nat.ble great.length 64000 with
                | true => .ok .tok ⟨cells, great, 0⟩
                | false => .no)
              | none => .no)
            | _ => .no)
          | false => .no)
        | none => .no)
      | _ => .no)
    | _ => .no)
  | _, _, _ => .no
def stepC (f : Nat) (ds : List D) (g : Gs) : Rs D := match Tre.get 12 T.fns f with
  | none => .no
  | some none => .no
  | some (some fd) => match fd.prim with
    | 0 => (match Nat.beq ds.length fd.np with
      | true => (r.ss (ds.map Sl.sh ++ List.replicate (fd.n - fd.np) Sl.un) g fd.body).bind fun f g => match f with
        | .next _ => .ok .non g
        | .ret d => .ok d g
        | _ => .no
      | false => .no)
    | 1 => (match ds with
      | [.tok, .int n] => drawC r fd.np n g
      | _ => .no)
    | 2 => (match ds with
      | [.scr ns] => begunC T r fd ns g
      | _ => .no)
    | _ => .no
end

def ev (T : Tab) : Nat → Ev
  | 0 => ⟨fun _ _ _ => .no, fun _ _ _ => .no, fun _ _ _ => .no⟩
  | n + 1 => ⟨fun ρ g e => stepE T (ev T n) ρ g e, fun ρ g ss => stepSs T (ev T n) ρ g ss, fun f ds g => stepC T (ev T n) f ds g⟩
end Fp
end
section
set_option Elab.async false
set_option linter.all false
/-! From PySem's syntax to the own one, and back. -/
namespace Fp
open PySem

def keyOf (x : Str) : Nat := x.cps.toList.foldl (fun a c => a * 1114112 + c + 1) 0

structure Gx where
  fns : List (Nat × Nat)
  cls : List (Nat × Nat × List Nat)
  cons : List (Nat × D)

def lookN {α : Type} (k : Nat) : List (Nat × α) → Option α
  | [] => none
  | (j, a) :: r => match Nat.beq j k with
    | true => some a
    | false => lookN k r
def memN (k : Nat) : List Nat → Bool
  | [] => false
  | j :: r => match Nat.beq j k with
    | true => true
    | false => memN k r

/-- a def's names: slots by key; the slots that are changed in place -/
structure Lx where
  ks : List Nat
  mu : List Nat

def biK : List (Nat × Bi) := [(keyOf "len", .len), (keyOf "sum", .sum), (keyOf "tuple", .tuple), (keyOf "list", .list), (keyOf "sorted", .sorted), (keyOf "int", .int), (keyOf "any", .any), (keyOf "all", .all), (keyOf "min", .min), (keyOf "max", .max), (keyOf "repr", .repr), (keyOf "abs", .abs), (keyOf "dict", .dict), (keyOf "str", .str)]
def tyK : List (Nat × Ty) := [(keyOf "int", .int), (keyOf "bool", .bool), (keyOf "str", .str), (keyOf "tuple", .tuple), (keyOf "list", .list), (keyOf "dict", .dict)]
def meK : List (Nat × Me) := [(keyOf "get", .get), (keyOf "index", .index), (keyOf "count", .count)]
def kIsi : Nat := keyOf "isinstance"
def kList : Nat := keyOf "list"
def kRange : Nat := keyOf "range"
def kEnum : Nat := keyOf "enumerate"
def kZip : Nat := keyOf "zip"
def kApp : Nat := keyOf "append"
def kExt : Nat := keyOf "extend"

section
variable (gx : Gx)

mutual
def trT : Nat → Lx → Expr → Option Tg
  | 0, _, _ => none
  | n + 1, lx, .Name x p => (posN (keyOf x) 0 lx.ks).map fun i => .nm i x p
  | n + 1, lx, .Tuple es k p => (trTs n lx es).map fun ts => .tp ts k p
  | _, _, _ => none
def trTs : Nat → Lx → List Expr → Option (List Tg)
  | 0, _, _ => none
  | _ + 1, _, [] => some []
  | n + 1, lx, e :: es => match trT n lx e, trTs n lx es with
    | some t, some ts => some (t :: ts)
    | _, _ => none
end
mutual
def Tg.own : Tg → List (Str × Nat)
  | .nm i x _ => [(x, i)]
  | .tp ts _ _ => Tg.owns ts
def Tg.owns : List Tg → List (Str × Nat)
  | [] => []
  | t :: ts => t.own ++ Tg.owns ts
end

def trTy (e : Expr) : Option (Ty × Str × Pos) := match e with
  | .Name x p => (match lookN (keyOf x) tyK with
    | some t => some (t, x, p)
    | none => (match lookN (keyOf x) gx.cls with
      | some (c, _) => some (.own c, x, p)
      | none => none))
  | _ => none
def trTys : List Expr → Option (List (Ty × Str × Pos))
  | [] => some []
  | e :: es => match trTy gx e, trTys es with
    | some t, some ts => some (t :: ts)
    | _, _ => none

/-- o: the value is only looked at -/
def trName (lx : Lx) (o : Bool) (x : Str) (p : Pos) : Option Xp := match posN (keyOf x) 0 lx.ks with
  | some i => some (match o with
    | true => (match memN i lx.mu with | true => .pk i x p | false => .v i x p)
    | false => .v i x p)
  | none => (match posN (keyOf x) 0 (gx.cons.map (·.1)) with
    | some j => some (.gc j x p)
    | none => (match lookN (keyOf x) gx.fns with
      | some f => some (.gf f x p)
      | none => none))

mutual
def trE : Nat → Lx → Bool → Expr → Option Xp
  | 0, _, _, _ => none
  | n + 1, lx, o, .Name x p => trName gx lx o x p
  | n + 1, lx, o, .Constant k j p => (match cOf k with | some _ => some (.c k j p) | none => none)
  | n + 1, lx, o, .Tuple es k p => (trL n lx false es).map fun xs => .tup xs k p
  | n + 1, lx, o, .List es p => (trL n lx false es).map fun xs => .lst xs p
  | n + 1, lx, o, .Starred e p => (trE n lx true e).map fun x => .star x p
  | n + 1, lx, o, .Dict ks vs p => match trK n lx ks, trL n lx false vs with
    | some a, some b => some (.dis a b p)
    | _, _ => none
  | n + 1, lx, o, .BinOp a op b p => match trE n lx true a, trE n lx true b with
    | some x, some y => some (.bin x op y p)
    | _, _ => none
  | n + 1, lx, o, .UnaryOp .Not a p => (trE n lx true a).map fun x => .not x p
  | n + 1, lx, o, .UnaryOp .USub a p => (trE n lx true a).map fun x => .neg x p
  | n + 1, lx, o, .BoolOp .And es p => (trL n lx false es).map fun xs => .and xs p
  | n + 1, lx, o, .BoolOp .Or es p => (trL n lx false es).map fun xs => .or xs p
  | n + 1, lx, o, .Compare a [op] [b] p => match trE n lx true a, trE n lx true b with
    | some x, some y => some (.cmp x op y p)
    | _, _ => none
  | n + 1, lx, o, .Compare a [op, op'] [b, c] p => match trE n lx true a, trE n lx true b, trE n lx true c with
    | some x, some y, some z => some (.chain x op y op' z p)
    | _, _, _ => none
  | n + 1, lx, o, .IfExp t a b p => match trE n lx true t, trE n lx false a, trE n lx false b with
    | some z, some x, some y => some (.ife z x y p)
    | _, _, _ => none
  | n + 1, lx, o, .Subscript a (.Slice lo hi none q) p => match trE n lx true a, trO n lx lo, trO n lx hi with
    | some x, some y, some z => some (.slc x y z q p)
    | _, _, _ => none
  | n + 1, lx, o, .Subscript a i p => match trE n lx true a, trE n lx true i with
    | some x, some y => some (.sub x y p)
    | _, _ => none
  | n + 1, lx, o, .Call (.Name x q1) [.Call (.Name y q2) es [] q] [] p => match posN (keyOf x) 0 lx.ks, Nat.beq (keyOf y) kRange with
    | none, true => (match Nat.beq (keyOf x) kList with
      | true => (trL n lx true es).map fun xs => .lrng x y xs q1 q2 q p
      | false => none)
    | _, _ => trCall n lx o x q1 [.Call (.Name y q2) es [] q] p
  | n + 1, lx, o, .Call (.Name x q) es [] p => trCall n lx o x q es p
  | n + 1, lx, o, .Call (.Attribute a m q) es [] p => match lookN (keyOf m) meK with
    | some me => (match trE n lx true a, trL n lx false es with
      | some x, some xs => some (.meth me m x xs q p)
      | _, _ => none)
    | none => none
  | n + 1, lx, o, .ListComp e [⟨tg, it, ifs, 0⟩] sc p => match trT n lx tg, trI n lx true it, trL n lx true ifs, trE n lx false e with
    | some t, some i, some fs, some x => some (.lc x t i fs t.own sc p)
    | _, _, _, _ => none
  | n + 1, lx, o, .DictComp k e [⟨tg, it, ifs, 0⟩] sc p => match trT n lx tg, trI n lx true it, trL n lx true ifs, trE n lx false k, trE n lx false e with
    | some t, some i, some fs, some y, some x => some (.dc y x t i fs t.own sc p)
    | _, _, _, _, _ => none
  | n + 1, lx, o, .Attribute (.Name x q) f p => match posN (keyOf x) 0 lx.ks with
    | some i => some (.att i x (keyOf f) f q p)
    | none => none
  | _, _, _, _ => none
def trCall : Nat → Lx → Bool → Str → Pos → List Expr → Pos → Option Xp
  | 0, _, _, _, _, _, _ => none
  | n + 1, lx, o, x, q, es, p => match posN (keyOf x) 0 lx.ks with
    | some i => (trL n lx false es).map fun xs => .callV i x xs q p
    | none => (match lookN (keyOf x) gx.fns with
      | some f => (trL n lx false es).map fun xs => .call f x xs q p
      | none => (match lookN (keyOf x) biK with
        | some b => (trL n lx true es).map fun xs => .bi b x xs q p
        | none => (match Nat.beq (keyOf x) kIsi with
          | true => (match es with
            | [a, .Tuple ts k pt] => (match trE n lx true a, trTys gx ts with
              | some y, some tys => some (.isi y tys (some (k, pt)) q p)
              | _, _ => none)
            | [a, t] => (match trE n lx true a, trTys gx [t] with
              | some y, some tys => some (.isi y tys none q p)
              | _, _ => none)
            | _ => none)
          | false => none)))
def trL : Nat → Lx → Bool → List Expr → Option (List Xp)
  | 0, _, _, _ => none
  | _ + 1, _, _, [] => some []
  | n + 1, lx, o, e :: es => match trE n lx o e, trL n lx o es with
    | some x, some xs => some (x :: xs)
    | _, _ => none
def trK : Nat → Lx → List (Option Expr) → Option (List Xp)
  | 0, _, _ => none
  | _ + 1, _, [] => some []
  | n + 1, lx, some e :: es => match trE n lx false e, trK n lx es with
    | some x, some xs => some (x :: xs)
    | _, _ => none
  | _, _, _ => none
def trO : Nat → Lx → Option Expr → Option (Option Xp)
  | 0, _, _ => none
  | _ + 1, _, none => some none
  | n + 1, lx, some e => (trE n lx true e).map some
def trI : Nat → Lx → Bool → Expr → Option Src
  | 0, _, _, _ => none
  | n + 1, lx, o, .Call (.Name x q) es [] p => match posN (keyOf x) 0 lx.ks with
    | some _ => (trE n lx o (.Call (.Name x q) es [] p)).map .src
    | none => (match Nat.beq (keyOf x) kRange with
      | true => (trL n lx true es).map fun xs => .rng x xs q p
      | false => (match Nat.beq (keyOf x) kEnum with
        | true => (match es with
          | [a] => (trE n lx o a).map fun y => .enum x y q p
          | _ => none)
        | false => (match Nat.beq (keyOf x) kZip with
          | true => (match es with
            | [a, b] => (match trE n lx o a, trE n lx o b with
              | some y, some z => some (.zip x y z q p)
              | _, _ => none)
            | _ => none)
          | false => (trE n lx o (.Call (.Name x q) es [] p)).map .src)))
  | n + 1, lx, o, e => (trE n lx o e).map .src
end

/-! ### slots that are read whole -/
mutual
def Xp.rd (mu : List Nat) : Xp → List Nat
  | .v i _ _ => (match memN i mu with | true => [i] | false => [])
  | .tup es _ _ | .lst es _ | .and es _ | .or es _ => Xp.rds mu es
  | .star e _ | .neg e _ | .not e _ => Xp.rd mu e
  | .dis ks vs _ => Xp.rds mu ks ++ Xp.rds mu vs
  | .bin a _ b _ | .cmp a _ b _ | .sub a b _ => Xp.rd mu a ++ Xp.rd mu b
  | .chain a _ b _ c _ => Xp.rd mu a ++ (Xp.rd mu b ++ Xp.rd mu c)
  | .ife t a b _ => Xp.rd mu t ++ (Xp.rd mu a ++ Xp.rd mu b)
  | .slc a lo hi _ _ => Xp.rd mu a ++ (Xp.rdo mu lo ++ Xp.rdo mu hi)
  | .call _ _ es _ _ | .callV _ _ es _ _ | .bi _ _ es _ _ => Xp.rds mu es
  | .isi a _ _ _ _ => Xp.rd mu a
  | .meth _ _ a es _ _ => Xp.rd mu a ++ Xp.rds mu es
  | .lc e _ it ifs _ _ _ => Src.rd mu it ++ (Xp.rds mu ifs ++ Xp.rd mu e)
  | .dc k e _ it ifs _ _ _ => Src.rd mu it ++ (Xp.rds mu ifs ++ (Xp.rd mu k ++ Xp.rd mu e))
  | _ => []
def Xp.rds (mu : List Nat) : List Xp → List Nat
  | [] => []
  | e :: es => Xp.rd mu e ++ Xp.rds mu es
def Xp.rdo (mu : List Nat) : Option Xp → List Nat
  | none => []
  | some e => Xp.rd mu e
def Src.rd (mu : List Nat) : Src → List Nat
  | .src e => Xp.rd mu e
  | .rng _ es _ _ => Xp.rds mu es
  | .enum _ e _ _ => Xp.rd mu e
  | .zip _ a b _ _ => Xp.rd mu a ++ Xp.rd mu b
end
def frzs (is : List Nat) (ss : List Sm) : List Sm := is.foldr (fun i r => .frz i :: r) ss

/-! ### except suites that are looked at -/
mutual
def suE : Xp → Bool
  | .c .. => true
  | .v .. => true
  | .gc .. => true
  | .att .. => true
  | .tup es _ _ => suEs es
  | _ => false
def suEs : List Xp → Bool
  | [] => true
  | e :: es => suE e && suEs es
end
def suS : Sm → Bool
  | .ret e _ => suE e
  | .retN _ => true
  | .asg m _ _ e _ _ => !m && suE e
  | .pas _ => true
  | _ => false
def hdSup : Hd → Bool
  | .mk [_] none _ (b :: bs) _ => suS b && bs.all suS
  | _ => false
def trC (e : Expr) : Option (Nat × Str × Pos) := match e with
  | .Name x p => (lookN (keyOf x) gx.cls).map fun c => (c.1, x, p)
  | _ => none
def trCs : List Expr → Option (List (Nat × Str × Pos))
  | [] => some []
  | e :: es => match trC gx e, trCs es with
    | some t, some ts => some (t :: ts)
    | _, _ => none

mutual
def trS : Nat → Lx → Stmt → Option (List Sm)
  | 0, _, _ => none
  | n + 1, lx, .Assign [.Name x q] e p => match posN (keyOf x) 0 lx.ks, trE gx 60 lx false e with
    | some i, some y => some (frzs (y.rd lx.mu) [.asg (memN i lx.mu) i x y q p])
    | _, _ => none
  | n + 1, lx, .Assign [.Tuple ts k q] (.Tuple es k' q') p => match trTs 60 lx ts, trL gx 60 lx false es with
    | some a, some b => some (frzs (Xp.rds lx.mu b) [.asgT (a.map fun t => match t with | .nm i _ _ => memN i lx.mu | _ => false) a b k k' q q' p])
    | _, _ => none
  | n + 1, lx, .Assign [.Tuple ts k q] e p => match trTs 60 lx ts, trE gx 60 lx false e with
    | some a, some b => some (frzs (b.rd lx.mu) [.unp a b k q p])
    | _, _ => none
  | n + 1, lx, .Assign [.Subscript (.Name x q1) k q] e p => match posN (keyOf x) 0 lx.ks, trE gx 60 lx false k, trE gx 60 lx false e with
    | some i, some y, some z => some (frzs (y.rd lx.mu ++ z.rd lx.mu) [.setI i x y z q1 q p])
    | _, _, _ => none
  | n + 1, lx, .Expr (.Call (.Attribute (.Name x q1) m q2) [e] [] q) p => match posN (keyOf x) 0 lx.ks with
    | some i => (match Nat.beq (keyOf m) kApp with
      | true => (trE gx 60 lx false e).map fun y => frzs (y.rd lx.mu) [.app i x y q1 q2 q p]
      | false => (match Nat.beq (keyOf m) kExt with
        | true => (trE gx 60 lx true e).map fun y => frzs (y.rd lx.mu) [.ext i x y q1 q2 q p]
        | false => none))
    | none => none
  | n + 1, lx, .Expr e p => (trE gx 60 lx false e).map fun y => frzs (y.rd lx.mu) [.expr y p]
  | n + 1, lx, .Return (some e) p => (trE gx 60 lx false e).map fun y => frzs (y.rd lx.mu) [.ret y p]
  | n + 1, lx, .Return none p => some [.retN p]
  | n + 1, lx, .If t a b p => match trE gx 60 lx true t, trSs n lx a, trSs n lx b with
    | some x, some y, some z => some (frzs (x.rd lx.mu) [.iff x y z p])
    | _, _, _ => none
  | n + 1, lx, .For tg it b [] p => match trT 60 lx tg, trI gx 60 lx false it, trSs n lx b with
    | some t, some i, some y => some (frzs (i.rd lx.mu) [.for t i y p])
    | _, _, _ => none
  | n + 1, lx, .While t b [] p => match trE gx 60 lx true t, trSs n lx b with
    | some x, some y => some (frzs (x.rd lx.mu) [.whl x y p])
    | _, _ => none
  | n + 1, lx, .Raise (some (.Call (.Name x q1) es [] q)) none p => match lookN (keyOf x) gx.cls, trL gx 60 lx false es with
    | some c, some y => some (frzs (Xp.rds lx.mu y) [.rai c.1 x y q1 q p])
    | _, _ => none
  | n + 1, lx, .Try b hs [] [] p => match trSs n lx b, trHs n lx hs with
    | some x, some y => some [.try (y.all hdSup) x y p]
    | _, _ => none
  | n + 1, lx, .Pass p => some [.pas p]
  | n + 1, lx, .Break p => some [.brk p]
  | n + 1, lx, .Continue p => some [.cnt p]
  | _, _, _ => none
def trSs : Nat → Lx → List Stmt → Option (List Sm)
  | 0, _, _ => none
  | _ + 1, _, [] => some []
  | n + 1, lx, s :: ss => match trS n lx s, trSs n lx ss with
    | some a, some b => some (a ++ b)
    | _, _ => none
def trHs : Nat → Lx → List ExceptHandler → Option (List Hd)
  | 0, _, _ => none
  | _ + 1, _, [] => some []
  | n + 1, lx, .ExceptHandler (some t) nm b p :: hs => match (match t with
      | .Tuple es k pt => (trCs gx es).map fun cs => (cs, some (k, pt))
      | e => (trCs gx [e]).map fun cs => (cs, none)), trSs n lx b, trHs n lx hs with
    | some (cs, tp), some b, some hs => (match nm with
      | none => some (.mk cs tp none b p :: hs)
      | some x => (match posN (keyOf x) 0 lx.ks with
        | some i => some (.mk cs tp (some (i, x)) b p :: hs)
        | none => none))
    | _, _, _ => none
  | _, _, _ => none
end
end

/-! ### the names of a def -/
mutual
def compE : Nat → Expr → List Str
  | 0, _ => []
  | n + 1, e => match e with
    | .BoolOp _ es _ => compEs n es
    | .BinOp a _ b _ => compE n a ++ compE n b
    | .UnaryOp _ a _ => compE n a
    | .IfExp a b c _ => compE n a ++ (compE n b ++ compE n c)
    | .Dict ks vs _ => compEos n ks ++ compEs n vs
    | .ListComp a gs _ _ => compGs n gs ++ compE n a
    | .DictComp k a gs _ _ => compGs n gs ++ (compE n k ++ compE n a)
    | .Compare a _ es _ => compE n a ++ compEs n es
    | .Call f es _ _ => compE n f ++ compEs n es
    | .Attribute a _ _ => compE n a
    | .Subscript a b _ => compE n a ++ compE n b
    | .Slice a b _ _ => compEo n a ++ compEo n b
    | .Starred a _ => compE n a
    | .List es _ => compEs n es
    | .Tuple es _ _ => compEs n es
    | _ => []
def compEs : Nat → List Expr → List Str
  | 0, _ => []
  | _ + 1, [] => []
  | n + 1, e :: es => compE n e ++ compEs n es
def compEo : Nat → Option Expr → List Str
  | 0, _ => []
  | _ + 1, none => []
  | n + 1, some e => compE n e
def compEos : Nat → List (Option Expr) → List Str
  | 0, _ => []
  | _ + 1, [] => []
  | n + 1, e :: es => compEo n e ++ compEos n es
def compGs : Nat → List Comprehension → List Str
  | 0, _ => []
  | _ + 1, [] => []
  | n + 1, ⟨t, it, ifs, _⟩ :: gs => tnames n t ++ (compE n it ++ (compEs n ifs ++ compGs n gs))
def tnames : Nat → Expr → List Str
  | 0, _ => []
  | n + 1, e => match e with
    | .Name x _ => [x]
    | .Tuple es _ _ => tnamess n es
    | _ => []
def tnamess : Nat → List Expr → List Str
  | 0, _ => []
  | _ + 1, [] => []
  | n + 1, e :: es => tnames n e ++ tnamess n es
end
mutual
def compS : Nat → Stmt → List Str
  | 0, _ => []
  | n + 1, s => match s with
    | .Assign ts e _ => compEs 60 ts ++ compE 60 e
    | .Expr e _ => compE 60 e
    | .Return (some e) _ => compE 60 e
    | .If t a b _ => compE 60 t ++ (compSs n a ++ compSs n b)
    | .For _ it b _ _ => compE 60 it ++ compSs n b
    | .While t b _ _ => compE 60 t ++ compSs n b
    | .Raise (some e) _ _ => compE 60 e
    | .Try b hs _ _ _ => compSs n b ++ compHs n hs
    | _ => []
def compSs : Nat → List Stmt → List Str
  | 0, _ => []
  | _ + 1, [] => []
  | n + 1, s :: ss => compS n s ++ compSs n ss
def compHs : Nat → List ExceptHandler → List Str
  | 0, _ => []
  | _ + 1, [] => []
  | n + 1, .ExceptHandler _ _ b _ :: hs => compSs n b ++ compHs n hs
end
/-! names that are changed in place -/
mutual
def muS : Nat → Stmt → List Nat
  | 0, _ => []
  | n + 1, s => match s with
    | .Assign [.Subscript (.Name x _) _ _] _ _ => [keyOf x]
    | .Expr (.Call (.Attribute (.Name x _) m _) _ _ _) _ => (match Nat.beq (keyOf m) kApp with
      | true => [keyOf x]
      | false => (match Nat.beq (keyOf m) kExt with | true => [keyOf x] | false => []))
    | .If _ a b _ => muSs n a ++ muSs n b
    | .For _ _ b _ _ => muSs n b
    | .While _ b _ _ => muSs n b
    | .Try b hs _ _ _ => muSs n b ++ muHs n hs
    | _ => []
def muSs : Nat → List Stmt → List Nat
  | 0, _ => []
  | _ + 1, [] => []
  | n + 1, s :: ss => muS n s ++ muSs n ss
def muHs : Nat → List ExceptHandler → List Nat
  | 0, _ => []
  | _ + 1, [] => []
  | n + 1, .ExceptHandler _ _ b _ :: hs => muSs n b ++ muHs n hs
end
def addNew : List Str → List Str → List Str
  | acc, [] => acc
  | acc, x :: r => match memN (keyOf x) (acc.map keyOf) with
    | true => addNew acc r
    | false => addNew (acc ++ [x]) r
def localsOf (sc : Scope) : List Str := sc.names.filterMap fun y => match y.2 with
  | .local => some y.1
  | .cell => some y.1
  | _ => none
def namesOf (ps : List Str) (body : List Stmt) (sc : Scope) : List Str := addNew (addNew ps (localsOf sc)) (compSs 200 body)
def ixs (ks : List Nat) : List Nat → List Nat
  | [] => []
  | k :: r => match posN k 0 ks with
    | some i => i :: ixs ks r
    | none => ixs ks r
structure Def where
  name : Str
  ps : List Str
  N : List Str
  args : Arguments
  body : List Stmt
  sc : Scope
  own : List Sm
def trDef (gx : Gx) (name : Str) (args : Arguments) (body : List Stmt) (sc : Scope) : Option Def :=
  let ps := args.args.map (·.arg)
  let N := namesOf ps body sc
  let ks := N.map keyOf
  match trSs gx 300 ⟨ks, ixs ks (muSs 200 body)⟩ body with
  | some own => some ⟨name, ps, N, args, body, sc, own⟩
  | none => none

/-! ### the top -/
def dOf : Nat → List (Nat × D) → Expr → Option D
  | 0, _, _ => none
  | n + 1, cs, e => match e with
    | .Constant k _ _ => cOf k
    | .Name x _ => lookN (keyOf x) cs
    | .Tuple es _ _ => (es.mapM (dOf n cs)).map .tup
    | .UnaryOp .USub a _ => (match dOf n cs a with | some (.int i) => some (.int (-i)) | _ => none)
    | _ => none
def consOf : List (Nat × D) → List Stmt → List (Nat × D)
  | cs, [] => cs
  | cs, .Assign [.Name x _] e _ :: r => (match Nat.beq (keyOf x) (keyOf "__name__") with
    | true => consOf cs r
    | false => (match dOf 20 cs e with
      | some d => consOf (cs ++ [(keyOf x, d)]) r
      | none => consOf cs r))
  | cs, _ :: r => consOf cs r
def fnsOf : Nat → List Stmt → List (Nat × Nat)
  | _, [] => []
  | i, .FunctionDef x _ _ _ _ _ _ _ _ _ :: r => (keyOf x, i) :: fnsOf (i + 1) r
  | i, _ :: r => fnsOf i r
def clsOf : Nat → List Stmt → List (Nat × Nat × List Nat)
  | _, [] => []
  | i, .ClassDef x bs _ _ _ _ _ _ _ _ _ :: r => (keyOf x, i, bs.map fun b => match b with | .Name y _ => keyOf y | _ => 0) :: clsOf (i + 1) r
  | i, _ :: r => clsOf i r
def gxOf (body : List Stmt) : Gx := ⟨fnsOf 0 body, clsOf 0 body, consOf [] body⟩
def supOf (gx : Gx) : List (Option Nat) := gx.cls.map fun c => match c.2.2 with
  | [b] => (lookN b gx.cls).map (·.1)
  | _ => none
def defsOf (gx : Gx) : List Stmt → List (Option Def)
  | [] => []
  | .FunctionDef x a b _ _ _ sc _ _ _ :: r => trDef gx x a b sc :: defsOf gx r
  | _ :: r => defsOf gx r
def Tre.put {α : Type} : Nat → Tre (Option α) → Nat → α → Tre (Option α)
  | 0, t, _, _ => t
  | m + 1, t, n, a => match t with
    | .nil => (match Nat.beq n 0 with
      | true => .node .nil (some a) .nil
      | false => (match Nat.beq (n % 2) 1 with
        | true => .node (Tre.put m .nil (n / 2) a) none .nil
        | false => .node .nil none (Tre.put m .nil (n / 2 - 1) a)))
    | .node l v r => (match Nat.beq n 0 with
      | true => .node l (some a) r
      | false => (match Nat.beq (n % 2) 1 with
        | true => .node (Tre.put m l (n / 2) a) v r
        | false => .node l v (Tre.put m r (n / 2 - 1) a)))
def initPs : List Stmt → List Nat
  | [] => []
  | .FunctionDef x a _ _ _ _ _ _ _ _ :: r => (match Nat.beq (keyOf x) (keyOf "__init__") with
    | true => (a.args.map fun y => keyOf y.arg).tail
    | false => initPs r)
  | _ :: r => initPs r
def fldsOf : List Stmt → List (List Nat)
  | [] => []
  | .ClassDef _ _ _ b _ _ _ _ _ _ _ :: r => initPs b :: fldsOf r
  | _ :: r => fldsOf r
def primOf (x : Str) : Nat := match Nat.beq (keyOf x) (keyOf "_law_draw") with
  | true => 1
  | false => (match Nat.beq (keyOf x) (keyOf "_law_begun") with | true => 2 | false => 0)
def helper (gx : Gx) (x : Str) : Nat := match lookN (keyOf x) gx.fns with
  | some f => f
  | none => 0
def begE : List Sm → List Sm
  | [] => []
  | .setI _ _ _ e _ _ p :: _ => [.expr e p]
  | _ :: r => begE r
def Def.fd (gx : Gx) (d : Def) : Fd := match primOf d.name with
  | 0 => ⟨d.ps.length, d.N.length, d.own, 0⟩
  | 1 => ⟨helper gx "_law_mixed", d.N.length, [], 1⟩
  | _ => ⟨helper gx "_law_folded", d.N.length, begE d.own, 2⟩
def treeOf (gx : Gx) : Nat → List (Option Def) → Tre (Option Fd) → Tre (Option Fd)
  | _, [], t => t
  | i, some d :: r, t => treeOf gx (i + 1) r (Tre.put 12 t i (d.fd gx))
  | i, none :: r, t => treeOf gx (i + 1) r t
def tabOf (body : List Stmt) : Tab := let gx := gxOf body; ⟨treeOf gx 0 (defsOf gx body) .nil, supOf gx, fldsOf body, gx.cons.map (·.2), (defsOf gx body).length⟩
end Fp
end
section
set_option Elab.async false
set_option linter.all false
set_option maxRecDepth 100000
set_option autoImplicit false
set_option maxHeartbeats 1000000
/-! The text, and the looks at the heap: what is reckoned. -/
namespace Fp
open PySem PySem.Spec PyProof.Rows L2
structure FnT where
  name : Str
  args : Arguments
  body : List Stmt
  sc : Scope
structure ClT where
  name : Str
  fl : List Str
  ini : Option FnT
def fnTs : List Stmt → List FnT
  | [] => []
  | .FunctionDef x a b _ _ _ sc _ _ _ :: r => ⟨x, a, b, sc⟩ :: fnTs r
  | _ :: r => fnTs r
def iniT : List Stmt → Option FnT
  | [] => none
  | .FunctionDef x a b _ _ _ sc _ _ _ :: r => (match Nat.beq (keyOf x) (keyOf "__init__") with
    | true => some ⟨x, a, b, sc⟩
    | false => iniT r)
  | _ :: r => iniT r
def clTs : List Stmt → List ClT
  | [] => []
  | .ClassDef x _ _ b _ _ _ _ _ _ _ :: r => ⟨x, (match iniT b with
    | some f => (f.args.args.map (·.arg)).tail
    | none => []), iniT b⟩ :: clTs r
  | _ :: r => clTs r
def coTs : List (Nat × D) → List Stmt → List Str
  | _, [] => []
  | cs, .Assign [.Name x _] e _ :: r => (match Nat.beq (keyOf x) (keyOf "__name__") with
    | true => coTs cs r
    | false => (match dOf 20 cs e with
      | some d => x :: coTs (cs ++ [(keyOf x, d)]) r
      | none => coTs cs r))
  | cs, _ :: r => coTs cs r
structure Txt where
  file : Str
  fns : List FnT
  cls : List ClT
  cons : List Str
  free : List Str
  T : Tab
def Txt.of (file : Str) (body : List Stmt) (free : List Str) : Txt := ⟨file, fnTs body, clTs body, coTs [] body, free, tabOf body⟩
def Txt.fl (t : Txt) (c : Nat) : List Str := match t.cls[c]? with
  | some x => x.fl
  | none => []

abbrev FnU : Type := Option (Arguments × FuncBody × Scope)
def fnU (K : PySem.W.Frag) (a : Addr) : FnU := match K.lookup a with
  | some ⟨_, _, .func fd, _⟩ => some (fd.params, fd.body, fd.scope)
  | _ => none
def FnT.val (f : FnT) : FnU := some (f.args, .stmts f.body, f.sc)
def nonB : Value → Bool
  | .none => true
  | _ => false
def fnB (K : PySem.W.Frag) (a : Addr) : Bool := match K.lookup a with
  | some ⟨_, _, .func fd, _⟩ => PySem.W.codeIn K fd.code fd.qualname && (Nat.beq fd.globals mainGlobals && (Nat.beq fd.builtins builtinsNs && (fd.closure.isEmpty && nonB fd.defaults)))
  | _ => false
def iniB (K : PySem.W.Frag) (file : Str) (C a : Addr) : Bool := match K.lookup a with
  | some ⟨_, _, .func fd, _⟩ => (match fd.closure, fd.code with
    | [(k, cc)], .ref cda => decide (k = "__class__") && (PySem.W.codeIn K (.ref cda) fd.qualname && (Nat.beq fd.globals mainGlobals && (Nat.beq fd.builtins builtinsNs && (nonB fd.defaults && ((match K.lookup cda with
        | some ⟨_, _, .fields vs, _⟩ => (match (vs[2]? : Option Value) with
          | some (.str y _) => file == y
          | _ => false)
        | _ => false) && (match K.lookup cc with
        | some ⟨_, _, .cell (some (.ref E)), _⟩ => Nat.beq E C
        | _ => false))))))
    | _, _ => false)
  | _ => false
mutual
def repB (K : PySem.W.Frag) : Nat → Value → D → Bool
  | _ + 1, .none, .non => true
  | _ + 1, .bool b, .bl c => b == c
  | _ + 1, .int i _, .int j => decide (i = j)
  | _ + 1, .str x _, .str y => decide (x = y)
  | n + 1, .ref a, .tup ds => (match K.lookup a with
    | some ⟨.type c, none, .seq its _, _⟩ => decide (c = "tuple") && (decide (its.size ≤ sizeLine) && repsB K n its.toList ds)
    | _ => false)
  | _, _, _ => false
def repsB (K : PySem.W.Frag) : Nat → List Value → List D → Bool
  | _ + 1, [], [] => true
  | n + 1, u :: us, d :: ds => repB K n u d && repsB K n us ds
  | _, _, _ => false
end
def conB (K : PySem.W.Frag) : List Str → List D → Bool
  | x :: xs, d :: ds => (match PySem.W.nsIn K mainGlobals x with
    | some (some u) => repB K 20 u d
    | _ => false) && conB K xs ds
  | _, _ => true
end Fp
namespace Fp
open PySem PySem.Spec PyProof.Rows L2 PySem.W
def excB (K : Frag) (C : Addr) : Bool := match K.lookup C with
  | some ⟨.type "type", _, .cls cd, sl⟩ => (match cd.mro, sl.toList with
    | .ref C' :: bm, [_, _, _, _, some (.builtin n), _] => C' == C && (n == "ValueError.__new__" && (!cd.hasDel && (cd.hasDict && PySem.HandSPX.refsVE bm)))
    | _, _ => false)
  | _ => false
def oexB (K : Frag) (C : Addr) : Bool := excB K C && (He.eqO (findIn K (.ref C) "__setattr__") (some (some (.builtin "object.__setattr__"))) && (decide (subIn K (.ref C) (.type "BaseException") = some true) && (decide (typeIn K (.ref C) = some (.type "type")) && keepIn K (.ref C))))
def ia (K : Frag) (C : Addr) : Addr := match findIn K (.ref C) "__init__" with
  | some (some (.ref a)) => a
  | _ => 0
def clB (K : Frag) (file : Str) (c : ClT) : Bool := oexB K (He.ga K c.name) && (xfB K (He.ga K c.name) && ((c.fl.all fun f => He.eqO (findIn K (.ref (He.ga K c.name)) f) (some none)) && (match c.ini with
  | none => true
  | some _ => He.eqO (findIn K (.ref (He.ga K c.name)) "__init__") (some (some (.ref (ia K (He.ga K c.name))))) && (decide (typeIn K (.ref (ia K (He.ga K c.name))) = some (.type "function")) && (iniB K file (He.ga K c.name) (ia K (He.ga K c.name)) && (decide (mroIn K (He.ga K c.name) (.ref (He.ga K c.name)) = some true) &&
    (He.eqO (ks_superIn K (He.ga K c.name) (He.ga K c.name) "__init__") (some (some (.builtin "ValueError.__init__"))) && decide (subIn K (.ref (He.ga K c.name)) (.type "ValueError") = some true))))))))
def undB (K : Frag) (T : Tab) (cs : List ClT) : Bool := (List.range cs.length).all fun i => (List.range cs.length).all fun j => match cs[i]?, cs[j]? with
  | some c, some d => decide (exmOne K (.ref (He.ga K c.name)) (.ref (He.ga K d.name)) = some (T.under 8 i j))
  | _, _ => true

def gloB (K : Frag) (x : Str) : Bool := He.eqO (nsIn K mainGlobals x) (some (some (.ref (He.ga K x))))
def allB (t : Txt) (K : Frag) : Bool := (t.fns.all fun f => gloB K f.name && fnB K (He.ga K f.name)) && ((t.cls.all fun c => gloB K c.name && clB K t.file c) && (undB K t.T t.cls && (conB K t.cons t.T.cons && ((t.free.all fun x => He.eqO (nsIn K mainGlobals x) (some none)) && He.eqO (nsIn K cStatics "thirdparty.any") (some none)))))
def inis (cs : List ClT) : List (Str × FnT) := cs.filterMap fun c => c.ini.map fun f => (c.name, f)
abbrev AlR : Type := Bool × List FnU × List FnU
def obsR (t : Txt) (K : Frag) : AlR := (allB t K, t.fns.map fun f => fnU K (He.ga K f.name), (inis t.cls).map fun c => fnU K (ia K (He.ga K c.1)))
def valR (t : Txt) : AlR := (true, t.fns.map FnT.val, (inis t.cls).map fun c => c.2.val)
def SaysR (t : Txt) (K : Frag) : Prop := obsR t K = valR t
def refsR (o : Obj) : List Addr := match o.data with
  | .seq its _ => its.toList.flatMap He.refV
  | .func fd => He.refV fd.code ++ fd.closure.map (·.2)
  | .cls cd => [cd.ns]
  | _ => []
def refsN (o : Obj) : List Addr := match o.data with
  | .dict es _ => es.toList.flatMap fun e => He.refV e.val
  | .seq its _ => its.toList.flatMap He.refV
  | _ => []
def upR (f : Obj → List Addr) (g : Addr → Option Obj) (as : List Addr) : List Addr := as.flatMap fun a => match g a with
  | some o => f o
  | none => []
def asR (g : Addr → Option Obj) : List Addr :=
  let l0 := upR refsN g [mainGlobals]
  let l1 := upR refsR g l0
  let l2 := upR refsN g l1
  let l3 := upR refsR g l2
  mainGlobals :: cStatics :: (l0 ++ (l1 ++ (l2 ++ l3)))
def obsRG (t : Txt) (g : Addr → Option Obj) : AlR := obsR t (He.frG g (asR g))
def hookR (t : Txt) : Hook where
  α := AlR
  obs := fun s => obsRG t s.heap.get?
  val := fun _ => valR t
  says := fun _ h => ∃ K : Frag, K.In h ∧ SaysR t K
  of := fun _ _ e => ⟨_, He.frG_in, e⟩
  keeps := fun _ _ _ ⟨K, hK, c⟩ k => ⟨K, Frag.In.keeps hK k, c⟩
end Fp
end
section
set_option Elab.async false
set_option linter.all false
set_option maxRecDepth 100000
set_option maxHeartbeats 0
namespace Fp.K33
open PySem PySem.Spec PyProof.Rows L2 Fp
abbrev R : PySem.W.OpenRow := PySem.W.OpenLaw.row PySem.Challenge.rw_floorpowers_k33_powers_by_hand
def bd : List Stmt := PySem.Challenge.pw_floorpowers_k33_powers_by_hand.main.body
def biN : List Str := ["len", "sum", "tuple", "list", "sorted", "int", "any", "all", "min", "max", "isinstance", "range", "enumerate", "zip", "bool", "str", "dict", "abs", "super"]
def t : Txt := Txt.of PySem.Challenge.pw_floorpowers_k33_powers_by_hand.main.file bd biN
def topNs : List Stmt → List Str
  | [] => []
  | .FunctionDef x _ _ _ _ _ _ _ _ _ :: r => x :: topNs r
  | .ClassDef x _ _ _ _ _ _ _ _ _ _ :: r => x :: topNs r
  | .Assign [.Name x _] _ _ :: r => x :: topNs r
  | _ :: r => topNs r
def loose : List Str := addNew [] ((topNs bd).filter fun x => !Nat.beq (keyOf x) (keyOf "law"))
def ob (s : PySem.W.SharedT) : AlR := obsRG t (HandSHeadRun.getT s)
end Fp.K33
end
section
set_option Elab.async false
set_option linter.all false
set_option maxRecDepth 100000
set_option maxHeartbeats 0
namespace Fp.K33
open PySem PySem.Spec PyProof.Rows L2 Fp
theorem run1 (w : World) (os : OsState) : (HandSHeadRun.endF (HandSHeadRun.stepQ (HandSHeadRun.denQ HandSHeadRun.tabQ) R.prog w) 40000 R.prog w os).map (fun s => (HandSHeadRun.looksF R.prog (PySem.W.boot_heap w.params) s.abs, HandSHeadRun.seenQ (PySem.W.view R.prog [155]) loose (importedModules R.prog.main.body) (fun s => PySem.W.xlAt (PySem.W.view R.prog [155]) [] s && PySem.W.recOk R.toRowW.records s) s.abs)) = some (true, PySem.W.openGood (PySem.W.view R.prog [155]) loose) := by kernel_rfl
theorem run2 (w : World) (os : OsState) : (HandSHeadRun.endF (HandSHeadRun.stepQ (HandSHeadRun.denQ HandSHeadRun.tabQ) R.prog w) 40000 R.prog w os).map ob = some (valR t) := by kernel_rfl
end Fp.K33
end
section
set_option Elab.async false
set_option linter.all false
set_option maxRecDepth 100000
set_option autoImplicit false
/-! Which slots a statement may change. -/
namespace Fp
open PySem

/-- lists alike but at is -/
def Onl {α : Type} (is : List Nat) (l l' : List α) : Prop := l'.length = l.length ∧ ∀ j, j ∉ is → l'[j]? = l[j]?
section
variable {α : Type} {is js : List Nat} {l l1 l2 : List α}
theorem Onl.refl (is : List Nat) (l : List α) : Onl is l l := ⟨rfl, fun _ _ => rfl⟩
theorem Onl.trans (a : Onl is l l1) (b : Onl is l1 l2) : Onl is l l2 := ⟨b.1.trans a.1, fun j h => (b.2 j h).trans (a.2 j h)⟩
theorem Onl.mono (a : Onl is l l1) (h : ∀ i ∈ is, i ∈ js) : Onl js l l1 := ⟨a.1, fun j hj => a.2 j fun m => hj (h j m)⟩
theorem Onl.set {i : Nat} {x : α} (h : i ∈ is) : Onl is l (l.set i x) := ⟨List.length_set, fun j hj => by
  rw [List.getElem?_set_ne]
  intro e
  subst e
  exact hj h⟩
end
theorem mem_l {i : Nat} {a b : List Nat} (h : i ∈ a) : i ∈ a ++ b := List.mem_append_left _ h
theorem mem_r {i : Nat} {a b : List Nat} (h : i ∈ b) : i ∈ a ++ b := List.mem_append_right _ h
theorem wipeN_len : ∀ (A : List Nat) (ρ : List Sl), (wipeN ρ A).length = ρ.length
  | [], _ => rfl
  | i :: r, ρ => by rw [wipeN, wipeN_len r, List.length_set]
theorem wipeN_get : ∀ (A : List Nat) (ρ : List Sl) (j : Nat), (wipeN ρ A)[j]? = if j ∈ A ∧ j < ρ.length then some .un else ρ[j]?
  | [], ρ, j => by simp [wipeN]
  | i :: r, ρ, j => by
    rw [wipeN, wipeN_get r, List.length_set]
    by_cases e : i = j
    · subst e
      by_cases h : i < ρ.length
      · by_cases m : i ∈ r
        · simp [m, h]
        · simp [m, h]
      · have : ρ[i]? = none := List.getElem?_eq_none (by omega)
        simp [h, this]
    · have e' : ¬ j = i := fun q => e q.symm
      rw [List.getElem?_set_ne e]
      simp [e']
theorem wipeN_onl (A : List Nat) (ρ : List Sl) : Onl A ρ (wipeN ρ A) := ⟨wipeN_len A ρ, fun j hj => by rw [wipeN_get, if_neg fun q => hj q.1]⟩
mutual
theorem bindT_onl : ∀ {t : Tg} {d : D} {ρ ρ' : List Sl}, bindT t d ρ = some ρ' → Onl (tg1 t) ρ ρ'
  | .nm i _ _, d, ρ, ρ', h => by
    simp only [bindT, Option.some.injEq] at h
    subst h
    exact Onl.set (by simp [tg1])
  | .tp ts _ _, d, ρ, ρ', h => by
    cases d with
    | tup ds => exact bindTs_onl (by simpa [bindT] using h)
    | lst ds => exact bindTs_onl (by simpa [bindT] using h)
    | _ => simp [bindT] at h
theorem bindTs_onl : ∀ {ts : List Tg} {ds : List D} {ρ ρ' : List Sl}, bindTs ts ds ρ = some ρ' → Onl (tgs ts) ρ ρ'
  | [], [], ρ, ρ', h => by
    simp only [bindTs, Option.some.injEq] at h
    subst h
    exact Onl.refl _ _
  | [], _ :: _, _, _, h => by simp [bindTs] at h
  | _ :: _, [], _, _, h => by simp [bindTs] at h
  | t :: ts, d :: ds, ρ, ρ', h => by
    rw [bindTs] at h
    cases e : bindT t d ρ with
    | none => rw [e] at h; cases h
    | some ρ1 =>
      rw [e] at h
      exact (Onl.mono (bindT_onl e) fun i hi => by simpa [tgs] using mem_l hi).trans (Onl.mono (bindTs_onl h) fun i hi => by simpa [tgs] using mem_r hi)
end
theorem bindP_onl : ∀ {ts : List Tg} {ss ρ ρ' : List Sl}, bindP ts ss ρ = some ρ' → Onl (tgs ts) ρ ρ'
  | [], [], ρ, ρ', h => by
    simp only [bindP, Option.some.injEq] at h
    subst h
    exact Onl.refl _ _
  | [], _ :: _, _, _, h => by simp [bindP] at h
  | .nm i _ _ :: ts, [], _, _, h => by simp [bindP] at h
  | .tp .. :: ts, ss, _, _, h => by simp [bindP] at h
  | .nm i x p :: ts, s :: ss, ρ, ρ', h => by
    rw [bindP] at h
    exact (Onl.set (by simp [tgs, tg1])).trans (Onl.mono (bindP_onl h) fun j hj => by simpa [tgs] using mem_r hj)

/-- the slots behind -/
def Flw.sl : Flw → Option (List Sl)
  | .next ρ => some ρ
  | .brk ρ => some ρ
  | .cnt ρ => some ρ
  | .ret _ => none
/-- blocks change their own slots alone -/
def KeepsR (r : Ev) : Prop := ∀ (ρ : List Sl) (g : Gs) (ss : List Sm) (f : Flw) (g' : Gs) (ρ' : List Sl), r.ss ρ g ss = .ok f g' → f.sl = some ρ' → Onl (Sm.asgds ss) ρ ρ'
section
variable {T : Tab} {r : Ev}
theorem Rs.bind_ok {α β : Type} {x : Rs α} {f : α → Gs → Rs β} {b : β} {g' : Gs} (h : x.bind f = .ok b g') : ∃ a g, x = .ok a g ∧ f a g = .ok b g' := by
  cases x with
  | ok a g => exact ⟨a, g, rfl, h⟩
  | ex c fs g => cases h
  | no => cases h
theorem Rs.of_ok {α : Type} {o : Option α} {g g' : Gs} {a : α} (h : Rs.of o g = .ok a g') : o = some a ∧ g' = g := by
  cases o with
  | none => cases h
  | some b => cases h; exact ⟨rfl, rfl⟩
theorem forGo_onl (hr : KeepsR r) {tg : Tg} {b : List Sm} : ∀ {ds : List D} {ρ : List Sl} {g g' : Gs} {f : Flw} {ρ' : List Sl}, forGo r tg b ρ g ds = .ok f g' → f.sl = some ρ' → Onl (tg1 tg ++ Sm.asgds b) ρ ρ'
  | [], ρ, g, g', f, ρ', h, e => by
    simp only [forGo, Rs.ok.injEq] at h
    rw [← h.1] at e
    cases e
    exact Onl.refl _ _
  | d :: ds, ρ, g, g', f, ρ', h, e => by
    rw [forGo] at h
    cases hb : bindT tg d ρ with
    | none => rw [hb] at h; cases h
    | some ρ1 =>
      rw [hb] at h
      have o1 := Onl.mono (bindT_onl hb) (js := tg1 tg ++ Sm.asgds b) fun i hi => mem_l hi
      obtain ⟨f1, g1, h1, h2⟩ := Rs.bind_ok h
      cases f1 with
      | next ρ2 => exact (o1.trans (Onl.mono (hr _ _ _ _ _ _ h1 rfl) fun i hi => mem_r hi)).trans (forGo_onl hr h2 e)
      | cnt ρ2 => exact (o1.trans (Onl.mono (hr _ _ _ _ _ _ h1 rfl) fun i hi => mem_r hi)).trans (forGo_onl hr h2 e)
      | brk ρ2 =>
        cases h2
        cases e
        exact o1.trans (Onl.mono (hr _ _ _ _ _ _ h1 rfl) fun i hi => mem_r hi)
      | ret d => cases h2; cases e
theorem whlGo_onl (hr : KeepsR r) {t : Xp} {b : List Sm} : ∀ {m : Nat} {ρ : List Sl} {g g' : Gs} {f : Flw} {ρ' : List Sl}, whlGo r t b m ρ g = .ok f g' → f.sl = some ρ' → Onl (Sm.asgds b) ρ ρ'
  | 0, ρ, g, g', f, ρ', h, e => by cases h
  | m + 1, ρ, g, g', f, ρ', h, e => by
    rw [whlGo] at h
    obtain ⟨k, g0, h0, h⟩ := Rs.bind_ok h
    cases k with
    | false => cases h; cases e; exact Onl.refl _ _
    | true =>
      obtain ⟨f1, g1, h1, h2⟩ := Rs.bind_ok h
      cases f1 with
      | next ρ2 => exact (hr _ _ _ _ _ _ h1 rfl).trans (whlGo_onl hr h2 e)
      | cnt ρ2 => exact (hr _ _ _ _ _ _ h1 rfl).trans (whlGo_onl hr h2 e)
      | brk ρ2 => cases h2; cases e; exact hr _ _ _ _ _ _ h1 rfl
      | ret d => cases h2; cases e
theorem suEnd_ok {n : Option (Nat × Str)} {x : Rs Flw} {f : Flw} {g' : Gs} {ρ' : List Sl} (h : suEnd n x = .ok f g') (e : f.sl = some ρ') : ∃ ρ1, x = .ok (.next ρ1) g' ∧ f = .next ρ' ∧ noXc ρ' = true ∧ ρ' = (match n with | none => ρ1 | some (i, _) => ρ1.set i .un) := by
  cases x with
  | no => cases h
  | ex c fs g => cases h
  | ok f1 g1 =>
    cases f1 with
    | brk ρ1 => cases h
    | cnt ρ1 => cases h
    | ret d => cases h; cases e
    | next ρ1 =>
      cases n with
      | none =>
        simp only [suEnd] at h
        cases q : noXc ρ1 with
        | false => rw [q] at h; cases h
        | true => rw [q] at h; cases h; cases e; exact ⟨_, rfl, rfl, q, rfl⟩
      | some p =>
        simp only [suEnd] at h
        cases q : noXc (ρ1.set p.1 .un) with
        | false => rw [q] at h; cases h
        | true => rw [q] at h; cases h; cases e; exact ⟨ρ1, rfl, rfl, q, rfl⟩
theorem handle_onl (hr : KeepsR r) {c : Nat} {fs : List D} : ∀ {hs : List Hd} {ρ : List Sl} {g g' : Gs} {f : Flw} {ρ' : List Sl}, handle T r ρ g c fs hs = .ok f g' → f.sl = some ρ' → Onl (Hd.asgds hs) ρ ρ'
  | [], ρ, g, g', f, ρ', h, e => by cases h
  | .mk cs tp n b p :: hs, ρ, g, g', f, ρ', h, e => by
    rw [handle] at h
    cases q : cs.any fun h => T.under 8 c h.1 with
    | false =>
      rw [q] at h
      exact Onl.mono (handle_onl hr h e) fun i hi => by rw [Hd.asgds]; exact mem_r hi
    | true =>
      rw [q] at h
      cases q2 : noXc ρ with
      | false => rw [q2] at h; cases h
      | true =>
        rw [q2] at h
        obtain ⟨ρ1, h1, h2, _, h3⟩ := suEnd_ok h e
        have o1 := hr _ _ _ _ _ _ h1 rfl
        have hin : ∀ i ∈ Hd.asgd (.mk cs tp n b p), i ∈ Hd.asgds (.mk cs tp n b p :: hs) := fun i hi => by rw [Hd.asgds]; exact mem_l hi
        cases n with
        | none =>
          simp only at h3
          subst h3
          exact Onl.mono o1 fun i hi => hin i (by simpa [Hd.asgd] using hi)
        | some ix =>
          obtain ⟨i, x⟩ := ix
          simp only at h3
          subst h3
          have hi : i ∈ Hd.asgds (.mk cs tp (some (i, x)) b p :: hs) := hin i (by simp [Hd.asgd])
          exact ((Onl.set hi).trans (Onl.mono o1 fun j hj => hin j (by simp [Hd.asgd, hj]))).trans (Onl.set hi)
theorem stepS_onl (hr : KeepsR r) {s : Sm} {ρ : List Sl} {g g' : Gs} {f : Flw} {ρ' : List Sl} (h : stepS T r ρ g s = .ok f g') (e : f.sl = some ρ') : Onl s.asgd ρ ρ' := by
  cases s with
  | asg m i x ex q p =>
    obtain ⟨d, g1, h1, h2⟩ := Rs.bind_ok h
    cases h2; cases e
    exact Onl.set (by simp [Sm.asgd])
  | asgT ms ts es k k' q q' p =>
    obtain ⟨ds, g1, h1, h2⟩ := Rs.bind_ok h
    obtain ⟨ρ1, g2, h3, h4⟩ := Rs.bind_ok h2
    cases h4; cases e
    exact by simpa [Sm.asgd] using bindP_onl (Rs.of_ok h3).1
  | unp ts ex k q p =>
    obtain ⟨d, g1, h1, h2⟩ := Rs.bind_ok h
    obtain ⟨ρ1, g2, h3, h4⟩ := Rs.bind_ok h2
    cases h4; cases e
    have := bindT_onl (Rs.of_ok h3).1
    simpa [Sm.asgd, tg1] using this
  | setI i x k ex q1 q p =>
    simp only [stepS] at h
    split at h
    · obtain ⟨d, g1, h1, h2⟩ := Rs.bind_ok h
      obtain ⟨y, g2, h3, h4⟩ := Rs.bind_ok h2
      split at h4
      · split at h4
        · cases h4; cases e; exact Onl.set (by simp [Sm.asgd])
        · cases h4
      · cases h4
    · obtain ⟨d, g1, h1, h2⟩ := Rs.bind_ok h
      obtain ⟨y, g2, h3, h4⟩ := Rs.bind_ok h2
      split at h4
      · cases h4; cases e; exact Onl.set (by simp [Sm.asgd])
      · cases h4
    · cases h
  | app i x ex q1 q2 q p =>
    simp only [stepS] at h
    split at h
    · obtain ⟨d, g1, h1, h2⟩ := Rs.bind_ok h
      split at h2
      · cases h2; cases e; exact Onl.set (by simp [Sm.asgd])
      · cases h2
    · cases h
  | ext i x ex q1 q2 q p =>
    simp only [stepS] at h
    split at h
    · obtain ⟨d, g1, h1, h2⟩ := Rs.bind_ok h
      split at h2
      · split at h2
        · cases h2; cases e; exact Onl.set (by simp [Sm.asgd])
        · cases h2
      · cases h2
    · cases h
  | expr ex p =>
    obtain ⟨d, g1, h1, h2⟩ := Rs.bind_ok h
    cases h2; cases e
    exact Onl.refl _ _
  | ret ex p =>
    obtain ⟨d, g1, h1, h2⟩ := Rs.bind_ok h
    cases h2; cases e
  | retN p => cases h; cases e
  | iff t a b p =>
    obtain ⟨k, g1, h1, h2⟩ := Rs.bind_ok h
    cases k with
    | true => exact Onl.mono (hr _ _ _ _ _ _ h2 e) fun i hi => by rw [Sm.asgd]; exact mem_l hi
    | false => exact Onl.mono (hr _ _ _ _ _ _ h2 e) fun i hi => by rw [Sm.asgd]; exact mem_r hi
  | «for» tg it b p =>
    obtain ⟨ds, g1, h1, h2⟩ := Rs.bind_ok h
    simpa [Sm.asgd] using forGo_onl hr h2 e
  | whl t b p => simpa [Sm.asgd] using whlGo_onl hr h e
  | rai c x es q1 q p =>
    obtain ⟨ds, g1, h1, h2⟩ := Rs.bind_ok h
    cases h2
  | «try» k b hs p =>
    simp only [stepS] at h
    cases q : r.ss ρ g b with
    | no => rw [q] at h; cases h
    | ok f1 g1 =>
      rw [q] at h
      cases h
      exact Onl.mono (hr _ _ _ _ _ _ q e) fun i hi => by rw [Sm.asgd]; exact mem_l hi
    | ex c fs g1 =>
      rw [q] at h
      simp only at h
      cases hk : k && Nat.blt c T.sup.length with
      | false => rw [hk] at h; cases h
      | true =>
      rw [hk] at h
      exact (Onl.mono (wipeN_onl (Sm.asgds b) ρ) fun i hi => by rw [Sm.asgd]; exact mem_l hi).trans (Onl.mono (handle_onl hr h e) fun i hi => by rw [Sm.asgd]; exact mem_r hi)
  | pas p => cases h; cases e; exact Onl.refl _ _
  | brk p => cases h; cases e; exact Onl.refl _ _
  | cnt p => cases h; cases e; exact Onl.refl _ _
  | frz i =>
    simp only [stepS] at h
    split at h
    · cases h; cases e; exact Onl.set (by simp [Sm.asgd])
    · cases h; cases e; exact Onl.refl _ _
theorem stepSs_onl (hr : KeepsR r) : ∀ {ss : List Sm} {ρ : List Sl} {g g' : Gs} {f : Flw} {ρ' : List Sl}, stepSs T r ρ g ss = .ok f g' → f.sl = some ρ' → Onl (Sm.asgds ss) ρ ρ'
  | [], ρ, g, g', f, ρ', h, e => by cases h; cases e; exact Onl.refl _ _
  | s :: ss, ρ, g, g', f, ρ', h, e => by
    rw [stepSs] at h
    obtain ⟨f1, g1, h1, h2⟩ := Rs.bind_ok h
    have l : ∀ i ∈ s.asgd, i ∈ Sm.asgds (s :: ss) := fun i hi => by rw [Sm.asgds]; exact mem_l hi
    cases f1 with
    | next ρ1 => exact (Onl.mono (stepS_onl hr h1 rfl) l).trans (Onl.mono (stepSs_onl hr h2 e) fun i hi => by rw [Sm.asgds]; exact mem_r hi)
    | brk ρ1 => cases h2; exact Onl.mono (stepS_onl hr h1 e) l
    | cnt ρ1 => cases h2; exact Onl.mono (stepS_onl hr h1 e) l
    | ret d => cases h2; cases e
end
theorem keeps_ev (T : Tab) : ∀ n, KeepsR (ev T n)
  | 0 => fun _ _ _ _ _ _ h _ => by cases h
  | n + 1 => fun _ _ _ _ _ _ h e => stepSs_onl (keeps_ev T n) h e
end Fp
end
section
set_option Elab.async false
set_option linter.all false
set_option maxRecDepth 100000
/-! Back to PySem's syntax; what is asked of a text. -/
namespace Fp
open PySem

/-! ### back -/
mutual
def Tg.un : Tg → Expr
  | .nm _ x p => .Name x p
  | .tp ts k p => .Tuple (Tg.uns ts) k p
def Tg.uns : List Tg → List Expr
  | [] => []
  | t :: ts => t.un :: Tg.uns ts
end
def tyUn : List (Ty × Str × Pos) → List Expr
  | [] => []
  | (_, x, p) :: r => .Name x p :: tyUn r
def tyUn1 (ts : List (Ty × Str × Pos)) : Option (Nat × Pos) → Expr
  | some (k, p) => .Tuple (tyUn ts) k p
  | none => (match ts with
    | (_, x, p) :: _ => .Name x p
    | [] => .Tuple [] 0 ⟨0, 0, 0, 0⟩)
mutual
def Xp.un : Xp → Expr
  | .v _ x p => .Name x p
  | .pk _ x p => .Name x p
  | .gc _ x p => .Name x p
  | .gf _ x p => .Name x p
  | .c k j p => .Constant k j p
  | .tup es k p => .Tuple (Xp.uns es) k p
  | .lst es p => .List (Xp.uns es) p
  | .star e p => .Starred (Xp.un e) p
  | .dis ks vs p => .Dict (Xp.unso ks) (Xp.uns vs) p
  | .bin a op b p => .BinOp (Xp.un a) op (Xp.un b) p
  | .neg a p => .UnaryOp .USub (Xp.un a) p
  | .not a p => .UnaryOp .Not (Xp.un a) p
  | .and es p => .BoolOp .And (Xp.uns es) p
  | .or es p => .BoolOp .Or (Xp.uns es) p
  | .cmp a op b p => .Compare (Xp.un a) [op] [Xp.un b] p
  | .chain a op b op' c p => .Compare (Xp.un a) [op, op'] [Xp.un b, Xp.un c] p
  | .ife t a b p => .IfExp (Xp.un t) (Xp.un a) (Xp.un b) p
  | .sub a i p => .Subscript (Xp.un a) (Xp.un i) p
  | .slc a lo hi q p => .Subscript (Xp.un a) (.Slice (Xp.uno lo) (Xp.uno hi) none q) p
  | .call _ x es q p => .Call (.Name x q) (Xp.uns es) [] p
  | .callV _ x es q p => .Call (.Name x q) (Xp.uns es) [] p
  | .bi _ x es q p => .Call (.Name x q) (Xp.uns es) [] p
  | .lrng x y es q1 q2 q p => .Call (.Name x q1) [.Call (.Name y q2) (Xp.uns es) [] q] [] p
  | .isi a ts tp q p => .Call (.Name "isinstance" q) [Xp.un a, tyUn1 ts tp] [] p
  | .meth _ m a es q p => .Call (.Attribute (Xp.un a) m q) (Xp.uns es) [] p
  | .lc e tg it ifs _ sc p => .ListComp (Xp.un e) [⟨tg.un, Src.un it, Xp.uns ifs, 0⟩] sc p
  | .dc k e tg it ifs _ sc p => .DictComp (Xp.un k) (Xp.un e) [⟨tg.un, Src.un it, Xp.uns ifs, 0⟩] sc p
  | .att _ x _ f q p => .Attribute (.Name x q) f p
def Xp.uns : List Xp → List Expr
  | [] => []
  | e :: es => Xp.un e :: Xp.uns es
def Xp.unso : List Xp → List (Option Expr)
  | [] => []
  | e :: es => some (Xp.un e) :: Xp.unso es
def Xp.uno : Option Xp → Option Expr
  | none => none
  | some e => some (Xp.un e)
def Src.un : Src → Expr
  | .src e => Xp.un e
  | .rng x es q p => .Call (.Name x q) (Xp.uns es) [] p
  | .enum x e q p => .Call (.Name x q) [Xp.un e] [] p
  | .zip x a b q p => .Call (.Name x q) [Xp.un a, Xp.un b] [] p
end
def clUn : List (Nat × Str × Pos) → List Expr
  | [] => []
  | (_, x, p) :: r => .Name x p :: clUn r
def clUn1 (cs : List (Nat × Str × Pos)) : Option (Nat × Pos) → Expr
  | some (k, p) => .Tuple (clUn cs) k p
  | none => (match cs with
    | (_, x, p) :: _ => .Name x p
    | [] => .Tuple [] 0 ⟨0, 0, 0, 0⟩)
def nmUn : Option (Nat × Str) → Option Str
  | none => none
  | some (_, x) => some x
mutual
def Sm.un : Sm → Stmt
  | .asg _ _ x e q p => .Assign [.Name x q] (Xp.un e) p
  | .asgT _ ts es k k' q q' p => .Assign [.Tuple (Tg.uns ts) k q] (.Tuple (Xp.uns es) k' q') p
  | .unp ts e k q p => .Assign [.Tuple (Tg.uns ts) k q] (Xp.un e) p
  | .setI _ x k e q1 q p => .Assign [.Subscript (.Name x q1) (Xp.un k) q] (Xp.un e) p
  | .app _ x e q1 q2 q p => .Expr (.Call (.Attribute (.Name x q1) "append" q2) [Xp.un e] [] q) p
  | .ext _ x e q1 q2 q p => .Expr (.Call (.Attribute (.Name x q1) "extend" q2) [Xp.un e] [] q) p
  | .expr e p => .Expr (Xp.un e) p
  | .ret e p => .Return (some (Xp.un e)) p
  | .retN p => .Return none p
  | .iff t a b p => .If (Xp.un t) (Sm.uns a) (Sm.uns b) p
  | .for tg it b p => .For tg.un it.un (Sm.uns b) [] p
  | .whl t b p => .While (Xp.un t) (Sm.uns b) [] p
  | .rai _ x es q1 q p => .Raise (some (.Call (.Name x q1) (Xp.uns es) [] q)) none p
  | .try _ b hs p => .Try (Sm.uns b) (Hd.uns hs) [] [] p
  | .pas p => .Pass p
  | .brk p => .Break p
  | .cnt p => .Continue p
  | .frz _ => .Pass ⟨0, 0, 0, 0⟩
def Sm.uns : List Sm → List Stmt
  | [] => []
  | s :: r => match s with
    | .frz _ => Sm.uns r
    | s => Sm.un s :: Sm.uns r
def Hd.un : Hd → ExceptHandler
  | .mk cs tp n b p => .ExceptHandler (some (clUn1 cs tp)) (nmUn n) (Sm.uns b) p
def Hd.uns : List Hd → List ExceptHandler
  | [] => []
  | h :: hs => Hd.un h :: Hd.uns hs
end
end Fp
end
section
set_option Elab.async false
set_option linter.all false
set_option maxRecDepth 100000
set_option autoImplicit false
/-! What data stand for which values; what a state knows. -/
namespace Fp
open PySem PySem.Spec PyProof.Rows L2

/-- what is fixed: the written part, where defs and classes stand -/
structure Fx where
  P : Program
  w : World
  K : PySem.W.Frag
  mg : Str → Option Value
  base : Heap
  T : Tab
  fa : Nat → Addr
  ca : Nat → Addr
  fl : Nat → List Str

mutual
/-- the key that data are -/
def D.nk : D → NestedKey
  | .bl b => .num (Fp.b2i b)
  | .int i => .num i
  | .str x => .text x
  | .tup xs => .tup (D.nks xs)
  | _ => .none
def D.nks : List D → List NestedKey
  | [] => []
  | x :: xs => D.nk x :: D.nks xs
end

/-- a dict whose keys are nested tuples: key, the tuple's address, value -/
def DicO (w : World) (P : Program) (a : Addr) (ents : List (NestedKey × Addr × V)) : HO := .ext fun h =>
  ents.length ≤ sizeLine ∧ (a == sysModules) = false ∧ ∃ xs : List (NestedKey × Addr × Value),
    Paired (fun (p : NestedKey × Addr × V) (q : NestedKey × Addr × Value) => p.1 = q.1 ∧ p.2.1 = q.2.1 ∧ RelV p.2.2 q.2.2) ents xs ∧
    ∃ o es ep, h.get? a = some o ∧ o.ExactDict ∧ o.data = .dict es ep ∧ es.toList = xs.map (entryOfKey (nestedKind P w)) ∧ (xs.map (·.1)).Nodup

inductive RepFlat : List (Key × V) → List D → Prop
  | nil : RepFlat [] []
  | int {i : Int} {v : V} {r : List (Key × V)} {ds : List D} : RepFlat r ds → RepFlat ((.inl i, v) :: r) (.int i :: ds)
  | str {x : Str} {v : V} {r : List (Key × V)} {ds : List D} : RepFlat r ds → RepFlat ((.inr x, v) :: r) (.str x :: ds)
mutual
inductive Rep (F : Fx) (z : List Addr) (G : Hp) : V → D → Prop
  | non : Rep F z G .non .non
  | bl (b : Bool) : Rep F z G (.bl b) (.bl b)
  | int (i : Int) : Rep F z G (.int i) (.int i)
  | str (x : Str) : Rep F z G (.str x) (.str x)
  | tup {a : Addr} {vs : List V} {ds : List D} : SqT F.K G a vs → RepAll F z G vs ds → Rep F z G (.ref a) (.tup ds)
  | lst {a : Addr} {vs : List V} {ds : List D} : G a = some (.lst vs) → RepAll F z G vs ds → Rep F z G (.ref a) (.lst ds)
  | dicT {a : Addr} {ents : List (NestedKey × Addr × V)} {ks vs : List D} : G a = some (DicO F.w F.P a ents) → RepKeys F z G ents ks → RepAll F z G (ents.map (·.2.2)) vs → Rep F z G (.ref a) (.dic ks vs)
  | dicK {a : Addr} {kvs : List (Key × V)} {ks vs : List D} : G a = some (.dK kvs) → RepFlat kvs ks → RepAll F z G (kvs.map (·.2)) vs → Rep F z G (.ref a) (.dic ks vs)
  | fn (f : Nat) : Rep F z G (.ref (F.fa f)) (.fn f)
  | tok {m : Addr} {r : List Addr} : z = m :: r → Rep F z G (.ref m) .tok
  | scr {a : Addr} {ns : List Int} : SqL F.K G a (ns.map V.int) → Rep F z G (.ref a) (.scr ns)
inductive RepAll (F : Fx) (z : List Addr) (G : Hp) : List V → List D → Prop
  | nil : RepAll F z G [] []
  | cons {v : V} {vs : List V} {d : D} {ds : List D} : Rep F z G v d → RepAll F z G vs ds → RepAll F z G (v :: vs) (d :: ds)
inductive RepKeys (F : Fx) (z : List Addr) (G : Hp) : List (NestedKey × Addr × V) → List D → Prop
  | nil : RepKeys F z G [] []
  | cons {b : Addr} {v : V} {r : List (NestedKey × Addr × V)} {d : D} {ds : List D} : Rep F z G (.ref b) d → keyOk d = true → RepKeys F z G r ds → RepKeys F z G ((d.nk, b, v) :: r) (d :: ds)
end

/-- a part of a heap -/
def Sub (G H : Hp) : Prop := ∀ a o, G a = some o → H a = some o
theorem Sub.refl (H : Hp) : Sub H H := fun _ _ h => h
theorem Sub.trans {A B C : Hp} (h : Sub A B) (k : Sub B C) : Sub A C := fun a o x => k a o (h a o x)
theorem Sub.upd {G H : Hp} {a : Addr} {o : HO} (h : Sub G H) : Sub (upd G a o) (upd H a o) := fun b x e => by
  by_cases hb : b = a
  · subst hb; rw [upd_same] at e ⊢; exact e
  · rw [upd_ne hb] at e ⊢; exact h b x e
theorem Sub.new {G H : Hp} {a : Addr} {o : HO} (h : Sub G H) (n : H a = none) : Sub G (L2.upd H a o) := fun b x e => by
  have := h b x e
  rw [upd_ne (ne_of_none this n)]; exact this

theorem rdSub {G H : Hp} {a : Addr} {o : HO} (s : Sub G H) (h : Rd G a o) : Rd H a o := by
  rcases h with h | ⟨ob, h⟩
  · exact .inl (s _ _ h)
  · exact .inr ⟨ob, s _ _ h⟩
theorem sqTSub {K : PySem.W.Frag} {G H : Hp} {a : Addr} {xs : List V} (s : Sub G H) (h : SqT K G a xs) : SqT K H a xs := by
  rcases h with h | h
  · exact .inl (rdSub s h)
  · exact .inr h
theorem sqLSub {K : PySem.W.Frag} {G H : Hp} {a : Addr} {xs : List V} (s : Sub G H) (h : SqL K G a xs) : SqL K H a xs := by
  rcases h with h | h
  · exact .inl (rdSub s h)
  · exact .inr h

/-- the drawing state's addresses: none as yet, or the same -/
def Zl (z z' : List Addr) : Prop := z = [] ∨ z' = z
theorem Zl.refl (z : List Addr) : Zl z z := .inr rfl
theorem Zl.trans {a b c : List Addr} (h : Zl a b) (k : Zl b c) : Zl a c := by
  rcases h with h | h
  · exact .inl h
  · subst h; exact k

section
variable {F : Fx} {z z' : List Addr} {G G' : Hp}
mutual
theorem Rep.mono (hz : Zl z z') (s : Sub G G') : ∀ {v : V} {d : D}, Rep F z G v d → Rep F z' G' v d
  | _, _, .non => .non
  | _, _, .bl b => .bl b
  | _, _, .int i => .int i
  | _, _, .str x => .str x
  | _, _, .tup h r => .tup (sqTSub s h) (RepAll.mono hz s r)
  | _, _, .lst h r => .lst (s _ _ h) (RepAll.mono hz s r)
  | _, _, .dicT h k r => .dicT (s _ _ h) (RepKeys.mono hz s k) (RepAll.mono hz s r)
  | _, _, .dicK h k r => .dicK (s _ _ h) k (RepAll.mono hz s r)
  | _, _, .fn f => .fn f
  | _, _, .scr h => .scr (sqLSub s h)
  | _, _, .tok e => by
    rcases hz with hz | hz
    · rw [hz] at e; cases e
    · exact .tok (hz.trans e)
theorem RepAll.mono (hz : Zl z z') (s : Sub G G') : ∀ {vs : List V} {ds : List D}, RepAll F z G vs ds → RepAll F z' G' vs ds
  | _, _, .nil => .nil
  | _, _, .cons h r => .cons (Rep.mono hz s h) (RepAll.mono hz s r)
theorem RepKeys.mono (hz : Zl z z') (s : Sub G G') : ∀ {es : List (NestedKey × Addr × V)} {ds : List D}, RepKeys F z G es ds → RepKeys F z' G' es ds
  | _, _, .nil => .nil
  | _, _, .cons h e r => .cons (Rep.mono hz s h) e (RepKeys.mono hz s r)
end
theorem RepAll.length : ∀ {vs : List V} {ds : List D}, RepAll F z G vs ds → vs.length = ds.length
  | _, _, .nil => rfl
  | _, _, .cons _ r => by simp [RepAll.length r]
theorem RepAll.append : ∀ {vs ws : List V} {ds es : List D}, RepAll F z G vs ds → RepAll F z G ws es → RepAll F z G (vs ++ ws) (ds ++ es)
  | _, _, _, _, .nil, s => s
  | _, _, _, _, .cons h r, s => .cons h (RepAll.append r s)
theorem RepAll.get : ∀ {vs : List V} {ds : List D} {i : Nat} {d : D}, RepAll F z G vs ds → ds[i]? = some d → ∃ v, vs[i]? = some v ∧ Rep F z G v d
  | _, _, _, _, .nil, e => by simp at e
  | _, _, 0, _, .cons h _, e => by simp at e; subst e; exact ⟨_, rfl, h⟩
  | _, _, i + 1, d, .cons _ r, e => by
    obtain ⟨v, a, b⟩ := RepAll.get (i := i) (d := d) r (by simpa using e)
    exact ⟨v, by simpa using a, b⟩
theorem RepAll.getV : ∀ {vs : List V} {ds : List D} {i : Nat} {v : V}, RepAll F z G vs ds → vs[i]? = some v → ∃ d, ds[i]? = some d ∧ Rep F z G v d
  | _, _, _, _, .nil, e => by simp at e
  | _, _, 0, _, .cons h _, e => by simp at e; subst e; exact ⟨_, rfl, h⟩
  | _, _, i + 1, d, .cons _ r, e => by
    obtain ⟨v, a, b⟩ := RepAll.getV (i := i) (v := d) r (by simpa using e)
    exact ⟨v, by simpa using a, b⟩
theorem RepAll.take : ∀ {vs : List V} {ds : List D} (n : Nat), RepAll F z G vs ds → RepAll F z G (vs.take n) (ds.take n)
  | _, _, 0, _ => .nil
  | _, _, _ + 1, .nil => .nil
  | _, _, n + 1, .cons h r => .cons h (RepAll.take n r)
theorem RepAll.drop : ∀ {vs : List V} {ds : List D} (n : Nat), RepAll F z G vs ds → RepAll F z G (vs.drop n) (ds.drop n)
  | _, _, 0, r => r
  | _, _, _ + 1, .nil => .nil
  | _, _, n + 1, .cons _ r => RepAll.drop n r
theorem RepAll.set {v : V} {d : D} (h : Rep F z G v d) : ∀ {vs : List V} {ds : List D} (i : Nat), RepAll F z G vs ds → RepAll F z G (vs.set i v) (ds.set i d)
  | _, _, _, .nil => .nil
  | _, _, 0, .cons _ r => .cons h r
  | _, _, i + 1, .cons q r => .cons q (RepAll.set h i r)
end

/-- what a list or dict that is owned holds -/
def OwnAt (F : Fx) (z : List Addr) (G H : Hp) (a : Addr) : D → Prop
  | .lst ds => ∃ vs, H a = some (.lst vs) ∧ RepAll F z G vs ds
  | .dic ks vs => (∃ ents, H a = some (DicO F.w F.P a ents) ∧ RepKeys F z G ents ks ∧ RepAll F z G (ents.map (·.2.2)) vs) ∨
      (∃ kvs, H a = some (.dK kvs) ∧ RepFlat kvs ks ∧ RepAll F z G (kvs.map (·.2)) vs)
  | _ => False

/-- the drawing state in the heap -/
def RngAt (F : Fx) (z : List Addr) (g : Gs) (H : Hp) : Prop :=
  (z = [] ∧ g.cells = []) ∨ ∃ m c r : Addr, z = [m, c, r] ∧ m ≠ c ∧ m ≠ r ∧ c ≠ r ∧
    H m = some (.dK [(.inr "cells", .ref c), (.inr "great", .ref r), (.inr "spot", .int g.spot)]) ∧
    H c = some (.lst (g.cells.map V.int)) ∧ H r = some (.lst (g.great.map V.int)) ∧ g.cells.length = 64 ∧ 0 ≤ g.spot ∧ g.great.length ≤ 64000

/-- the fields of an error of the class c, in its dict at d -/
def XfAt (F : Fx) (z : List Addr) (G : Hp) (c : Nat) (fs : List D) (d : Addr) : Prop :=
  ∃ xs : List (Str × V), G d = some (.xd xs) ∧ ∀ (m : Nat) (f : Str) (x : D), (F.fl c)[m]? = some f → fs[m]? = some x → ∃ v, xs.lookup f = some v ∧ Rep F z G v x
theorem XfAt.mono {F : Fx} {z z' : List Addr} {G G' : Hp} {c : Nat} {fs : List D} {d : Addr} (hz : Zl z z') (s : Sub G G') (h : XfAt F z G c fs d) : XfAt F z' G' c fs d := by
  obtain ⟨xs, h1, h2⟩ := h
  refine ⟨xs, s _ _ h1, fun m f x e1 e2 => ?_⟩
  obtain ⟨v, h3, h4⟩ := h2 m f x e1 e2
  exact ⟨v, h3, h4.mono hz s⟩
/-- what the callers own; errors that are handled: address, class, its dict -/
structure Prv where
  own : Addr → Prop
  xp : Addr → Nat → Addr → Prop
/-- a state of a frame: ρ its slots; G what is shared; Pt what the callers own -/
structure Rel (F : Fx) (Pt : Prv) (z : List Addr) (ρ : List Sl) (σ : L2.St) (G H : Hp) : Prop where
  sub : Sub G H
  zG : ∀ a ∈ z, G a = none
  len : ρ.length = σ.length
  sh : ∀ (i : Nat) (d : D), ρ[i]? = some (.sh d) → ∃ v, σ[i]? = some (some v) ∧ Rep F z G v d
  ow : ∀ (i : Nat) (d : D), ρ[i]? = some (.ow d) → ∃ a, σ[i]? = some (some (.ref a)) ∧ G a = none ∧ a ∉ z ∧ ¬ Pt.own a ∧ OwnAt F z G H a d
  inj : ∀ (i j : Nat) (d e : D) (a : Addr), ρ[i]? = some (.ow d) → ρ[j]? = some (.ow e) → σ[i]? = some (some (.ref a)) → σ[j]? = some (some (.ref a)) → i = j
  pt : ∀ a, Pt.own a → G a = none ∧ (∃ o, H a = some o) ∧ a ∉ z
  xc : ∀ (i c : Nat) (fs : List D), ρ[i]? = some (.xc c fs) → ∃ a d : Addr, σ[i]? = some (some (.ref a)) ∧ Pt.xp a c d ∧ XfAt F z G c fs d

/-- behind an expression: all that stood stands (but the drawing state), what is shared has grown by new things -/
structure Grow (z : List Addr) (G H : Hp) (z' : List Addr) (G' H' : Hp) : Prop where
  zl : Zl z z'
  same : ∀ a o, H a = some o → a ∉ z → H' a = some o
  sub' : Sub G' H'
  sub : Sub G G'
  new : ∀ a, G' a ≠ none → G a ≠ none ∨ H a = none
  zG : ∀ a ∈ z', G' a = none
  zn : z = [] → ∀ c ∈ z', H c = none
theorem Grow.refl {z : List Addr} {G H : Hp} (s : Sub G H) (hz : ∀ a ∈ z, G a = none) : Grow z G H z G H :=
  ⟨.refl z, fun _ _ h _ => h, s, .refl G, fun _ h => .inl h, hz, fun e c m => by rw [e] at m; cases m⟩
theorem Grow.trans {z z1 z2 : List Addr} {G G1 G2 H H1 H2 : Hp} (a : Grow z G H z1 G1 H1) (b : Grow z1 G1 H1 z2 G2 H2) : Grow z G H z2 G2 H2 where
  zl := a.zl.trans b.zl
  same := fun c o h n => by
    refine b.same c o (a.same c o h n) fun m => ?_
    rcases a.zl with e | e
    · have := a.zn e c m; rw [h] at this; cases this
    · rw [e] at m; exact n m
  sub' := b.sub'
  sub := a.sub.trans b.sub
  new := fun c h0 => by
    rcases b.new c h0 with h | h
    · exact a.new c h
    · cases e : H c with
      | none => exact .inr rfl
      | some o =>
        by_cases n : c ∈ z
        · rcases a.zl with e' | e'
          · rw [e'] at n; cases n
          · exfalso
            have q := b.zG c (by
              rcases b.zl with r | r
              · rw [e'] at r; rw [r] at n; cases n
              · rw [r, e']; exact n)
            exact h0 q
        · have := a.same c o e n; rw [h] at this; cases this
  zG := b.zG
  zn := fun e c m => by
    rcases b.zl with r | r
    · have h1 := b.zn r c m
      cases q : H c with
      | none => rfl
      | some o =>
        have := a.same c o q (by rw [e]; simp)
        rw [h1] at this; cases this
    · rw [r] at m; exact a.zn e c m

section
variable {F : Fx} {Pt : Prv} {z z' : List Addr} {ρ : List Sl} {σ : L2.St} {G H G' H' : Hp}
theorem OwnAt.grow {a : Addr} {d : D} (g : Grow z G H z' G' H') (hz : a ∉ z) (h : OwnAt F z G H a d) : OwnAt F z' G' H' a d := by
  cases d with
  | lst ds => obtain ⟨vs, h1, h2⟩ := h; exact ⟨vs, g.same _ _ h1 hz, h2.mono g.zl g.sub⟩
  | dic ks vs =>
    rcases h with ⟨e, h1, h2, h3⟩ | ⟨e, h1, h2, h3⟩
    · exact .inl ⟨e, g.same _ _ h1 hz, h2.mono g.zl g.sub, h3.mono g.zl g.sub⟩
    · exact .inr ⟨e, g.same _ _ h1 hz, h2, h3.mono g.zl g.sub⟩
  | _ => exact h.elim
theorem OwnAt.there {a : Addr} {d : D} (h : OwnAt F z G H a d) : ∃ o, H a = some o := by
  cases d with
  | lst ds => obtain ⟨vs, h1, h2⟩ := h; exact ⟨_, h1⟩
  | dic ks vs =>
    rcases h with ⟨e, h1, h2, h3⟩ | ⟨e, h1, h2, h3⟩
    · exact ⟨_, h1⟩
    · exact ⟨_, h1⟩
  | _ => exact h.elim
/-- the frame's state goes along with an expression -/
theorem Rel.grow (r : Rel F Pt z ρ σ G H) (g : Grow z G H z' G' H') : Rel F Pt z' ρ σ G' H' where
  sub := g.sub'
  zG := g.zG
  len := r.len
  sh := fun i d e => by
    obtain ⟨v, h1, h2⟩ := r.sh i d e
    exact ⟨v, h1, h2.mono g.zl g.sub⟩
  ow := fun i d e => by
    obtain ⟨a, h1, h2, h3, h4, h5⟩ := r.ow i d e
    obtain ⟨o, ho⟩ := h5.there
    refine ⟨a, h1, ?_, ?_, h4, h5.grow g h3⟩
    · cases q : G' a with
      | none => rfl
      | some x =>
        rcases g.new a (by rw [q]; simp) with y | y
        · exact absurd h2 y
        · rw [ho] at y; cases y
    · intro m
      rcases g.zl with q | q
      · have := g.zn q a m; rw [ho] at this; cases this
      · rw [q] at m; exact h3 m
  inj := r.inj
  pt := fun a p => by
    obtain ⟨h1, ⟨o, h2⟩, h3⟩ := r.pt a p
    refine ⟨?_, ⟨o, g.same a o h2 h3⟩, ?_⟩
    · cases q : G' a with
      | none => rfl
      | some x =>
        rcases g.new a (by rw [q]; simp) with y | y
        · exact absurd h1 y
        · rw [h2] at y; cases y
    · intro m
      rcases g.zl with q | q
      · have := g.zn q a m; rw [h2] at this; cases this
      · rw [q] at m; exact h3 m
  xc := fun i c fs e => by
    obtain ⟨a, d, h1, h2, h3⟩ := r.xc i c fs e
    exact ⟨a, d, h1, h2, h3.mono g.zl g.sub⟩
/-- a new shared thing -/
theorem Grow.laid (s : Sub G H) (hz : ∀ a ∈ z, G a = none) {p : Addr} {o : HO} (n : H p = none) (nz : p ∉ z) : Grow z G H z (upd G p o) (upd H p o) where
  zl := .refl z
  same := fun a u h _ => by rw [upd_ne (ne_of_none h n)]; exact h
  sub' := s.upd
  sub := fun a u h => by rw [upd_ne (ne_of_none (s a u h) n)]; exact h
  new := fun a h => by
    by_cases e : a = p
    · subst e; exact .inr n
    · rw [upd_ne e] at h; exact .inl h
  zG := fun a m => by
    rw [upd_ne (show a ≠ p from fun e => nz (by rw [← e]; exact m))]; exact hz a m
  zn := fun e c m => by rw [e] at m; cases m
/-- a new thing that is not shared -/
theorem Grow.aside (s : Sub G H) (hz : ∀ a ∈ z, G a = none) {p : Addr} {o : HO} (n : H p = none) : Grow z G H z G (upd H p o) where
  zl := .refl z
  same := fun a u h _ => by rw [upd_ne (ne_of_none h n)]; exact h
  sub' := s.new n
  sub := .refl G
  new := fun a h => .inl h
  zG := hz
  zn := fun e c m => by rw [e] at m; cases m
end
/-- the drawing state's addresses stand -/
theorem RngAt.there {F : Fx} {z : List Addr} {g : Gs} {H : Hp} (h : RngAt F z g H) {p : Addr} (n : H p = none) : p ∉ z := by
  rcases h with h | ⟨m, c, r, e, _, _, _, h1, h2, h3⟩
  · rw [h.1]; simp
  · intro q
    rw [e] at q
    simp only [List.mem_cons, List.not_mem_nil, or_false] at q
    rcases q with rfl | rfl | rfl
    · rw [h1] at n; cases n
    · rw [h2] at n; cases n
    · rw [h3.1] at n; cases n
theorem RngAt.keep {F : Fx} {z : List Addr} {g : Gs} {H H' : Hp} (h : RngAt F z g H) (k : ∀ a o, H a = some o → H' a = some o) : RngAt F z g H' := by
  rcases h with h | ⟨m, c, r, e, n1, n2, n3, h1, h2, h3⟩
  · exact .inl h
  · exact .inr ⟨m, c, r, e, n1, n2, n3, k _ _ h1, k _ _ h2, k _ _ h3.1, h3.2⟩

/-! ### an error in the air -/
/-- its class, its own dict -/
def ExcAt (F : Fx) (z : List Addr) (G H : Hp) (c : Nat) (fs : List D) (da : Option Addr) : Prop := ∃ d : Addr, da = some d ∧ XfAt F z G c fs d
end Fp
end
section
set_option Elab.async false
set_option linter.all false
set_option maxRecDepth 100000
set_option autoImplicit false
/-! Data and PySem's own data. -/
namespace Fp
open PySem PySem.Spec PyProof.Rows L2

mutual
def D.toP : D → PyData
  | .bl b => .bool b
  | .int i => .int i
  | .str x => .str x
  | .tup xs => .tuple (D.toPs xs)
  | .lst xs => .list (D.toPs xs)
  | _ => .none
def D.toPs : List D → List PyData
  | [] => []
  | x :: xs => D.toP x :: D.toPs xs
end
theorem toPs_length : ∀ xs : List D, (D.toPs xs).length = xs.length
  | [] => rfl
  | _ :: xs => by simp [D.toPs, toPs_length xs]

theorem strEq_iff : ∀ a b : List Nat, strEq a b = decide (a = b)
  | [], [] => rfl
  | [], _ :: _ => rfl
  | _ :: _, [] => rfl
  | a :: r, b :: s => by
    show (match Nat.beq a b with | true => strEq r s | false => false) = _
    cases h : Nat.beq a b with
    | true =>
      have e := Nat.eq_of_beq_eq_true h
      subst e
      simp [strEq_iff r s]
    | false =>
      have e := Nat.ne_of_beq_eq_false h
      simp [e]
theorem str_ext {x y : Str} (h : x.cps.toList = y.cps.toList) : x = y := by
  obtain ⟨x⟩ := x
  obtain ⟨y⟩ := y
  have : x = y := by simpa using congrArg List.toArray h
  rw [this]
theorem strEq_str (x y : Str) : strEq x.cps.toList y.cps.toList = (x == y) := by
  rw [strEq_iff, Bool.beq_eq_decide_eq]
  by_cases h : x = y
  · subst h; simp
  · rw [decide_eq_false h, decide_eq_false (fun e => h (str_ext e))]
theorem intEq_iff (i j : Int) : intEq i j = (i == j) := by
  rw [Bool.beq_eq_decide_eq]
  cases i with
  | ofNat a =>
    cases j with
    | ofNat b =>
      show Nat.beq a b = _
      cases h : Nat.beq a b with
      | true => rw [Nat.eq_of_beq_eq_true h]; simp
      | false => have := Nat.ne_of_beq_eq_false h; symm; simp; omega
    | negSucc b => symm; show decide (Int.ofNat a = Int.negSucc b) = false; simp
  | negSucc a =>
    cases j with
    | ofNat b => symm; show decide (Int.negSucc a = Int.ofNat b) = false; simp
    | negSucc b =>
      show Nat.beq a b = _
      cases h : Nat.beq a b with
      | true => rw [Nat.eq_of_beq_eq_true h]; simp
      | false => have := Nat.ne_of_beq_eq_false h; symm; simp; omega
theorem intLe_iff (i j : Int) : intLe i j = decide (i ≤ j) := by
  cases i with
  | ofNat a =>
    cases j with
    | ofNat b =>
      show Nat.ble a b = _
      cases h : Nat.ble a b with
      | true => have := Nat.le_of_ble_eq_true h; symm; simp; omega
      | false => have : ¬ a ≤ b := fun q => by rw [Nat.ble_eq_true_of_le q] at h; cases h
                 symm; simp; omega
    | negSucc b => symm; show decide (Int.ofNat a ≤ Int.negSucc b) = false; simp; omega
  | negSucc a =>
    cases j with
    | ofNat b => symm; show decide (Int.negSucc a ≤ Int.ofNat b) = true; simp; omega
    | negSucc b =>
      show Nat.ble b a = _
      cases h : Nat.ble b a with
      | true => have := Nat.le_of_ble_eq_true h; symm; simp; omega
      | false => have : ¬ b ≤ a := fun q => by rw [Nat.ble_eq_true_of_le q] at h; cases h
                 symm; simp; omega
theorem beqB_iff (a b : Bool) : beqB a b = (a == b) := by cases a <;> cases b <;> rfl
theorem b2i_if (b : Bool) : Fp.b2i b = if b then 1 else 0 := by cases b <;> rfl

theorem dps_cons {x : D} {xs : List D} {n : Nat} (h : D.dps (x :: xs) n = true) : D.dp x n = true ∧ D.dps xs n = true := by
  have h1 : (match D.dp x n with | true => D.dps xs n | false => false) = true := by rw [D.dps] at h; exact h
  cases q : D.dp x n with
  | true => rw [q] at h1; exact ⟨rfl, h1⟩
  | false => rw [q] at h1; cases h1
theorem dp_tup {xs : List D} {n : Nat} (h : D.dp (.tup xs) n = true) : ∃ m, n = m + 1 ∧ D.dps xs m = true := by
  cases n with
  | zero => simp [D.dp] at h
  | succ m => exact ⟨m, rfl, by simpa [D.dp] using h⟩
theorem dp_lst {xs : List D} {n : Nat} (h : D.dp (.lst xs) n = true) : ∃ m, n = m + 1 ∧ D.dps xs m = true := by
  cases n with
  | zero => simp [D.dp] at h
  | succ m => exact ⟨m, rfl, by simpa [D.dp] using h⟩
theorem dps_mem : ∀ {xs : List D} {n : Nat}, D.dps xs n = true → ∀ x ∈ xs, D.dp x n = true
  | [], _, _, x, m => by cases m
  | y :: ys, n, h, x, m => by
    obtain ⟨h1, h2⟩ := dps_cons h
    rcases List.mem_cons.mp m with rfl | m
    · exact h1
    · exact dps_mem h2 x m

mutual
theorem dp_plain : ∀ (d : D) (n : Nat), D.dp d n = true → d.toP.plain = true ∧ d.toP.depth ≤ n
  | .non, _, _ => ⟨rfl, Nat.zero_le _⟩
  | .bl _, _, _ => ⟨rfl, Nat.zero_le _⟩
  | .int _, _, _ => ⟨rfl, Nat.zero_le _⟩
  | .str _, _, _ => ⟨rfl, Nat.zero_le _⟩
  | .tup xs, n, h => by
    obtain ⟨m, rfl, h⟩ := dp_tup h
    obtain ⟨a, b⟩ := dps_plain xs m h
    refine ⟨by rw [D.toP]; simpa [PyData.plain] using a, ?_⟩
    rw [D.toP, PyData.depth]; omega
  | .lst xs, n, h => by
    obtain ⟨m, rfl, h⟩ := dp_lst h
    obtain ⟨a, b⟩ := dps_plain xs m h
    refine ⟨by rw [D.toP]; simpa [PyData.plain] using a, ?_⟩
    rw [D.toP, PyData.depth]; omega
  | .dic _ _, n, h => by simp [D.dp] at h
  | .fn _, n, h => by simp [D.dp] at h
  | .exc _ _, n, h => by simp [D.dp] at h
  | .tok, n, h => by simp [D.dp] at h
  | .scr _, n, h => by simp [D.dp] at h
theorem dps_plain : ∀ (xs : List D) (n : Nat), D.dps xs n = true → PyData.plainAll (D.toPs xs) = true ∧ PyData.depthAll (D.toPs xs) ≤ n
  | [], _, _ => ⟨rfl, Nat.zero_le _⟩
  | x :: xs, n, h => by
    obtain ⟨h1, h2⟩ := dps_cons h
    obtain ⟨a, b⟩ := dp_plain x n h1
    obtain ⟨c, d⟩ := dps_plain xs n h2
    refine ⟨by rw [D.toPs, PyData.plainAll, a, c]; rfl, ?_⟩
    rw [D.toPs, PyData.depthAll]
    exact Nat.max_le.mpr ⟨b, d⟩
end
mutual
theorem eqb_toP : ∀ (x y : D) (n m : Nat), D.dp x n = true → D.dp y m = true → D.eqb x y = PyData.eqv x.toP y.toP
  | .non, y, n, m, hx, hy => by cases y <;> first | rfl | simp [D.dp] at hy
  | .bl a, y, n, m, hx, hy => by
    cases y with
    | bl b => simp [D.eqb, D.toP, PyData.eqv, beqB_iff]
    | int j => simp [D.eqb, D.toP, PyData.eqv, intEq_iff, b2i_if]
    | non => rfl
    | str _ => rfl
    | tup _ => rfl
    | lst _ => rfl
    | _ => simp [D.dp] at hy
  | .int i, y, n, m, hx, hy => by
    cases y with
    | bl b => simp [D.eqb, D.toP, PyData.eqv, intEq_iff, b2i_if]
    | int j => simp [D.eqb, D.toP, PyData.eqv, intEq_iff]
    | non => rfl
    | str _ => rfl
    | tup _ => rfl
    | lst _ => rfl
    | _ => simp [D.dp] at hy
  | .str x, y, n, m, hx, hy => by
    cases y with
    | str z => simp [D.eqb, D.toP, PyData.eqv, strEq_str]
    | non => rfl
    | bl _ => rfl
    | int _ => rfl
    | tup _ => rfl
    | lst _ => rfl
    | _ => simp [D.dp] at hy
  | .tup xs, y, n, m, hx, hy => by
    obtain ⟨n', rfl, hx⟩ := dp_tup hx
    cases y with
    | tup ys =>
      obtain ⟨m', rfl, hy⟩ := dp_tup hy
      simp only [D.eqb, D.toP, PyData.eqv]
      exact eqbs_toP xs ys n' m' hx hy
    | non => rfl
    | bl _ => rfl
    | int _ => rfl
    | str _ => rfl
    | lst _ => rfl
    | _ => simp [D.dp] at hy
  | .lst xs, y, n, m, hx, hy => by
    obtain ⟨n', rfl, hx⟩ := dp_lst hx
    cases y with
    | lst ys =>
      obtain ⟨m', rfl, hy⟩ := dp_lst hy
      simp only [D.eqb, D.toP, PyData.eqv]
      exact eqbs_toP xs ys n' m' hx hy
    | non => rfl
    | bl _ => rfl
    | int _ => rfl
    | str _ => rfl
    | tup _ => rfl
    | _ => simp [D.dp] at hy
  | .dic _ _, _, n, m, hx, hy => by simp [D.dp] at hx
  | .fn _, _, n, m, hx, hy => by simp [D.dp] at hx
  | .exc _ _, _, n, m, hx, hy => by simp [D.dp] at hx
  | .tok, _, n, m, hx, hy => by simp [D.dp] at hx
  | .scr _, _, n, m, hx, hy => by simp [D.dp] at hx
theorem eqbs_toP : ∀ (xs ys : List D) (n m : Nat), D.dps xs n = true → D.dps ys m = true → D.eqbs xs ys = PyData.eqvAll (D.toPs xs) (D.toPs ys)
  | [], [], _, _, _, _ => rfl
  | [], _ :: _, _, _, _, _ => rfl
  | _ :: _, [], _, _, _, _ => rfl
  | x :: xs, y :: ys, n, m, hx, hy => by
    obtain ⟨h1, h2⟩ := dps_cons hx
    obtain ⟨k1, k2⟩ := dps_cons hy
    have e1 := eqb_toP x y n m h1 k1
    have e2 := eqbs_toP xs ys n m h2 k2
    rw [D.eqbs, D.toPs, D.toPs, PyData.eqvAll, ← e1, ← e2]
    cases D.eqb x y <;> rfl
end
section
variable {F : Fx} {z : List Addr} {G : Hp}
mutual
theorem Rep.dp : ∀ {v : V} {d : D} {n : Nat}, Rep F z G v d → D.dp d n = true → Dp F.K G v d.toP
  | _, _, _, .non, _ => .non
  | _, _, _, .bl b, _ => .bl b
  | _, _, _, .int i, _ => .int i
  | _, _, _, .str x, _ => .str x
  | _, _, _, .tup h r, e => by
    obtain ⟨m, rfl, e⟩ := dp_tup e
    rw [D.toP]
    exact .tup h (RepAll.dp r e)
  | _, _, _, .lst h r, e => by
    obtain ⟨m, rfl, e⟩ := dp_lst e
    rw [D.toP]
    exact .lst (.of h) (RepAll.dp r e)
  | _, _, _, .dicT _ _ _, e => by simp [D.dp] at e
  | _, _, _, .dicK _ _ _, e => by simp [D.dp] at e
  | _, _, _, .fn _, e => by simp [D.dp] at e
  | _, _, _, .tok _, e => by simp [D.dp] at e
  | _, _, _, .scr _, e => by simp [D.dp] at e
theorem RepAll.dp : ∀ {vs : List V} {ds : List D} {n : Nat}, RepAll F z G vs ds → D.dps ds n = true → DpAll F.K G vs (D.toPs ds)
  | _, _, _, .nil, _ => .nil
  | _, _, _, .cons h r, e => by
    obtain ⟨h1, h2⟩ := dps_cons e
    rw [D.toPs]
    exact .cons (Rep.dp h h1) (RepAll.dp r h2)
end
end
theorem inD_toP : ∀ (x : D) (xs : List D) (n m : Nat), D.dp x n = true → D.dps xs m = true → inD x xs = (D.toPs xs).any fun y => PyData.eqv y x.toP
  | x, [], _, _, _, _ => rfl
  | x, y :: ys, n, m, hx, hy => by
    obtain ⟨k1, k2⟩ := dps_cons hy
    have e1 := eqb_toP y x m n k1 hx
    have e2 := inD_toP x ys n m hx k2
    rw [inD, D.toPs, List.any_cons, ← e1, ← e2]
    cases D.eqb y x <;> rfl
end Fp
end
section
set_option Elab.async false
set_option linter.all false
set_option maxRecDepth 100000
set_option autoImplicit false
/-! a < b of tuples, told by the first place at which they differ; what stands behind it is not asked. -/
namespace Fp
open PySem PySem.Spec PyProof.Rows L2
open PySem.SeqAt (EqAt RcLt)
open AutoSeq1 (wpAny_loadPart')
open MeetsSeq MeetsSeq2 MeetsSeq3 SeqRoads2

/-- pairs of items, compared from the left -/
inductive LtL (A : Around) (s : Shared) (fin : Bool) : List (Value × Value) → Bool → Prop
  | nil : LtL A s fin [] fin
  | same {y x : Value} {r : List (Value × Value)} {k : Bool} : EqAt A s y x true → LtL A s fin r k → LtL A s fin ((y, x) :: r) k
  | diff {y x : Value} {r : List (Value × Value)} {k : Bool} : EqAt A s y x false → RcLt A s y x k → LtL A s fin ((y, x) :: r) k


theorem tupLt_meets (p q : Addr) (xs ys : Array Value) (m1 m2 : Nat) (d1 d2 : Option Addr) (l1 l2 : Array (Option Value)) (k : Bool) :
    Meets (Builtin.«tuple.__lt__» ⟨[.ref p, .ref q], []⟩)
      (fun A R s => s.heap.get? p = some { cls := .type "tuple", dict := d1, data := .seq xs m1, slots := l1 } ∧
        s.heap.get? q = some { cls := .type "tuple", dict := d2, data := .seq ys m2, slots := l2 } ∧
        LtL A.in1 s (decide (xs.size < ys.size)) (xs.toList.zip ys.toList) k ∧ R (.ok (.ret (.bool k))) s) :=
  .of_wp fun prog w A R s h => by
    obtain ⟨hp, g, d, tk, os⟩ := s
    obtain ⟨h1, h2, h3, h4⟩ := h
    have sb := AutoSeq1.sub_tuple_tuple
    wp_walk using wpAny_loadPart' h1, wpAny_loadPart' h2, wpAny_forIn_list _ (fun rest b s' => b.1 = none ∧ s' = ⟨hp, g, d, tk, os⟩ ∧ LtL A.in1 ⟨hp, g, d, tk, os⟩ (decide (xs.size < ys.size)) rest k) _
    case turn =>
      rintro ⟨y, x⟩ rest b s' ⟨hb, rfl, hL⟩
      cases hL with
      | same e t =>
        refine wpAny_bind (e prog w _ _ ?_)
        wp_walk
        exact ⟨rfl, rfl, t⟩
      | diff e t =>
        refine wpAny_bind (e prog w _ _ ?_)
        have t2 := t prog w
        revert t2
        generalize PySem.richCompare CmpOp.Lt y x = rc
        intro t2
        wp_walk
        refine t2 _ _ ?_
        wp_walk
        exact ⟨_, rfl, h4⟩
    case fin =>
      rintro ⟨b1, b2⟩ s' ⟨hb, rfl, hL⟩
      simp only at hb
      subst hb
      cases hL
      wp_walk
      exact ⟨_, rfl, by simpa [Builtin.Tuple.tupleCompareSizes] using h4⟩
    case h => exact ⟨rfl, rfl, h3⟩

theorem rcLt_tup {A : Around} {s : Shared} {p q : Addr} {xs ys : Array Value} {k : Bool} (hp : s.heap.IsTuple p xs) (hq : s.heap.IsTuple q ys) (hu : A.units < cLine)
    (h : LtL A.in1 s (decide (xs.size < ys.size)) (xs.toList.zip ys.toList) k) : RcLt A s (.ref p) (.ref q) k := fun prog w E Q hQ => by
  obtain ⟨⟨c1, d1, t1, l1⟩, o1, e1, m1, f1⟩ := hp
  obtain ⟨⟨c2, d2, t2, l2⟩, o2, e2, m2, f2⟩ := hq
  simp only at e1 f1 e2 f2
  subst e1 f1 e2 f2
  exact richCompare_meets_room (op := .Lt) ⟨_, o1, rfl⟩ ⟨_, o2, rfl⟩ F.slot_tuple_lt F.entry_tuple_lt (F.args_tuple_lt_2 _ _) (tupLt_meets p q xs ys m1 m2 d1 d2 l1 l2 k)
    ⟨o1, o2, h, fun z => (nomatch z), hQ⟩ hu

theorem strLt_iff : ∀ a b : List Nat, strLt a b = decide (a < b)
  | [], [] => rfl
  | [], _ :: _ => by simp [strLt]
  | _ :: _, [] => by simp [strLt]
  | a :: r, b :: t => by
    show (match Nat.beq a b with | true => strLt r t | false => Nat.blt a b) = _
    cases h : Nat.beq a b with
    | true =>
      have e := Nat.eq_of_beq_eq_true h
      subst e
      simp [strLt_iff r t, List.cons_lt_cons_iff]
    | false =>
      have e := Nat.ne_of_beq_eq_false h
      simp only [List.cons_lt_cons_iff, e, false_and, or_false]
      cases q : Nat.blt a b with
      | true => have : a < b := Nat.le_of_ble_eq_true q
                simp [this]
      | false => have : ¬ a < b := fun z => by
                   have : Nat.blt a b = true := Nat.ble_eq_true_of_le z
                   rw [this] at q; cases q
                 simp [this]

theorem eqAt_D {x y : D} {n m : Nat} (hx : D.dp x n = true) (hy : D.dp y m = true) {A : Around} {s : Shared} {a b : Value} {as bs : List Addr} (ra : Reads s.heap a x.toP as) (rb : Reads s.heap b y.toP bs)
    (hu : A.units + n < cLine) : EqAt A s a b (D.eqb x y) := by
  rw [eqb_toP x y n m hx hy]
  have d1 := dp_plain x n hx
  have d2 := dp_plain y m hy
  exact PySem.SeqAt.eqAt_plain _ _ _ _ _ _ _ _ ra rb d1.1 d2.1 (by have := d1.2; have := Nat.min_le_left x.toP.depth y.toP.depth; omega)

theorem rd_tup {h : Heap} {a : Value} {xs : List D} {as : List Addr} (r : Reads h a (D.toP (.tup xs)) as) : ∃ p vs, a = .ref p ∧ h.IsTuple p vs ∧ ∃ bs, ReadsAll h vs.toList (D.toPs xs) bs := by
  rw [D.toP] at r
  cases r with
  | tuple h1 h2 h3 h4 => exact ⟨_, _, rfl, ⟨_, h1, h2, _, h3⟩, _, h4⟩

mutual
theorem rcLt_D : ∀ (x y : D) (n m : Nat) (k : Bool), D.dp x n = true → D.dp y m = true → D.ltb x y = some k → ∀ (A : Around) (s : Shared) (a b : Value) (as bs : List Addr), Reads s.heap a x.toP as → Reads s.heap b y.toP bs →
    A.units + n < cLine → RcLt A s a b k
  | .int i, y, n, m, k, hx, hy, e, A, s, a, b, as, bs, ra, rb, hu => by
    cases y with
    | int j =>
      rw [D.toP] at ra rb
      cases ra; cases rb
      have e' : k = decide (i < j) := by
        simp only [D.ltb, Option.some.injEq] at e
        rw [intLe_iff] at e
        rw [← e]
        by_cases h : j ≤ i
        · simp [h]
        · simp [h]; omega
      rw [e']
      exact fun prog w E Q hQ => lt_int hQ
    | _ => simp [D.ltb] at e
  | .str x, y, n, m, k, hx, hy, e, A, s, a, b, as, bs, ra, rb, hu => by
    cases y with
    | str z =>
      have h1 := PySem.W.rcLt_alike (.str x) (.str z) A s a b as bs (by rw [D.toP] at ra; exact ra) (by rw [D.toP] at rb; exact rb) rfl (by simp) (by simp [PyData.depth]; omega)
      simp only [D.ltb, Option.some.injEq] at e
      rw [PySem.W.dataLt_str, ← strLt_iff, e] at h1
      exact h1
    | _ => simp [D.ltb] at e
  | .tup xs, y, n, m, k, hx, hy, e, A, s, a, b, as, bs, ra, rb, hu => by
    cases y with
    | tup ys =>
      obtain ⟨n', rfl, hx⟩ := dp_tup hx
      obtain ⟨m', rfl, hy⟩ := dp_tup hy
      obtain ⟨p, vs, rfl, hp, as', r1⟩ := rd_tup ra
      obtain ⟨q, us, rfl, hq, bs', r2⟩ := rd_tup rb
      simp only [D.ltb] at e
      have l1 : vs.size = xs.length := by simpa [toPs_length] using PySem.SeqAt.ReadsAll.length _ _ _ r1
      have l2 : us.size = ys.length := by simpa [toPs_length] using PySem.SeqAt.ReadsAll.length _ _ _ r2
      refine rcLt_tup hp hq (by omega) ?_
      rw [l1, l2]
      exact ltL_D xs ys n' m' k hx hy e A.in1 s vs.toList us.toList as' bs' r1 r2 (by show A.units + 1 + n' < cLine; omega)
    | _ => simp [D.ltb] at e
  | .non, _, _, _, _, _, _, e, _, _, _, _, _, _, _, _, _ => by simp [D.ltb] at e
  | .bl _, _, _, _, _, _, _, e, _, _, _, _, _, _, _, _, _ => by simp [D.ltb] at e
  | .lst _, _, _, _, _, _, _, e, _, _, _, _, _, _, _, _, _ => by simp [D.ltb] at e
  | .dic _ _, _, _, _, _, _, _, e, _, _, _, _, _, _, _, _, _ => by simp [D.ltb] at e
  | .fn _, _, _, _, _, _, _, e, _, _, _, _, _, _, _, _, _ => by simp [D.ltb] at e
  | .exc _ _, _, _, _, _, _, _, e, _, _, _, _, _, _, _, _, _ => by simp [D.ltb] at e
  | .tok, _, _, _, _, _, _, e, _, _, _, _, _, _, _, _, _ => by simp [D.ltb] at e
  | .scr _, _, _, _, _, _, _, e, _, _, _, _, _, _, _, _, _ => by simp [D.ltb] at e
theorem ltL_D : ∀ (xs ys : List D) (n m : Nat) (k : Bool), D.dps xs n = true → D.dps ys m = true → D.ltbs xs ys = some k → ∀ (A : Around) (s : Shared) (vs us : List Value) (as bs : List Addr), ReadsAll s.heap vs (D.toPs xs) as →
    ReadsAll s.heap us (D.toPs ys) bs → A.units + n < cLine → LtL A s (decide (xs.length < ys.length)) (vs.zip us) k
  | [], [], n, m, k, hx, hy, e, A, s, vs, us, as, bs, ra, rb, hu => by
    rw [D.toPs] at ra
    cases ra
    simp only [D.ltbs, Option.some.injEq] at e
    rw [← e]
    exact .nil
  | [], y :: ys, n, m, k, hx, hy, e, A, s, vs, us, as, bs, ra, rb, hu => by
    rw [D.toPs] at ra
    cases ra
    simp only [D.ltbs, Option.some.injEq] at e
    rw [← e]
    have : decide (([] : List D).length < (y :: ys).length) = true := by simp
    rw [this]
    exact .nil
  | x :: xs, [], n, m, k, hx, hy, e, A, s, vs, us, as, bs, ra, rb, hu => by
    rw [D.toPs] at rb
    cases rb
    simp only [D.ltbs, Option.some.injEq] at e
    rw [← e, List.zip_nil_right]
    have : decide ((x :: xs).length < ([] : List D).length) = false := by simp
    rw [this]
    exact .nil
  | x :: xs, y :: ys, n, m, k, hx, hy, e, A, s, vs, us, as, bs, ra, rb, hu => by
    obtain ⟨h1, h2⟩ := dps_cons hx
    obtain ⟨k1, k2⟩ := dps_cons hy
    rw [D.toPs] at ra rb
    cases ra with
    | cons r1 r2 =>
      cases rb with
      | cons q1 q2 =>
        have eq := eqAt_D h1 k1 r1 q1 hu
        rw [List.zip_cons_cons]
        cases c : D.eqb x y with
        | true =>
          rw [c] at eq
          simp only [D.ltbs, c] at e
          have t := ltL_D xs ys n m k h2 k2 e A s _ _ _ _ r2 q2 hu
          have w : decide ((x :: xs).length < (y :: ys).length) = decide (xs.length < ys.length) := by simp
          rw [w]
          exact .same eq t
        | false =>
          rw [c] at eq
          simp only [D.ltbs, c] at e
          exact .diff eq (rcLt_D x y n m k h1 k1 e A s _ _ _ _ r1 q1 hu)
end
end Fp
end
section
set_option Elab.async false
set_option linter.all false
set_option maxRecDepth 100000
set_option autoImplicit false
set_option maxHeartbeats 1000000
/-! Comparisons, by values. -/
namespace Fp
open PySem PySem.Spec PyProof.Rows L2
open PySem.SeqAt (EqAt RcLt)

/-- what an operand is: shared, or owned with shared items -/
def RepO (F : Fx) (z : List Addr) (G H : Hp) (v : V) (d : D) : Prop := Rep F z G v d ∨ ∃ a, v = .ref a ∧ a ∉ z ∧ OwnAt F z G H a d
theorem OwnAt.full {F : Fx} {z : List Addr} {G H : Hp} {a : Addr} {d : D} (s : Sub G H) (h : OwnAt F z G H a d) : Rep F z H (.ref a) d := by
  cases d with
  | lst ds => obtain ⟨vs, h1, h2⟩ := h; exact .lst h1 (h2.mono (.refl z) s)
  | dic ks vs =>
    rcases h with ⟨e, h1, h2, h3⟩ | ⟨e, h1, h2, h3⟩
    · exact .dicT h1 (h2.mono (.refl z) s) (h3.mono (.refl z) s)
    · exact .dicK h1 h2 (h3.mono (.refl z) s)
  | _ => exact h.elim
theorem RepO.full {F : Fx} {z : List Addr} {G H : Hp} {v : V} {d : D} (s : Sub G H) (h : RepO F z G H v d) : Rep F z H v d := by
  rcases h with h | ⟨a, rfl, _, h⟩
  · exact h.mono (.refl z) s
  · exact h.full s
theorem RepO.grow {F : Fx} {z z' : List Addr} {G H G' H' : Hp} {v : V} {d : D} (h : RepO F z G H v d) (g : Grow z G H z' G' H') : RepO F z' G' H' v d := by
  rcases h with h | ⟨a, rfl, n, h⟩
  · exact .inl (h.mono g.zl g.sub)
  · refine .inr ⟨a, rfl, fun m => ?_, h.grow g n⟩
    obtain ⟨o, ho⟩ := h.there
    rcases g.zl with e | e
    · have := g.zn e a m; rw [ho] at this; cases this
    · rw [e] at m; exact n m

/-- a body's context, with room for k calls -/
structure Ctx (F : Fx) (k : Nat) (X : Cx) : Prop where
  prog : X.prog = F.P
  w : X.w = F.w
  K : X.K = F.K
  mg : X.mg = F.mg
  base : X.base = F.base
  nd : X.N.Nodup
  room : Room k X.A

section
variable {F : Fx} {k : Nat} {X : Cx} {pins : List (Addr × Obj)} {σ : L2.St} {H : Hp} {s : Shared} {z : List Addr}
theorem Ctx.reads (C : Ctx F k X) (I : Inv X pins σ H s) {v : V} {u : Value} {d : D} {n : Nat} (h : Rep F z H v d) (r : RelV v u) (e : D.dp d n = true) : ∃ as, Reads s.heap u d.toP as :=
  Dp.reads I _ _ _ (by rw [C.K]; exact h.dp e) r
theorem Ctx.un (C : Ctx F k X) : X.A.units + 100 < cLine := by have := C.room.un; omega

theorem and2 {a b : Bool} (h : (a && b) = true) : a = true ∧ b = true := Bool.and_eq_true_iff.mp h
theorem eqO_some {a b : D} {q : Bool} (h : eqO a b = some q) : D.dp a 40 = true ∧ D.dp b 40 = true ∧ q = D.eqb a b := by
  unfold eqO at h
  cases e : (D.dp a 40 && D.dp b 40) with
  | true => rw [e] at h; exact ⟨(and2 e).1, (and2 e).2, (Option.some.inj h).symm⟩
  | false => rw [e] at h; cases h
theorem negO_some {o : Option Bool} {q : Bool} (h : negO o = some q) : o = some (!q) := by
  cases o with
  | none => cases h
  | some k => cases k <;> (simp [negO] at h; subst h; rfl)

theorem cmp_eq (C : Ctx F k X) (I : Inv X pins σ H s) {v u : V} {a b : Value} {d e : D} {q : Bool} (h1 : Rep F z H v d) (h2 : Rep F z H u e) (r1 : RelV v a) (r2 : RelV u b) (hq : eqO d e = some q) {Q : Value → Shared → Prop} {E : Value → Shared → Prop} (hQ : Q (.bool q) s) :
    wpAny (model X.prog X.w) X.A (compareOp .Eq a b) Q E s := by
  obtain ⟨p1, p2, rfl⟩ := eqO_some hq
  obtain ⟨as, ra⟩ := C.reads I h1 r1 p1
  obtain ⟨bs, rb⟩ := C.reads I h2 r2 p2
  have q1 := dp_plain d 40 p1
  have q2 := dp_plain e 40 p2
  have := C.un
  have m := Nat.min_le_left d.toP.depth e.toP.depth
  exact PySem.SeqAt.eq_plain ra rb q1.1 q2.1 (by have := q1.2; omega) (by rw [← eqb_toP d e 40 40 p1 p2]; exact hQ)
theorem cmp_ne (C : Ctx F k X) (I : Inv X pins σ H s) {v u : V} {a b : Value} {d e : D} {q : Bool} (h1 : Rep F z H v d) (h2 : Rep F z H u e) (r1 : RelV v a) (r2 : RelV u b) (hq : eqO d e = some (!q)) {Q : Value → Shared → Prop} {E : Value → Shared → Prop} (hQ : Q (.bool q) s) :
    wpAny (model X.prog X.w) X.A (compareOp .NotEq a b) Q E s := by
  obtain ⟨p1, p2, eq⟩ := eqO_some hq
  obtain ⟨as, ra⟩ := C.reads I h1 r1 p1
  obtain ⟨bs, rb⟩ := C.reads I h2 r2 p2
  have q1 := dp_plain d 40 p1
  have q2 := dp_plain e 40 p2
  have := C.un
  have m := Nat.min_le_left d.toP.depth e.toP.depth
  refine PySem.SeqAt.ne_plain ra rb q1.1 q2.1 (by have := q1.2; omega) ?_
  rw [← eqb_toP d e 40 40 p1 p2, ← eq, Bool.not_not]
  exact hQ
theorem cmp_lt (C : Ctx F k X) (I : Inv X pins σ H s) {v u : V} {a b : Value} {d e : D} {q : Bool} (h1 : Rep F z H v d) (h2 : Rep F z H u e) (r1 : RelV v a) (r2 : RelV u b) (hq : ltO d e = some q) {Q : Value → Shared → Prop} {E : Value → Shared → Prop} (hQ : Q (.bool q) s) :
    wpAny (model X.prog X.w) X.A (compareOp .Lt a b) Q E s := by
  unfold ltO at hq
  cases c : (D.dp d 40 && D.dp e 40) with
  | false => rw [c] at hq; cases hq
  | true =>
    rw [c] at hq
    obtain ⟨p1, p2⟩ := and2 c
    obtain ⟨as, ra⟩ := C.reads I h1 r1 p1
    obtain ⟨bs, rb⟩ := C.reads I h2 r2 p2
    have := C.un
    exact rcLt_D d e 40 40 q p1 p2 hq X.A s a b as bs ra rb (by omega) X.prog X.w E Q hQ
end

/-! ### <=, >, >= of numbers and of tuples of numbers -/
def intsOf : List D → List Int
  | .int i :: r => i :: intsOf r
  | _ => []
theorem allI_ints : ∀ {xs : List D}, allI xs = true → xs = (intsOf xs).map D.int
  | [], _ => rfl
  | .int i :: r, h => by
    have h' : allI r = true := h
    rw [intsOf, List.map_cons, ← allI_ints h']
  | .non :: _, h => by cases h
  | .bl _ :: _, h => by cases h
  | .str _ :: _, h => by cases h
  | .tup _ :: _, h => by cases h
  | .lst _ :: _, h => by cases h
  | .dic _ _ :: _, h => by cases h
  | .fn _ :: _, h => by cases h
  | .exc _ _ :: _, h => by cases h
  | .tok :: _, h => by cases h
  | .scr _ :: _, h => by cases h
theorem toPs_ints : ∀ ns : List Int, D.toPs (ns.map D.int) = ns.map PyData.int
  | [] => rfl
  | n :: r => by rw [List.map_cons, D.toPs, D.toP, toPs_ints r]; rfl
theorem dps_ints : ∀ (ns : List Int) (m : Nat), D.dps (ns.map D.int) m = true
  | [], _ => rfl
  | n :: r, m => by rw [List.map_cons, D.dps]; simp [D.dp, dps_ints r m]
theorem ltbs_ints : ∀ xs ys : List Int, D.ltbs (xs.map D.int) (ys.map D.int) = some (decide (xs < ys))
  | [], [] => rfl
  | [], _ :: _ => by simp [D.ltbs]
  | _ :: _, [] => by simp [D.ltbs]
  | x :: xs, y :: ys => by
    rw [List.map_cons, List.map_cons, D.ltbs]
    simp only [D.eqb, D.ltb, intEq_iff, intLe_iff]
    by_cases h : x = y
    · subst h
      simp [ltbs_ints xs ys, List.cons_lt_cons_iff]
    · have h' : (x == y) = false := by simpa using h
      rw [h']
      simp only [List.cons_lt_cons_iff, h, false_and, or_false, Option.some.injEq]
      by_cases q : y ≤ x
      · simp [q]
      · simp [q]; omega

section
variable {F : Fx} {k : Nat} {X : Cx} {pins : List (Addr × Obj)} {σ : L2.St} {H : Hp} {s : Shared} {z : List Addr}
theorem leO_cases {d e : D} {q : Bool} (h : leO d e = some q) : (∃ i j, d = .int i ∧ e = .int j ∧ q = decide (i ≤ j)) ∨ ∃ xs ys : List Int, d = .tup (xs.map D.int) ∧ e = .tup (ys.map D.int) ∧ q = !decide (ys < xs) := by
  cases d with
  | int i =>
    cases e with
    | int j => simp only [leO, Option.some.injEq, intLe_iff] at h; exact .inl ⟨i, j, rfl, rfl, h.symm⟩
    | _ => simp [leO] at h
  | tup xs =>
    cases e with
    | tup ys =>
      simp only [leO] at h
      cases c : (allI xs && allI ys) with
      | false => rw [c] at h; cases h
      | true =>
        rw [c] at h
        obtain ⟨c1, c2⟩ := and2 c
        have e1 := allI_ints c1
        have e2 := allI_ints c2
        rw [e1, e2] at h
        have h2 := negO_some h
        rw [ltbs_ints] at h2
        refine .inr ⟨intsOf xs, intsOf ys, by rw [← e1], by rw [← e2], ?_⟩
        rw [Option.some.inj h2, Bool.not_not]
    | _ => simp [leO] at h
  | _ => cases e <;> simp [leO] at h

theorem ints_alike (xs ys : List Int) : PySem.W.alike (.tuple (xs.map PyData.int)) (.tuple (ys.map PyData.int)) = true := by
  rw [PySem.W.alike]; exact PySem.W.alike_ints xs ys
theorem ints_lt (xs ys : List Int) : PySem.W.dataLt (.tuple (xs.map PyData.int)) (.tuple (ys.map PyData.int)) = decide (xs < ys) := by
  rw [PySem.W.dataLt_tuple]; exact PySem.W.dataLt_ints xs ys
theorem ints_depth (xs : List Int) : (PyData.tuple (xs.map PyData.int)).depth = 1 := by
  rw [PyData.depth, PySem.W.depth_ints]

theorem reads_ints (C : Ctx F k X) (I : Inv X pins σ H s) {v : V} {u : Value} {xs : List Int} (h : Rep F z H v (.tup (xs.map D.int))) (r : RelV v u) : ∃ as, Reads s.heap u (.tuple (xs.map PyData.int)) as := by
  obtain ⟨as, h⟩ := C.reads (n := 40) I h r (by simp [D.dp, dps_ints])
  rw [D.toP, toPs_ints] at h
  exact ⟨as, h⟩

theorem cmp_le (C : Ctx F k X) (I : Inv X pins σ H s) {v u : V} {a b : Value} {d e : D} {q : Bool} (h1 : Rep F z H v d) (h2 : Rep F z H u e) (r1 : RelV v a) (r2 : RelV u b) (hq : leO d e = some q) {Q : Value → Shared → Prop} {E : Value → Shared → Prop} (hQ : Q (.bool q) s) :
    wpAny (model X.prog X.w) X.A (compareOp .LtE a b) Q E s := by
  have := C.un
  rcases leO_cases hq with ⟨i, j, rfl, rfl, rfl⟩ | ⟨xs, ys, rfl, rfl, rfl⟩
  · cases h1; cases h2
    obtain ⟨t, rfl⟩ := r1
    obtain ⟨t', rfl⟩ := r2
    exact le_int hQ
  · obtain ⟨as, ra⟩ := reads_ints C I h1 r1
    obtain ⟨bs, rb⟩ := reads_ints C I h2 r2
    exact PySem.W.le_data ra rb (ints_alike xs ys) (by simp) (by rw [ints_depth]; have := Nat.min_le_left 1 (PyData.tuple (ys.map PyData.int)).depth; omega) (by rw [ints_lt]; exact hQ)
theorem cmp_ge (C : Ctx F k X) (I : Inv X pins σ H s) {v u : V} {a b : Value} {d e : D} {q : Bool} (h1 : Rep F z H v d) (h2 : Rep F z H u e) (r1 : RelV v a) (r2 : RelV u b) (hq : leO e d = some q) {Q : Value → Shared → Prop} {E : Value → Shared → Prop} (hQ : Q (.bool q) s) :
    wpAny (model X.prog X.w) X.A (compareOp .GtE a b) Q E s := by
  have := C.un
  rcases leO_cases hq with ⟨i, j, rfl, rfl, rfl⟩ | ⟨xs, ys, rfl, rfl, rfl⟩
  · cases h1; cases h2
    obtain ⟨t, rfl⟩ := r1
    obtain ⟨t', rfl⟩ := r2
    exact ge_int hQ
  · obtain ⟨as, ra⟩ := reads_ints C I h1 r1
    obtain ⟨bs, rb⟩ := reads_ints C I h2 r2
    exact PySem.W.ge_data ra rb (ints_alike ys xs) (by simp) (by rw [ints_depth]; have := Nat.min_le_left 1 (PyData.tuple (xs.map PyData.int)).depth; omega) (by rw [ints_lt]; exact hQ)
theorem cmp_gt (C : Ctx F k X) (I : Inv X pins σ H s) {v u : V} {a b : Value} {d e : D} {q : Bool} (h1 : Rep F z H v d) (h2 : Rep F z H u e) (r1 : RelV v a) (r2 : RelV u b) (hq : leO d e = some (!q)) {Q : Value → Shared → Prop} {E : Value → Shared → Prop} (hQ : Q (.bool q) s) :
    wpAny (model X.prog X.w) X.A (compareOp .Gt a b) Q E s := by
  have := C.un
  rcases leO_cases hq with ⟨i, j, rfl, rfl, eq⟩ | ⟨xs, ys, rfl, rfl, eq⟩
  · cases h1; cases h2
    obtain ⟨t, rfl⟩ := r1
    obtain ⟨t', rfl⟩ := r2
    have e2 : q = decide (j < i) := by
      have := congrArg (!·) eq
      simp only [Bool.not_not] at this
      rw [this]; by_cases c : i ≤ j
      · simp [c]
      · simp [c]; omega
    rw [e2] at hQ
    exact gt_int hQ
  · obtain ⟨as, ra⟩ := reads_ints C I h1 r1
    obtain ⟨bs, rb⟩ := reads_ints C I h2 r2
    have e2 : q = decide (ys < xs) := by
      have := congrArg (!·) eq
      simpa only [Bool.not_not] using this
    exact PySem.W.gt_data ra rb (ints_alike xs ys) (by simp) (by rw [ints_depth]; have := Nat.min_le_left 1 (PyData.tuple (ys.map PyData.int)).depth; omega) (by rw [ints_lt, ← e2]; exact hQ)
end
end Fp
end
section
set_option Elab.async false
set_option linter.all false
set_option maxRecDepth 100000
set_option autoImplicit false
set_option maxHeartbeats 1000000
/-! Dicts, by values. -/
namespace Fp
open PySem PySem.Spec PyProof.Rows L2

theorem noLsts_cons {x : D} {xs : List D} (h : noLsts (x :: xs) = true) : noLst x = true ∧ noLsts xs = true := by
  have h1 : (match noLst x with | true => noLsts xs | false => false) = true := by rw [noLsts] at h; exact h
  cases q : noLst x with
  | true => rw [q] at h1; exact ⟨rfl, h1⟩
  | false => rw [q] at h1; cases h1

mutual
theorem nk_is {h : Heap} : ∀ (d : D) (n : Nat) (u : Value) (as : List Addr), D.dp d n = true → noLst d = true → Reads h u d.toP as → NestedIs h d.nk u
  | .non, _, u, as, _, _, r => by
    have r' : Reads h u PyData.none as := r
    cases r'; exact .none
  | .bl b, _, u, as, _, _, r => by rw [D.toP] at r; cases r; exact .bool (by cases b <;> rfl)
  | .int i, _, u, as, _, _, r => by rw [D.toP] at r; cases r; exact .int _ _
  | .str x, _, u, as, _, _, r => by rw [D.toP] at r; cases r; exact .text _ _
  | .tup xs, n, u, as, e, nl, r => by
    obtain ⟨m, rfl, e⟩ := dp_tup e
    rw [D.toP] at r
    rw [noLst] at nl
    cases r with
    | tuple h1 h2 h3 h4 => rw [D.nk]; exact .tup h1 h2 h3 (nks_is xs m _ _ e nl h4)
  | .lst _, _, _, _, _, nl, _ => by simp [noLst] at nl
  | .dic _ _, _, _, _, e, _, _ => by simp [D.dp] at e
  | .fn _, _, _, _, e, _, _ => by simp [D.dp] at e
  | .exc _ _, _, _, _, e, _, _ => by simp [D.dp] at e
  | .tok, _, _, _, e, _, _ => by simp [D.dp] at e
  | .scr _, _, _, _, e, _, _ => by simp [D.dp] at e
theorem nks_is {h : Heap} : ∀ (ds : List D) (n : Nat) (us : List Value) (as : List Addr), D.dps ds n = true → noLsts ds = true → ReadsAll h us (D.toPs ds) as → NestedAll h (D.nks ds) us
  | [], _, us, as, _, _, r => by rw [D.toPs] at r; cases r; rw [D.nks]; exact .nil
  | d :: ds, n, us, as, e, nl, r => by
    obtain ⟨h1, h2⟩ := dps_cons e
    obtain ⟨k1, k2⟩ := noLsts_cons nl
    rw [D.toPs] at r
    cases r with
    | cons r1 r2 => rw [D.nks]; exact .cons (nk_is d n _ _ h1 k1 r1) (nks_is ds n _ _ h2 k2 r2)
end
mutual
theorem nk_depth : ∀ (d : D) (n : Nat), D.dp d n = true → d.nk.depth ≤ n
  | .non, n, _ => by simp [D.nk, NestedKey.depth]
  | .bl b, n, _ => by simp [D.nk, NestedKey.depth]
  | .int i, n, _ => by simp [D.nk, NestedKey.depth]
  | .str x, n, _ => by simp [D.nk, NestedKey.depth]
  | .tup xs, n, e => by
    obtain ⟨m, rfl, e⟩ := dp_tup e
    have := nks_depth xs m e
    rw [D.nk, NestedKey.depth]; omega
  | .lst _, n, _ => by simp [D.nk, NestedKey.depth]
  | .dic _ _, n, _ => by simp [D.nk, NestedKey.depth]
  | .fn _, n, _ => by simp [D.nk, NestedKey.depth]
  | .exc _ _, n, _ => by simp [D.nk, NestedKey.depth]
  | .tok, n, _ => by simp [D.nk, NestedKey.depth]
  | .scr _, n, _ => by simp [D.nk, NestedKey.depth]
theorem nks_depth : ∀ (ds : List D) (n : Nat), D.dps ds n = true → NestedKey.depthAll (D.nks ds) ≤ n
  | [], n, _ => by simp [D.nks, NestedKey.depthAll]
  | d :: ds, n, e => by
    obtain ⟨h1, h2⟩ := dps_cons e
    have a := nk_depth d n h1
    have b := nks_depth ds n h2
    rw [D.nks, NestedKey.depthAll]
    exact Nat.max_le.mpr ⟨a, b⟩
end
mutual
theorem nk_eqb : ∀ (x y : D) (n m : Nat), D.dp x n = true → D.dp y m = true → noLst x = true → noLst y = true → (D.eqb x y = true ↔ x.nk = y.nk)
  | .non, y, n, m, hx, hy, lx, ly => by cases y <;> simp_all [D.eqb, D.nk, D.dp, noLst]
  | .bl a, y, n, m, hx, hy, lx, ly => by
    cases y with
    | bl b => cases a <;> cases b <;> simp [D.eqb, D.nk, beqB, Fp.b2i]
    | int j => simp [D.eqb, D.nk, intEq_iff]
    | _ => simp_all [D.eqb, D.nk, D.dp, noLst]
  | .int i, y, n, m, hx, hy, lx, ly => by
    cases y with
    | bl b => simp [D.eqb, D.nk, intEq_iff]
    | int j => simp [D.eqb, D.nk, intEq_iff]
    | _ => simp_all [D.eqb, D.nk, D.dp, noLst]
  | .str x, y, n, m, hx, hy, lx, ly => by
    cases y with
    | str z => simp [D.eqb, D.nk, strEq_str]
    | _ => simp_all [D.eqb, D.nk, D.dp, noLst]
  | .tup xs, y, n, m, hx, hy, lx, ly => by
    obtain ⟨n', rfl, hx⟩ := dp_tup hx
    cases y with
    | tup ys =>
      obtain ⟨m', rfl, hy⟩ := dp_tup hy
      rw [noLst] at lx ly
      have := nks_eqb xs ys n' m' hx hy lx ly
      simp only [D.eqb, D.nk, NestedKey.tup.injEq]
      exact this
    | _ => simp_all [D.eqb, D.nk, D.dp, noLst]
  | .lst _, _, _, _, _, _, lx, _ => by simp [noLst] at lx
  | .dic _ _, _, n, m, hx, hy, _, _ => by simp [D.dp] at hx
  | .fn _, _, n, m, hx, hy, _, _ => by simp [D.dp] at hx
  | .exc _ _, _, n, m, hx, hy, _, _ => by simp [D.dp] at hx
  | .tok, _, n, m, hx, hy, _, _ => by simp [D.dp] at hx
  | .scr _, _, n, m, hx, hy, _, _ => by simp [D.dp] at hx
theorem nks_eqb : ∀ (xs ys : List D) (n m : Nat), D.dps xs n = true → D.dps ys m = true → noLsts xs = true → noLsts ys = true → (D.eqbs xs ys = true ↔ D.nks xs = D.nks ys)
  | [], [], _, _, _, _, _, _ => by simp [D.eqbs, D.nks]
  | [], _ :: _, _, _, _, _, _, _ => by simp [D.eqbs, D.nks]
  | _ :: _, [], _, _, _, _, _, _ => by simp [D.eqbs, D.nks]
  | x :: xs, y :: ys, n, m, hx, hy, lx, ly => by
    obtain ⟨h1, h2⟩ := dps_cons hx
    obtain ⟨k1, k2⟩ := dps_cons hy
    obtain ⟨a1, a2⟩ := noLsts_cons lx
    obtain ⟨b1, b2⟩ := noLsts_cons ly
    have e1 := nk_eqb x y n m h1 k1 a1 b1
    have e2 := nks_eqb xs ys n m h2 k2 a2 b2
    rw [D.eqbs, D.nks, D.nks, List.cons.injEq, ← e1, ← e2]
    cases D.eqb x y <;> simp
end
/-- a tuple that is a key -/
theorem keyOk_tup {xs : List D} (h : keyOk (.tup xs) = true) : D.dp (.tup xs) 8 = true ∧ noLst (.tup xs) = true := and2 h
theorem nk_dec {x y : D} (hx : keyOk x = true) (hy : keyOk y = true) (tx : ∃ xs, x = .tup xs) (ty : ∃ ys, y = .tup ys) : D.eqb x y = decide (x.nk = y.nk) := by
  obtain ⟨xs, rfl⟩ := tx
  obtain ⟨ys, rfl⟩ := ty
  obtain ⟨a, b⟩ := keyOk_tup hx
  obtain ⟨c, d⟩ := keyOk_tup hy
  have := nk_eqb _ _ 8 8 a c b d
  by_cases e : D.nk (.tup xs) = D.nk (.tup ys)
  · rw [decide_eq_true e]; exact this.mpr e
  · rw [decide_eq_false e]
    cases q : D.eqb (.tup xs) (.tup ys) with
    | false => rfl
    | true => exact absurd (this.mp q) e
end Fp
end
section
set_option Elab.async false
set_option linter.all false
set_option maxRecDepth 100000
set_option autoImplicit false
set_option maxHeartbeats 1000000
/-! A dict in the heap, and what is looked up in it. -/
namespace Fp
open PySem PySem.Spec PyProof.Rows L2

/-- keys, values and the entries of a dict with tuple keys -/
inductive EntT (F : Fx) (z : List Addr) (H : Hp) : List D → List D → List (NestedKey × Addr × Value) → Prop
  | nil : EntT F z H [] [] []
  | cons {k d : D} {ks ds : List D} {b : Addr} {v : V} {u : Value} {xs : List (NestedKey × Addr × Value)} : Rep F z H (.ref b) k → keyOk k = true → Rep F z H v d → RelV v u → EntT F z H ks ds xs → EntT F z H (k :: ks) (d :: ds) ((k.nk, b, u) :: xs)
/-- .. with flat keys -/
inductive EntK (F : Fx) (z : List Addr) (H : Hp) : List D → List D → List (Key × Value) → Prop
  | nil : EntK F z H [] [] []
  | int {i : Int} {d : D} {ks ds : List D} {v : V} {u : Value} {xs : List (Key × Value)} : Rep F z H v d → RelV v u → EntK F z H ks ds xs → EntK F z H (.int i :: ks) (d :: ds) ((.inl i, u) :: xs)
  | str {x : Str} {d : D} {ks ds : List D} {v : V} {u : Value} {xs : List (Key × Value)} : Rep F z H v d → RelV v u → EntK F z H ks ds xs → EntK F z H (.str x :: ks) (d :: ds) ((.inr x, u) :: xs)

section
variable {F : Fx} {z : List Addr} {H : Hp}
theorem rep_tup {b : Addr} {k : D} (h : Rep F z H (.ref b) k) (e : keyOk k = true) : ∃ xs, k = .tup xs := by
  cases h with
  | tup _ _ => exact ⟨_, rfl⟩
  | _ => simp [keyOk] at e
theorem entT_of : ∀ {ents : List (NestedKey × Addr × V)} {ks vs : List D} {xs : List (NestedKey × Addr × Value)}, RepKeys F z H ents ks → RepAll F z H (ents.map (·.2.2)) vs →
    Paired (fun (p : NestedKey × Addr × V) (q : NestedKey × Addr × Value) => p.1 = q.1 ∧ p.2.1 = q.2.1 ∧ RelV p.2.2 q.2.2) ents xs → EntT F z H ks vs xs
  | _, _, _, _, .nil, .nil, .nil => .nil
  | _, _, _, (k', b', u') :: xs, .cons h e r, .cons hv rv, .cons hp rp => by
    obtain ⟨e1, e2, e3⟩ := hp
    have e1' : _ = k' := e1
    have e2' : _ = b' := e2
    subst e1' e2'
    exact .cons h e hv e3 (entT_of r rv rp)
theorem entK_of : ∀ {kvs : List (Key × V)} {ks vs : List D} {xs : List (Key × Value)}, RepFlat kvs ks → RepAll F z H (kvs.map (·.2)) vs → KV kvs xs → EntK F z H ks vs xs
  | _, _, _, _, .nil, .nil, .nil => .nil
  | _, _, _, (k', u') :: xs, .int r, .cons hv rv, .cons hp rp => by
    obtain ⟨e1, e3⟩ := hp
    have e1' : _ = k' := e1
    subst e1'
    exact .int hv e3 (entK_of r rv rp)
  | _, _, _, (k', u') :: xs, .str r, .cons hv rv, .cons hp rp => by
    obtain ⟨e1, e3⟩ := hp
    have e1' : _ = k' := e1
    subst e1'
    exact .str hv e3 (entK_of r rv rp)
theorem EntT.len : ∀ {ks ds : List D} {xs : List (NestedKey × Addr × Value)}, EntT F z H ks ds xs → xs.length = ks.length ∧ ds.length = ks.length
  | _, _, _, .nil => ⟨rfl, rfl⟩
  | _, _, _, .cons _ _ _ _ r => by simp [r.len.1, r.len.2]
theorem EntK.len : ∀ {ks ds : List D} {xs : List (Key × Value)}, EntK F z H ks ds xs → xs.length = ks.length ∧ ds.length = ks.length
  | _, _, _, .nil => ⟨rfl, rfl⟩
  | _, _, _, .int _ _ r => by simp [r.len.1, r.len.2]
  | _, _, _, .str _ _ r => by simp [r.len.1, r.len.2]
/-- what is found -/
theorem EntT.look {k : D} (hk : keyOk k = true) (tk : ∃ xs, k = .tup xs) : ∀ {ks ds : List D} {xs : List (NestedKey × Addr × Value)}, EntT F z H ks ds xs →
    (inD k ks = (atKey xs k.nk).isSome) ∧ match look k ks ds with
      | some d => ∃ b u v, atKey xs k.nk = some (b, u) ∧ Rep F z H v d ∧ RelV v u
      | none => atKey xs k.nk = none
  | _, _, _, .nil => ⟨rfl, rfl⟩
  | _, _, _, .cons (k := k0) (d := d0) (b := b0) (u := u0) (v := v0) (ks := ks0) (ds := ds0) (xs := xs0) h e hv rv r => by
    obtain ⟨a1, a2⟩ := EntT.look hk tk r
    have q := nk_dec e hk (rep_tup h e) tk
    by_cases c : k0.nk = k.nk
    · have c' : D.eqb k0 k = true := by rw [q]; exact decide_eq_true c
      have at_ : atKey ((k0.nk, b0, u0) :: xs0) k.nk = some (b0, u0) := by simp [atKey, c]
      refine ⟨?_, ?_⟩
      · rw [inD, c', at_]; rfl
      · rw [Fp.look, c']; exact ⟨b0, u0, v0, at_, hv, rv⟩
    · have c' : D.eqb k0 k = false := by rw [q]; exact decide_eq_false c
      have at_ : atKey ((k0.nk, b0, u0) :: xs0) k.nk = atKey xs0 k.nk := by simp [atKey, c]
      refine ⟨?_, ?_⟩
      · rw [inD, c', at_]; exact a1
      · rw [Fp.look, c', at_]; exact a2
/-- a flat key -/
def flatK : D → Option Key
  | .int i => some (.inl i)
  | .str x => some (.inr x)
  | _ => none
theorem EntK.look {k : D} {kk : Key} (hk : flatK k = some kk) : ∀ {ks ds : List D} {xs : List (Key × Value)}, EntK F z H ks ds xs →
    (inD k ks = (valueAt xs kk).isSome) ∧ match look k ks ds with
      | some d => ∃ u v, valueAt xs kk = some u ∧ Rep F z H v d ∧ RelV v u
      | none => valueAt xs kk = none
  | _, _, _, .nil => ⟨rfl, rfl⟩
  | _, _, _, .int (i := i0) (d := d0) (u := u0) (v := v0) (ks := ks0) (ds := ds0) (xs := xs0) hv rv r => by
    obtain ⟨a1, a2⟩ := EntK.look hk r
    by_cases c : (Sum.inl i0 : Key) = kk
    · have c' : D.eqb (.int i0) k = true := by
        cases k <;> simp [flatK] at hk
        · subst hk; cases c; simp [D.eqb, intEq_iff]
        · subst hk; cases c
      have at_ : valueAt ((Sum.inl i0, u0) :: xs0) kk = some u0 := by simp [valueAt, c]
      refine ⟨?_, ?_⟩
      · rw [inD, c', at_]; rfl
      · rw [Fp.look, c']; exact ⟨u0, v0, at_, hv, rv⟩
    · have c' : D.eqb (.int i0) k = false := by
        cases k <;> simp [flatK] at hk
        · subst hk; simp only [D.eqb, intEq_iff]; simpa using fun e => c (by rw [e])
        · subst hk; rfl
      have at_ : valueAt ((Sum.inl i0, u0) :: xs0) kk = valueAt xs0 kk := by simp [valueAt, c]
      refine ⟨?_, ?_⟩
      · rw [inD, c', at_]; exact a1
      · rw [Fp.look, c', at_]; exact a2
  | _, _, _, .str (x := x0) (d := d0) (u := u0) (v := v0) (ks := ks0) (ds := ds0) (xs := xs0) hv rv r => by
    obtain ⟨a1, a2⟩ := EntK.look hk r
    by_cases c : (Sum.inr x0 : Key) = kk
    · have c' : D.eqb (.str x0) k = true := by
        cases k <;> simp [flatK] at hk
        · subst hk; cases c
        · subst hk; cases c; simp [D.eqb, strEq_str]
      have at_ : valueAt ((Sum.inr x0, u0) :: xs0) kk = some u0 := by simp [valueAt, c]
      refine ⟨?_, ?_⟩
      · rw [inD, c', at_]; rfl
      · rw [Fp.look, c']; exact ⟨u0, v0, at_, hv, rv⟩
    · have c' : D.eqb (.str x0) k = false := by
        cases k <;> simp [flatK] at hk
        · subst hk; rfl
        · subst hk; simp only [D.eqb, strEq_str]; simpa using fun e => c (by rw [e])
      have at_ : valueAt ((Sum.inr x0, u0) :: xs0) kk = valueAt xs0 kk := by simp [valueAt, c]
      refine ⟨?_, ?_⟩
      · rw [inD, c', at_]; exact a1
      · rw [Fp.look, c', at_]; exact a2
end

section
variable {F : Fx} {k : Nat} {X : Cx} {pins : List (Addr × Obj)} {σ : L2.St} {H : Hp} {s : Shared} {z : List Addr}
theorem allTup_flat {ks : List D} (h1 : allTup ks = true) : ∀ {kvs : List (Key × V)}, RepFlat kvs ks → ks = [] ∧ kvs = []
  | _, .nil => ⟨rfl, rfl⟩
  | _, .int _ => by simp [allTup] at h1
  | _, .str _ => by simp [allTup] at h1
theorem allFlat_keys {F : Fx} {z : List Addr} {H : Hp} {ks : List D} (h1 : allFlat ks = true) : ∀ {ents : List (NestedKey × Addr × V)}, RepKeys F z H ents ks → ks = [] ∧ ents = []
  | _, .nil => ⟨rfl, rfl⟩
  | _, .cons h e _ => by obtain ⟨xs, rfl⟩ := rep_tup h e; simp [allFlat] at h1
theorem Ctx.key (C : Ctx F k X) (I : Inv X pins σ H s) {b : Addr} {d : D} (h : Rep F z H (.ref b) d) (e : keyOk d = true) : (nestedKind X.prog X.w).is s.heap d.nk b := by
  obtain ⟨xs, rfl⟩ := rep_tup h e
  obtain ⟨e1, e2⟩ := keyOk_tup e
  obtain ⟨as, r⟩ := C.reads I h (show RelV (.ref b) (.ref b) from rfl) e1
  exact ⟨nk_is _ 8 _ _ e1 e2 r, nk_depth _ 8 e1⟩
/-- a dict of tuple keys -/
theorem Ctx.dicT (C : Ctx F k X) (I : Inv X pins σ H s) {G : Hp} (sb : Sub G H) {a : Addr} {ks vs : List D} (h : OwnAt F z G H a (.dic ks vs)) (ht : allTup ks = true) :
    (a == sysModules) = false ∧ ∃ xs, xs.length ≤ sizeLine ∧ EntT F z G ks vs xs ∧ s.heap.DictOfH (nestedKind X.prog X.w) a xs := by
  rcases h with ⟨ents, h1, h2, h3⟩ | ⟨kvs, h1, h2, h3⟩
  · obtain ⟨⟨z1, z2, xs, pr, o, es, ep, q1, q2, q3, q4, q5⟩, _⟩ := I.hok a _ h1
    have ent := entT_of h2 h3 pr
    refine ⟨z2, xs, by rw [← Paired.length pr]; exact z1, ent, o, es, ep, q1, q2, q3, by rw [C.prog, C.w]; exact q4, ?_, q5⟩
    intro x hx
    have all : ∀ {ks ds : List D} {xs : List (NestedKey × Addr × Value)}, EntT F z G ks ds xs → ∀ x ∈ xs, (nestedKind X.prog X.w).is s.heap x.1 x.2.1 := by
      intro ks ds xs r
      induction r with
      | nil => intro x hx; cases hx
      | cons a1 a2 _ _ _ ih =>
        intro x hx
        rcases List.mem_cons.mp hx with rfl | hx
        · exact C.key I (a1.mono (.refl z) sb) a2
        · exact ih x hx
    exact all ent x hx
  · obtain ⟨rfl, rfl⟩ := allTup_flat ht h2
    cases h3
    obtain ⟨_, z2, ys, kv, o, es, ep, q1, q2, q3, q4, q5, q6⟩ := I.hok a _ h1
    cases kv
    refine ⟨z2, [], Nat.zero_le _, .nil, o, es, ep, q1, q2, q3, ?_, (fun x hx => by cases hx), by simp⟩
    have : ∀ l, Pairs (mixKind X.prog X.w) l [] → l = [] := fun l h => by cases h; rfl
    simpa using this _ q5
/-- a dict of flat keys -/
theorem Ctx.dicK (C : Ctx F k X) (I : Inv X pins σ H s) {G : Hp} {a : Addr} {ks vs : List D} (h : OwnAt F z G H a (.dic ks vs)) (ht : allFlat ks = true) :
    (a == sysModules) = false ∧ ∃ xs, xs.length ≤ sizeLine ∧ EntK F z G ks vs xs ∧ s.heap.DictOf (mixKind X.prog X.w) a xs := by
  rcases h with ⟨ents, h1, h2, h3⟩ | ⟨kvs, h1, h2, h3⟩
  · obtain ⟨rfl, rfl⟩ := allFlat_keys ht h2
    cases h3
    obtain ⟨⟨_, z2, xs, pr, o, es, ep, q1, q2, q3, q4, q5⟩, _⟩ := I.hok a _ h1
    cases pr
    have he : es = #[] := by simpa using q4
    subst he
    refine ⟨z2, [], Nat.zero_le _, .nil, o, #[], ep, q1, q2, q3, ?_, ?_, by simp⟩
    · intro e he; simp at he
    · exact .nil
  · obtain ⟨z1, z2, ys, kv, dd⟩ := I.hok a _ h1
    exact ⟨z2, ys, by rw [← Paired.length kv]; exact z1, entK_of h2 h3 kv, dd⟩
end
section
variable {F : Fx} {z : List Addr} {G H : Hp} {v : V}
theorem RepO.dic {ks vs : List D} (sb : Sub G H) (h : RepO F z G H v (.dic ks vs)) : ∃ a, v = .ref a ∧ OwnAt F z G H a (.dic ks vs) := by
  rcases h with h | ⟨a, rfl, _, h⟩
  · cases h with
    | dicT h1 h2 h3 => exact ⟨_, rfl, .inl ⟨_, sb _ _ h1, h2, h3⟩⟩
    | dicK h1 h2 h3 => exact ⟨_, rfl, .inr ⟨_, sb _ _ h1, h2, h3⟩⟩
  · exact ⟨a, rfl, h⟩
theorem RepO.lst {ds : List D} (sb : Sub G H) (h : RepO F z G H v (.lst ds)) : ∃ a vs, v = .ref a ∧ H a = some (.lst vs) ∧ RepAll F z G vs ds := by
  rcases h with h | ⟨a, rfl, _, h⟩
  · cases h with
    | lst h1 h2 => exact ⟨_, _, rfl, sb _ _ h1, h2⟩
  · obtain ⟨vs, h1, h2⟩ := h
    exact ⟨a, vs, rfl, h1, h2⟩
theorem RepO.tup {ds : List D} (sb : Sub G H) (h : RepO F z G H v (.tup ds)) : ∃ a vs, v = .ref a ∧ SqT F.K H a vs ∧ RepAll F z G vs ds := by
  rcases h with h | ⟨a, rfl, _, h⟩
  · cases h with
    | tup h1 h2 => exact ⟨_, _, rfl, sqTSub sb h1, h2⟩
  · exact h.elim
end
end Fp
end
section
set_option Elab.async false
set_option linter.all false
set_option maxRecDepth 100000
set_option autoImplicit false
set_option maxHeartbeats 1000000
/-! Operators, by values. -/
namespace Fp
open PySem PySem.Spec PyProof.Rows L2

section
variable {F : Fx} {k : Nat} {X : Cx} {pins : List (Addr × Obj)} {σ : L2.St} {H : Hp} {s : Shared} {z : List Addr} {G : Hp}
theorem Ctx.roomN (C : Ctx F k X) : (nestedKind X.prog X.w).room X.A.in1 := by
  show X.A.units + 1 + 8 < cLine
  have := C.un
  omega
theorem keyFits_and {a : D} {ks : List D} (h : keyFits a ks = true) : keyOk a = true ∧ ((∃ xs, a = .tup xs) ∧ allTup ks = true ∨ (∃ kk, flatK a = some kk) ∧ allFlat ks = true) := by
  obtain ⟨h1, h2⟩ := and2 h
  refine ⟨h1, ?_⟩
  cases a with
  | tup xs => exact .inl ⟨⟨xs, rfl⟩, h2⟩
  | int i => exact .inr ⟨⟨_, rfl⟩, h2⟩
  | str x => exact .inr ⟨⟨_, rfl⟩, h2⟩
  | _ => simp [keyOk] at h1
theorem rep_ref {v : V} {xs : List D} (h : Rep F z H v (.tup xs)) : ∃ b, v = .ref b := by
  cases h; exact ⟨_, rfl⟩
theorem rep_dic {v : V} {ks vs : List D} (h : Rep F z H v (.dic ks vs)) : ∃ b, v = .ref b := by
  cases h <;> exact ⟨_, rfl⟩
theorem rep_flat {v : V} {d : D} {kk : Key} (h : Rep F z H v d) (e : flatK d = some kk) : v = kV kk := by
  cases h <;> simp [flatK] at e <;> subst e <;> rfl

/-- a in b -/
theorem cmp_in (C : Ctx F k X) (I : Inv X pins σ H s) {v u : V} {a b : Value} {d e : D} {q : Bool} (sb : Sub G H) (h1 : Rep F z H v d) (h2 : RepO F z G H u e) (r1 : RelV v a) (r2 : RelV u b) (hq : inO d e = some q) {Q : Value → Shared → Prop} {E : Value → Shared → Prop}
    (hQ : ∀ s', Inv X pins σ H s' → Q (.bool q) s') : wpAny (model X.prog X.w) X.A (compareOp .In a b) Q E s := by
  have hun := C.un
  cases e with
  | tup xs =>
    simp only [inO] at hq
    cases c : (D.dp d 40 && D.dps xs 40) with
    | false => rw [c] at hq; cases hq
    | true =>
      rw [c] at hq
      obtain ⟨p1, p2⟩ := and2 c
      obtain ⟨as, ra⟩ := C.reads I h1 r1 p1
      obtain ⟨bs, rb⟩ := C.reads (n := 41) I (h2.full sb) r2 (by simpa [D.dp] using p2)
      rw [D.toP] at rb
      have q2 := dps_plain xs 40 p2
      refine PySem.SeqAt.in_tuple_data rb ra q2.1 (dp_plain d 40 p1).1 (by have := Nat.min_le_left (PyData.depthAll (D.toPs xs)) d.toP.depth; have := q2.2; omega) ?_
      rw [← inD_toP d xs 40 40 p1 p2, Option.some.inj hq]
      exact hQ s I
  | lst xs =>
    simp only [inO] at hq
    cases c : (D.dp d 40 && D.dps xs 40) with
    | false => rw [c] at hq; cases hq
    | true =>
      rw [c] at hq
      obtain ⟨p1, p2⟩ := and2 c
      obtain ⟨as, ra⟩ := C.reads I h1 r1 p1
      obtain ⟨bs, rb⟩ := C.reads (n := 41) I (h2.full sb) r2 (by simpa [D.dp] using p2)
      rw [D.toP] at rb
      have q2 := dps_plain xs 40 p2
      refine PySem.SeqAt.in_list_data rb ra q2.1 (dp_plain d 40 p1).1 (by have := Nat.min_le_left (PyData.depthAll (D.toPs xs)) d.toP.depth; have := q2.2; omega) ?_
      rw [← inD_toP d xs 40 40 p1 p2, Option.some.inj hq]
      exact hQ s I
  | dic ks vs =>
    simp only [inO] at hq
    cases c : keyFits d ks with
    | false => rw [c] at hq; cases hq
    | true =>
      rw [c] at hq
      obtain ⟨ho, hk⟩ := keyFits_and c
      obtain ⟨p, rfl, h3⟩ := h2.dic sb
      cases (show b = .ref p from r2)
      rcases hk with ⟨tk, at_⟩ | ⟨⟨kk, fk⟩, at_⟩
      · obtain ⟨nz, xs, hz, ent, dd⟩ := C.dicT I sb h3 at_
        obtain ⟨xs', rfl⟩ := tk
        obtain ⟨bk, rfl⟩ := rep_ref h1
        cases (show a = .ref bk from r1)
        refine wpAny_in_heap C.roomN (C.key I h1 ho) nz dd ?_
        rw [← (ent.look ho ⟨xs', rfl⟩).1, Option.some.inj hq]
        exact hQ _ (I.tok _)
      · obtain ⟨nz, xs, hz, ent, dd⟩ := C.dicK I h3 at_
        rw [rep_flat h1 fk] at r1
        refine wpAny_in_of (kV_is r1) nz dd.mapOf ?_
        rw [← (ent.look fk).1, Option.some.inj hq]
        exact hQ _ (I.tok _)
  | _ => simp [inO] at hq
theorem cmp_notIn (C : Ctx F k X) (I : Inv X pins σ H s) {v u : V} {a b : Value} {d e : D} {q : Bool} (sb : Sub G H) (h1 : Rep F z H v d) (h2 : RepO F z G H u e) (r1 : RelV v a) (r2 : RelV u b) (hq : inO d e = some (!q)) {Q : Value → Shared → Prop} {E : Value → Shared → Prop}
    (hQ : ∀ s', Inv X pins σ H s' → Q (.bool q) s') : wpAny (model X.prog X.w) X.A (compareOp .NotIn a b) Q E s := by
  have hun := C.un
  have flip : ∀ {t : Bool}, t = !q → (!t) = q := fun e => by rw [e, Bool.not_not]
  cases e with
  | tup xs =>
    simp only [inO] at hq
    cases c : (D.dp d 40 && D.dps xs 40) with
    | false => rw [c] at hq; cases hq
    | true =>
      rw [c] at hq
      obtain ⟨p1, p2⟩ := and2 c
      obtain ⟨as, ra⟩ := C.reads I h1 r1 p1
      obtain ⟨bs, rb⟩ := C.reads (n := 41) I (h2.full sb) r2 (by simpa [D.dp] using p2)
      rw [D.toP] at rb
      have q2 := dps_plain xs 40 p2
      refine PySem.SeqAt.notIn_tuple_data rb ra q2.1 (dp_plain d 40 p1).1 (by have := Nat.min_le_left (PyData.depthAll (D.toPs xs)) d.toP.depth; have := q2.2; omega) ?_
      rw [← inD_toP d xs 40 40 p1 p2, flip (Option.some.inj hq)]
      exact hQ s I
  | lst xs =>
    simp only [inO] at hq
    cases c : (D.dp d 40 && D.dps xs 40) with
    | false => rw [c] at hq; cases hq
    | true =>
      rw [c] at hq
      obtain ⟨p1, p2⟩ := and2 c
      obtain ⟨as, ra⟩ := C.reads I h1 r1 p1
      obtain ⟨bs, rb⟩ := C.reads (n := 41) I (h2.full sb) r2 (by simpa [D.dp] using p2)
      rw [D.toP] at rb
      have q2 := dps_plain xs 40 p2
      refine PySem.SeqAt.notIn_list_data rb ra q2.1 (dp_plain d 40 p1).1 (by have := Nat.min_le_left (PyData.depthAll (D.toPs xs)) d.toP.depth; have := q2.2; omega) ?_
      rw [← inD_toP d xs 40 40 p1 p2, flip (Option.some.inj hq)]
      exact hQ s I
  | dic ks vs =>
    simp only [inO] at hq
    cases c : keyFits d ks with
    | false => rw [c] at hq; cases hq
    | true =>
      rw [c] at hq
      obtain ⟨ho, hk⟩ := keyFits_and c
      obtain ⟨p, rfl, h3⟩ := h2.dic sb
      cases (show b = .ref p from r2)
      rcases hk with ⟨tk, at_⟩ | ⟨⟨kk, fk⟩, at_⟩
      · obtain ⟨nz, xs, hz, ent, dd⟩ := C.dicT I sb h3 at_
        obtain ⟨xs', rfl⟩ := tk
        obtain ⟨bk, rfl⟩ := rep_ref h1
        cases (show a = .ref bk from r1)
        refine wpAny_notIn_heap C.roomN (C.key I h1 ho) nz dd ?_
        rw [← (ent.look ho ⟨xs', rfl⟩).1, flip (Option.some.inj hq)]
        exact hQ _ (I.tok _)
      · obtain ⟨nz, xs, hz, ent, dd⟩ := C.dicK I h3 at_
        rw [rep_flat h1 fk] at r1
        refine wpAny_notIn_of (kV_is r1) nz dd.mapOf ?_
        rw [← (ent.look fk).1, flip (Option.some.inj hq)]
        exact hQ _ (I.tok _)
  | _ => simp [inO] at hq
/-- d[k] -/
theorem sub_dic (C : Ctx F k X) (I : Inv X pins σ H s) {v u : V} {a b : Value} {d e : D} {ks vs : List D} (sb : Sub G H) (h1 : Rep F z H v d) (h2 : RepO F z G H u (.dic ks vs)) (r1 : RelV v a) (r2 : RelV u b) (hf : keyFits d ks = true) (hq : look d ks vs = some e) {Q : Value → Shared → Prop} {E : Value → Shared → Prop}
    (hQ : ∀ w' x s', Inv X pins σ H s' → Rep F z G x e → RelV x w' → Q w' s') : wpAny (model X.prog X.w) X.A (getItem b a) Q E s := by
  obtain ⟨ho, hk⟩ := keyFits_and hf
  obtain ⟨p, rfl, h3⟩ := h2.dic sb
  cases (show b = .ref p from r2)
  rcases hk with ⟨tk, at_⟩ | ⟨⟨kk, fk⟩, at_⟩
  · obtain ⟨nz, xs, hz, ent, dd⟩ := C.dicT I sb h3 at_
    obtain ⟨xs', rfl⟩ := tk
    obtain ⟨bk, rfl⟩ := rep_ref h1
    cases (show a = .ref bk from r1)
    have l := (ent.look ho ⟨xs', rfl⟩).2
    rw [hq] at l
    obtain ⟨b', u', v', l1, l2, l3⟩ := l
    exact wpAny_getItem_heap C.roomN (C.key I h1 ho) dd l1 (hQ _ v' _ (I.tok _) l2 l3)
  · obtain ⟨nz, xs, hz, ent, dd⟩ := C.dicK I h3 at_
    rw [rep_flat h1 fk] at r1
    have l := (ent.look fk).2
    rw [hq] at l
    obtain ⟨u', v', l1, l2, l3⟩ := l
    exact wpAny_getItem_of (kV_is r1) dd.mapOf l1 (hQ _ v' _ (I.tok _) l2 l3)
end
end Fp
end
section
set_option Elab.async false
set_option linter.all false
set_option maxRecDepth 100000
set_option autoImplicit false
set_option maxHeartbeats 1000000
/-! Operators that make things. -/
namespace Fp
open PySem PySem.Spec PyProof.Rows L2

/-- an operation on two operands, told by a function on data -/
def rB (F : Fx) (f : D → D → Option D) : R2 := fun x y H Q => ∃ z G g d e r, Sub G H ∧ (∀ a ∈ z, G a = none) ∧ RngAt F z g H ∧ RepO F z G H x d ∧ RepO F z G H y e ∧ f d e = some r ∧
  ∀ v G' H', Grow z G H z G' H' → RngAt F z g H' → Rep F z G' v r → Q v H'

section
variable {F : Fx} {k : Nat} {X : Cx}
theorem RepO.int {z : List Addr} {G H : Hp} {v : V} {i : Int} (h : RepO F z G H v (.int i)) : v = .int i := by
  rcases h with h | ⟨_, _, _, h⟩
  · cases h; rfl
  · exact h.elim
theorem fits_le {n : Nat} (h : fits n = true) : n ≤ 16777000 := Nat.le_of_ble_eq_true h
theorem fits_size {n : Nat} (h : fits n = true) : n ≤ sizeLine := by have := fits_le h; rw [sizeLine_eq]; omega
theorem fits_lt {n : Nat} (h : fits n = true) : n < sizeLine := by have := fits_le h; rw [sizeLine_eq]; omega
theorem wee_iff {i : Int} (h : wee i = true) : -(2 ^ 64) < i ∧ i < 2 ^ 64 := by
  have : i.natAbs < 18446744073709551616 := Nat.le_of_ble_eq_true h
  omega

/-- a new thing at p -/
theorem laid_rep {z : List Addr} {G H : Hp} {g : Gs} {p : Addr} {o : HO} (sb : Sub G H) (hz : ∀ a ∈ z, G a = none) (hg : RngAt F z g H) (n : H p = none) :
    Grow z G H z (upd G p o) (upd H p o) ∧ RngAt F z g (upd H p o) :=
  ⟨.laid sb hz n (hg.there n), hg.keep fun a u h => by rw [upd_ne (ne_of_none h n)]; exact h⟩
theorem new_lst {z : List Addr} {G H : Hp} {g : Gs} {p : Addr} {vs : List V} {ds : List D} {Q : V → Hp → Prop} (sb : Sub G H) (hz : ∀ a ∈ z, G a = none) (hg : RngAt F z g H) (n : H p = none) (r : RepAll F z G vs ds)
    (hQ : ∀ v G' H', Grow z G H z G' H' → RngAt F z g H' → Rep F z G' v (.lst ds) → Q v H') : Q (.ref p) (upd H p (.lst vs)) := by
  obtain ⟨g1, g2⟩ := laid_rep (o := .lst vs) sb hz hg n
  exact hQ _ _ _ g1 g2 (.lst upd_same (r.mono (.refl z) g1.sub))
theorem new_tup {z : List Addr} {G H : Hp} {g : Gs} {p : Addr} {vs : List V} {ds : List D} {Q : V → Hp → Prop} (sb : Sub G H) (hz : ∀ a ∈ z, G a = none) (hg : RngAt F z g H) (n : H p = none) (r : RepAll F z G vs ds)
    (hQ : ∀ v G' H', Grow z G H z G' H' → RngAt F z g H' → Rep F z G' v (.tup ds) → Q v H') : Q (.ref p) (upd H p (.tup vs)) := by
  obtain ⟨g1, g2⟩ := laid_rep (o := .tup vs) sb hz hg n
  exact hQ _ _ _ g1 g2 (.tup (.of upd_same) (r.mono (.refl z) g1.sub))
/-- the same thing again -/
theorem same_rep {z : List Addr} {G H : Hp} {g : Gs} {v : V} {d : D} {Q : V → Hp → Prop} (sb : Sub G H) (hz : ∀ a ∈ z, G a = none) (hg : RngAt F z g H) (r : Rep F z G v d)
    (hQ : ∀ v G' H', Grow z G H z G' H' → RngAt F z g H' → Rep F z G' v d → Q v H') : Q v H := hQ _ _ _ (.refl sb hz) hg r

theorem bit_and (a b : Nat) : Builtin.bitAnd (Int.ofNat a) (Int.ofNat b) = Int.ofNat (Nat.land a b) := rfl

theorem RepAll.replicate {z : List Addr} {G : Hp} {vs : List V} {ds : List D} (r : RepAll F z G vs ds) : ∀ n : Nat, RepAll F z G (List.replicate n vs).flatten (List.replicate n ds).flatten
  | 0 => .nil
  | n + 1 => by
    rw [List.replicate_succ, List.flatten_cons, List.replicate_succ, List.flatten_cons]
    exact r.append (RepAll.replicate r n)

theorem bop_ok (C : Ctx F k X) (op : Operator) : OpR X (binaryOp op) (rB F (bop op)) := by
  intro pins s σ H x y v u Q I rx ry h
  obtain ⟨z, G, g, d, e, r, sb, hz, hg, hx, hy, hb, q⟩ := h
  have ii : ∀ {i j m : Int} {f : Value → Value → Sem Value} {rr : R2}, OpR X f rr → (rr (.int i) (.int j) H Q) → x = .int i → y = .int j → wpAny (model X.prog X.w) X.A (f v u) (EP X pins σ Q) X.xe s := by
    intro i j m f rr ho hr ex ey
    subst ex ey
    exact ho pins s σ H _ _ v u Q I rx ry hr
  have fin : ∀ {m : Int}, r = .int m → Q (.int m) H := fun {m} e => by subst e; exact same_rep sb hz hg (.int m) q
  cases op with
  | Add =>
    cases d with
    | int i =>
      cases e with
      | int j => exact ii (m := 0) op_add ⟨i, j, rfl, rfl, fin (Option.some.inj hb).symm⟩ hx.int hy.int
      | _ => simp [bop] at hb
    | lst ds =>
      cases e with
      | lst es =>
        simp only [bop] at hb
        cases c : fits (ds.length + es.length) with
        | false => rw [c] at hb; cases hb
        | true =>
          rw [c] at hb
          obtain ⟨a, vs, rfl, h1, h2⟩ := hx.lst sb
          obtain ⟨b, us, rfl, h3, h4⟩ := hy.lst sb
          have l1 := h2.length
          have l2 := h4.length
          have hr : r = .lst (ds ++ es) := (Option.some.inj hb).symm
          subst hr
          exact op_cat pins s σ H _ _ v u Q I rx ry ⟨a, b, vs, us, rfl, rfl, h1, h3, by rw [l1, l2]; exact fits_size c, fun p n => new_lst sb hz hg n (h2.append h4) q⟩
      | _ => simp [bop] at hb
    | tup ds =>
      cases e with
      | tup es =>
        simp only [bop] at hb
        cases c : fits (ds.length + es.length) with
        | false => rw [c] at hb; cases hb
        | true =>
          rw [c] at hb
          obtain ⟨a, vs, rfl, h1, h2⟩ := hx.tup sb
          obtain ⟨b, us, rfl, h3, h4⟩ := hy.tup sb
          have l1 := h2.length
          have l2 := h4.length
          have hr : r = .tup (ds ++ es) := (Option.some.inj hb).symm
          subst hr
          have rx' : Rep F z G (.ref a) (.tup ds) := by rcases hx with h | ⟨_, _, _, h⟩; exact h; exact h.elim
          have ry' : Rep F z G (.ref b) (.tup es) := by rcases hy with h | ⟨_, _, _, h⟩; exact h; exact h.elim
          refine op_catA pins s σ H _ _ v u Q I rx ry ⟨a, b, vs, us, rfl, rfl, by rw [C.K]; exact h1, by rw [C.K]; exact h3, by rw [l1, l2]; exact fits_size c, fun e0 => ?_, fun _ e0 => ?_, fun _ _ p n => new_tup sb hz hg n (h2.append h4) q⟩
          · subst e0
            cases h2
            exact same_rep sb hz hg ry' q
          · subst e0
            cases h4
            rw [List.append_nil] at q
            exact same_rep sb hz hg rx' q
      | _ => simp [bop] at hb
    | _ => cases e <;> simp [bop] at hb
  | Sub =>
    cases d with
    | int i =>
      cases e with
      | int j => exact ii (m := 0) op_sub ⟨i, j, rfl, rfl, fin (Option.some.inj hb).symm⟩ hx.int hy.int
      | _ => simp [bop] at hb
    | _ => cases e <;> simp [bop] at hb
  | Mult =>
    cases d with
    | int i =>
      cases e with
      | int j =>
        simp only [bop] at hb
        cases c : (wee i || wee j) with
        | false => rw [c] at hb; cases hb
        | true =>
          rw [c] at hb
          refine ii (m := 0) op_mul ⟨i, j, rfl, rfl, ?_, fin (Option.some.inj hb).symm⟩ hx.int hy.int
          rcases Bool.or_eq_true_iff.mp c with c | c
          · exact .inl (wee_iff c)
          · exact .inr (wee_iff c)
      | _ => simp [bop] at hb
    | tup ds =>
      cases e with
      | int j =>
        simp only [bop] at hb
        cases c : (intLe 2 j && (intLe j 1000 && (Nat.ble ds.length 1000 && Nat.blt 0 ds.length))) with
        | false => rw [c] at hb; cases hb
        | true =>
          rw [c] at hb
          obtain ⟨c1, c⟩ := and2 c
          obtain ⟨c2, c⟩ := and2 c
          obtain ⟨c3, c4⟩ := and2 c
          rw [intLe_iff] at c1 c2
          have c1 := of_decide_eq_true c1
          have c2 := of_decide_eq_true c2
          have c3 := Nat.le_of_ble_eq_true c3
          have c4 : 0 < ds.length := Nat.le_of_ble_eq_true c4
          obtain ⟨a, vs, rfl, h1, h2⟩ := hx.tup sb
          have l1 := h2.length
          have hr : r = .tup ((List.replicate j.toNat ds).flatten) := (Option.some.inj hb).symm
          subst hr
          have hj := hy.int
          subst hj
          exact op_repT pins s σ H _ _ v u Q I rx ry ⟨a, j, vs, rfl, rfl, by rw [C.K]; exact h1, by intro e; rw [e] at l1; simp at l1; omega, c1, c2, by omega, fun p n => new_tup sb hz hg n (h2.replicate _) q⟩
      | _ => simp [bop] at hb
    | _ => cases e <;> simp [bop] at hb
  | Mod =>
    cases d with
    | int i =>
      cases e with
      | int j =>
        simp only [bop] at hb
        cases c : intLe j 0 with
        | true => rw [c] at hb; cases hb
        | false =>
          rw [c] at hb
          rw [intLe_iff] at c
          have c := of_decide_eq_false c
          exact ii (m := 0) op_mod ⟨i, j, rfl, rfl, by omega, fin (Option.some.inj hb).symm⟩ hx.int hy.int
      | _ => simp [bop] at hb
    | _ => cases e <;> simp [bop] at hb
  | FloorDiv =>
    cases d with
    | int i =>
      cases e with
      | int j =>
        simp only [bop] at hb
        cases c : (intLe j 0 || intLe 1073741824 j) with
        | true => rw [c] at hb; cases hb
        | false =>
          rw [c] at hb
          obtain ⟨c1, c2⟩ := Bool.or_eq_false_iff.mp c
          rw [intLe_iff] at c1 c2
          have c1 := of_decide_eq_false c1
          have c2 := of_decide_eq_false c2
          exact ii (m := 0) op_fdiv ⟨i, j, rfl, rfl, ⟨by omega, by omega⟩, fin (Option.some.inj hb).symm⟩ hx.int hy.int
      | _ => simp [bop] at hb
    | _ => cases e <;> simp [bop] at hb
  | Pow =>
    cases d with
    | int i =>
      cases e with
      | int j =>
        simp only [bop] at hb
        cases c : (intLe 0 j && (intLe j 1000 && wee i)) with
        | false => rw [c] at hb; cases hb
        | true =>
          rw [c] at hb
          obtain ⟨c1, c⟩ := and2 c
          obtain ⟨c2, c3⟩ := and2 c
          rw [intLe_iff] at c1 c2
          have c1 := of_decide_eq_true c1
          have c2 := of_decide_eq_true c2
          have c3 := wee_iff c3
          exact ii (m := 0) op_pow ⟨i, j, rfl, rfl, ⟨c1, by omega, by omega⟩, fin (Option.some.inj hb).symm⟩ hx.int hy.int
      | _ => simp [bop] at hb
    | _ => cases e <;> simp [bop] at hb
  | LShift =>
    cases d with
    | int i =>
      cases e with
      | int j =>
        simp only [bop] at hb
        cases c : (intLe 0 j && (intLe j 1000 && wee i)) with
        | false => rw [c] at hb; cases hb
        | true =>
          rw [c] at hb
          obtain ⟨c1, c⟩ := and2 c
          obtain ⟨c2, c3⟩ := and2 c
          rw [intLe_iff] at c1 c2
          have c1 := of_decide_eq_true c1
          have c2 := of_decide_eq_true c2
          have c3 := wee_iff c3
          exact ii (m := 0) op_shl ⟨i, j, rfl, rfl, ⟨c1, by omega, by omega⟩, fin (Option.some.inj hb).symm⟩ hx.int hy.int
      | _ => simp [bop] at hb
    | _ => cases e <;> simp [bop] at hb
  | RShift =>
    cases d with
    | int i =>
      cases e with
      | int j =>
        simp only [bop] at hb
        cases c : intLe 0 j with
        | false => rw [c] at hb; cases hb
        | true =>
          rw [c] at hb
          rw [intLe_iff] at c
          have c := of_decide_eq_true c
          exact ii (m := 0) op_shr ⟨i, j, rfl, rfl, c, fin (Option.some.inj hb).symm⟩ hx.int hy.int
      | _ => simp [bop] at hb
    | _ => cases e <;> simp [bop] at hb
  | BitAnd =>
    cases d with
    | int i =>
      cases e with
      | int j =>
        cases i with
        | ofNat a =>
          cases j with
          | ofNat b => exact ii (m := 0) op_and ⟨_, _, rfl, rfl, by show Q (.int (Builtin.bitAnd _ _)) H; rw [bit_and]; exact fin (Option.some.inj hb).symm⟩ hx.int hy.int
          | negSucc b => simp [bop] at hb
        | negSucc a => simp [bop] at hb
      | _ => simp [bop] at hb
    | _ => cases e <;> simp [bop] at hb
  | _ => cases d <;> cases e <;> simp [bop] at hb
end
end Fp
end
section
set_option Elab.async false
set_option linter.all false
set_option maxRecDepth 100000
set_option autoImplicit false
set_option maxHeartbeats 1000000
/-! Expressions: readings by the evaluator. -/
namespace Fp
open PySem PySem.Spec PyProof.Rows L2

/-- shared (c), or an operand -/
def RepB (F : Fx) (c : Bool) (z : List Addr) (G H : Hp) (v : V) (d : D) : Prop := match c with
  | true => Rep F z G v d
  | false => RepO F z G H v d
theorem RepB.o {F : Fx} {c : Bool} {z : List Addr} {G H : Hp} {v : V} {d : D} (h : RepB F c z G H v d) : RepO F z G H v d := by
  cases c
  · exact h
  · exact .inl h
theorem RepB.of {F : Fx} {c : Bool} {z : List Addr} {G H : Hp} {v : V} {d : D} (h : Rep F z G v d) : RepB F c z G H v d := by
  cases c
  · exact .inl h
  · exact h

/-- what comes of an expression -/
def Out (F : Fx) (c : Bool) (z : List Addr) (G H : Hp) (r : Rs D) (Q : V → Hp → Prop) (W : XK) : Prop := match r with
  | .ok d g' => ∀ v z' G' H', Grow z G H z' G' H' → RngAt F z' g' H' → RepB F c z' G' H' v d → Q v H'
  | .ex cl fs g' => ∀ da z' G' H', Grow z G H z' G' H' → RngAt F z' g' H' → ExcAt F z' G' H' cl fs da → W (.ref (F.ca cl)) da H'
  | .no => False
/-- .. of something else -/
def OutA (F : Fx) {α : Type} (z : List Addr) (G H : Hp) (r : Rs α) (Q : α → List Addr → Hp → Hp → Gs → Prop) (W : XK) : Prop := match r with
  | .ok a g' => ∀ z' G' H', Grow z G H z' G' H' → RngAt F z' g' H' → Q a z' G' H' g'
  | .ex cl fs g' => ∀ da z' G' H', Grow z G H z' G' H' → RngAt F z' g' H' → ExcAt F z' G' H' cl fs da → W (.ref (F.ca cl)) da H'
  | .no => False
section
variable {F : Fx} {c c' : Bool} {z z1 : List Addr} {G H G1 H1 : Hp} {r : Rs D} {Q Q1 : V → Hp → Prop} {W : XK}
theorem Out.grow (h : Out F c z G H r Q W) (g : Grow z G H z1 G1 H1) : Out F c z1 G1 H1 r Q W := by
  cases r with
  | ok d g' => exact fun v z' G' H' gr rn rp => h v z' G' H' (g.trans gr) rn rp
  | ex cl fs g' => exact fun da z' G' H' gr rn rp => h da z' G' H' (g.trans gr) rn rp
  | no => exact h
/-- an operand's reading serves for what is shared -/
theorem Out.clean (h : Out F false z G H r Q W) : Out F c z G H r Q W := by
  cases r with
  | ok d g' => exact fun v z' G' H' gr rn rp => h v z' G' H' gr rn rp.o
  | ex cl fs g' => exact h
  | no => exact h
theorem out_bind {f : D → Gs → Rs D} (h : Out F c' z G H (r.bind f) Q W)
    (k : ∀ d g1 v z1 G1 H1, Grow z G H z1 G1 H1 → RngAt F z1 g1 H1 → RepB F c z1 G1 H1 v d → Out F c' z1 G1 H1 (f d g1) Q W → Q1 v H1) : Out F c z G H r Q1 W := by
  cases r with
  | ok d g' => exact fun v z' G' H' gr rn rp => k d g' v z' G' H' gr rn rp (Out.grow (show Out F c' z G H (f d g') Q W from h) gr)
  | ex cl fs g' => exact h
  | no => exact h
theorem OutA.grow {α : Type} {r : Rs α} {Q : α → List Addr → Hp → Hp → Gs → Prop} (h : OutA F z G H r Q W) (g : Grow z G H z1 G1 H1) : OutA F z1 G1 H1 r Q W := by
  cases r with
  | ok d g' => exact fun z' G' H' gr rn => h z' G' H' (g.trans gr) rn
  | ex cl fs g' => exact fun da z' G' H' gr rn rp => h da z' G' H' (g.trans gr) rn rp
  | no => exact h
/-- something first, then an expression -/
theorem outA_bind {α : Type} {r : Rs α} {f : α → Gs → Rs D} {Q1 : α → List Addr → Hp → Hp → Gs → Prop} (h : Out F c z G H (r.bind f) Q W)
    (k : ∀ a g1 z1 G1 H1, Grow z G H z1 G1 H1 → RngAt F z1 g1 H1 → Out F c z1 G1 H1 (f a g1) Q W → Q1 a z1 G1 H1 g1) : OutA F z G H r Q1 W := by
  cases r with
  | ok d g' => exact fun z' G' H' gr rn => k d g' z' G' H' gr rn (Out.grow (show Out F c z G H (f d g') Q W from h) gr)
  | ex cl fs g' => exact h
  | no => exact h
/-- an expression first, then something -/
theorem outE_bind {α : Type} {f : D → Gs → Rs α} {Q : α → List Addr → Hp → Hp → Gs → Prop} (h : OutA F z G H (r.bind f) Q W)
    (k : ∀ d g1 v z1 G1 H1, Grow z G H z1 G1 H1 → RngAt F z1 g1 H1 → RepB F c z1 G1 H1 v d → OutA F z1 G1 H1 (f d g1) Q W → Q1 v H1) : Out F c z G H r Q1 W := by
  cases r with
  | ok d g' => exact fun v z' G' H' gr rn rp => k d g' v z' G' H' gr rn rp (OutA.grow (show OutA F z G H (f d g') Q W from h) gr)
  | ex cl fs g' => exact h
  | no => exact h
theorem outAA_bind {α β : Type} {r : Rs α} {f : α → Gs → Rs β} {Q : β → List Addr → Hp → Hp → Gs → Prop} {Q1 : α → List Addr → Hp → Hp → Gs → Prop} (h : OutA F z G H (r.bind f) Q W)
    (k : ∀ a g1 z1 G1 H1, Grow z G H z1 G1 H1 → RngAt F z1 g1 H1 → OutA F z1 G1 H1 (f a g1) Q W → Q1 a z1 G1 H1 g1) : OutA F z G H r Q1 W := by
  cases r with
  | ok d g' => exact fun z' G' H' gr rn => k d g' z' G' H' gr rn (OutA.grow (show OutA F z G H (f d g') Q W from h) gr)
  | ex cl fs g' => exact h
  | no => exact h
/-- the value is told at once -/
theorem out_of {o : Option D} {g : Gs} (h : Out F c z G H (Rs.of o g) Q W) : ∃ d, o = some d ∧ ∀ v z' G' H', Grow z G H z' G' H' → RngAt F z' g H' → RepB F c z' G' H' v d → Q v H' := by
  cases o with
  | none => exact h.elim
  | some d => exact ⟨d, rfl, h⟩
end

/-- an expression's reading -/
def tX (F : Fx) (Pt : Prv) (ρ : List Sl) (c : Bool) (r : Gs → Rs D) (W : WX) : TE := fun σ H Q =>
  ∃ z G g, Rel F Pt z ρ σ G H ∧ RngAt F z g H ∧ Out F c z G H (r g) Q fun cl d H' => W cl d σ H'
/-- a test's -/
def tB (F : Fx) (Pt : Prv) (ρ : List Sl) (r : Gs → Rs Bool) (W : WX) : TT := fun σ H Q =>
  ∃ z G g, Rel F Pt z ρ σ G H ∧ RngAt F z g H ∧ OutA F z G H (r g) (fun b _ _ H' _ => Q b H') fun cl d H' => W cl d σ H'

theorem PE.imp {X : Cx} {e : Expr} {t t' : TE} (h : PE X e t') (k : ∀ σ H Q, t σ H Q → t' σ H Q) : PE X e t := ⟨fun pins s σ H Q I hw => h.run pins s σ H Q I (k σ H Q hw)⟩
theorem PT.imp {X : Cx} {e : Expr} {t t' : TT} (h : PT X e t') (k : ∀ σ H Q, t σ H Q → t' σ H Q) : PT X e t := ⟨fun pins s σ H Q I hw => h.run pins s σ H Q I (k σ H Q hw)⟩

/-- the names of a block -/
structure Lc where
  N : List Str
  sc : Scope
  fn : Str → Bool
  calm : Bool
/-- the module's names: defs, classes, constants; built-ins that no name of the module hides -/
structure Gn where
  fns : List Str
  cls : List Str
  cons : List Str
  free : List Str

def visB (sc : Scope) (x : Str) : Bool := match sc.names.lookup x with
  | some .local => true
  | some .cell => true
  | some .free => true
  | _ => false
def glB (sc : Scope) (x : Str) : Bool := match sc.names.lookup x with
  | some .globalImplicit => !(x == ("__debug__" : Str))
  | _ => false
def nameOk (L : Lc) (i : Nat) (x : Str) : Bool := decide (L.N[i]? = some x) && (visB L.sc x && (!(x == ("__debug__" : Str)) && !(x == ("__classdict__" : Str))))
theorem visB_ok {sc : Scope} {x : Str} (h : visB sc x = true) : Vis sc x := by
  unfold visB at h
  split at h
  · exact .inl (by assumption)
  · exact .inr (.inl (by assumption))
  · exact .inr (.inr (by assumption))
  · cases h
theorem glB_ok {X : Cx} {x : Str} (h : glB X.env.scope x = true) : Gl X x ∧ (x == ("__debug__" : Str)) = false := by
  unfold glB at h
  split at h
  · rename_i e
    exact ⟨e, by simpa using h⟩
  · cases h
structure LcOk (L : Lc) (X : Cx) : Prop where
  N : X.N = L.N
  sc : X.env.scope = L.sc
  fn : X.fn = L.fn
  calm : X.calm = L.calm

section
variable {F : Fx} {n k : Nat} {X : Cx} {W : WX} {L : Lc} {Pt : Prv} {ρ : List Sl}
theorem snd_v (O : LcOk L X) {i : Nat} {x : Str} {p : Pos} {r : Ev} {c : Bool} (hw : nameOk L i x = true) : PE X (Xp.v i x p).un (tX F Pt ρ c (fun g => stepE F.T r ρ g (.v i x p)) W) := by
  obtain ⟨h1, h2⟩ := and2 hw
  obtain ⟨h2, h3⟩ := and2 h2
  obtain ⟨h3, h4⟩ := and2 h3
  refine PE.imp (pe_var (i := i) (by rw [O.N]; exact of_decide_eq_true h1) (by rw [O.sc]; exact visB_ok h2) (by simpa using h3) (by simpa using h4)) ?_
  rintro σ H Q ⟨z, G, g, rel, rng, out⟩
  simp only [stepE] at out
  cases e : ρ[i]? with
  | none => rw [e] at out; exact out.elim
  | some sl =>
    rw [e] at out
    cases sl with
    | un => exact out.elim
    | xc c fs => exact out.elim
    | ow d => exact out.elim
    | sh d =>
      obtain ⟨v, hv, rp⟩ := rel.sh i d e
      exact ⟨v, hv, out v z G H (.refl rel.sub rel.zG) rng (.of rp)⟩
theorem snd_pk (O : LcOk L X) {i : Nat} {x : Str} {p : Pos} {r : Ev} (hw : nameOk L i x = true) : PE X (Xp.pk i x p).un (tX F Pt ρ false (fun g => stepE F.T r ρ g (.pk i x p)) W) := by
  obtain ⟨h1, h2⟩ := and2 hw
  obtain ⟨h2, h3⟩ := and2 h2
  obtain ⟨h3, h4⟩ := and2 h3
  refine PE.imp (pe_var (i := i) (by rw [O.N]; exact of_decide_eq_true h1) (by rw [O.sc]; exact visB_ok h2) (by simpa using h3) (by simpa using h4)) ?_
  rintro σ H Q ⟨z, G, g, rel, rng, out⟩
  simp only [stepE] at out
  cases e : ρ[i]? with
  | none => rw [e] at out; exact out.elim
  | some sl =>
    rw [e] at out
    cases sl with
    | un => exact out.elim
    | xc c fs => exact out.elim
    | ow d =>
      obtain ⟨a, hv, _, nz, _, oa⟩ := rel.ow i d e
      exact ⟨_, hv, out _ z G H (.refl rel.sub rel.zG) rng (.inr ⟨a, rfl, nz, oa⟩)⟩
    | sh d =>
      obtain ⟨v, hv, rp⟩ := rel.sh i d e
      exact ⟨v, hv, out v z G H (.refl rel.sub rel.zG) rng (.inl rp)⟩
theorem snd_c {kc : Const} {j : Nat} {p : Pos} {r : Ev} {c : Bool} (hw : (cOf kc).isSome = true) : PE X (Xp.c kc j p).un (tX F Pt ρ c (fun g => stepE F.T r ρ g (.c kc j p)) W) := by
  have fin : ∀ {d : D} {v : V} {σ : L2.St} {H : Hp} {Q : V → Hp → Prop}, cOf kc = some d → (∀ z G, Rep F z G v d) → tX F Pt ρ c (fun g => stepE F.T r ρ g (.c kc j p)) W σ H Q → Q v H := by
    rintro d v σ H Q e rp ⟨z, G, g, rel, rng, out⟩
    simp only [stepE] at out
    obtain ⟨d', e', q⟩ := out_of out
    rw [e] at e'; cases e'
    exact q v z G H (.refl rel.sub rel.zG) rng (.of (rp z G))
  cases kc with
  | none => exact PE.imp pe_non fun σ H Q h => fin rfl (fun _ _ => .non) h
  | bool b => exact PE.imp pe_bl fun σ H Q h => fin rfl (fun _ _ => .bl b) h
  | int i => exact PE.imp pe_int fun σ H Q h => fin rfl (fun _ _ => .int i) h
  | str x => exact PE.imp pe_str fun σ H Q h => fin rfl (fun _ _ => .str x) h
  | _ => simp [cOf] at hw
/-- two operands, an operation that makes something -/
theorem snd_bin (C : Ctx F k X) {a b : Xp} {op : Operator} {p : Pos} {r : Ev} {c : Bool} (ha : PE X a.un (tX F Pt ρ false (fun g => r.e ρ g a) W)) (hb : PE X b.un (tX F Pt ρ false (fun g => r.e ρ g b) W)) :
    PE X (Xp.bin a op b p).un (tX F Pt ρ c (fun g => stepE F.T r ρ g (.bin a op b p)) W) := by
  refine PE.imp (pe_op (bop_ok C op) ha hb) ?_
  rintro σ H Q ⟨z, G, g, rel, rng, out⟩
  refine ⟨z, G, g, rel, rng, out_bind out ?_⟩
  intro d g1 v z1 G1 H1 gr rn rp out
  refine ⟨z1, G1, g1, rel.grow gr, rn, out_bind out ?_⟩
  intro e g2 u z2 G2 H2 gr2 rn2 rp2 out
  obtain ⟨m, hm, q⟩ := out_of out
  refine ⟨z2, G2, g2, d, e, m, gr2.sub', gr2.zG, rn2, rp.grow gr2, rp2, hm, fun v' G' H' g' r' rp' => q v' z2 G' H' g' r' (.of rp')⟩
end
end Fp
end
section
set_option Elab.async false
set_option linter.all false
set_option maxRecDepth 100000
set_option autoImplicit false
set_option maxHeartbeats 1000000
/-! Comparisons, tests, and, or, not, conditional expressions. -/
namespace Fp
open PySem PySem.Spec PyProof.Rows L2

/-- a comparison, told by data -/
def rC (F : Fx) (op : CmpOp) : R2 := fun x y H Q => ∃ z G d e q, Sub G H ∧ RepO F z G H x d ∧ RepO F z G H y e ∧ cop op d e = some q ∧ Q (.bl q) H
section
variable {F : Fx} {k : Nat} {X : Cx}
theorem is_bl {M : Model} {A : Around} {E : Value → Shared → Prop} {s : Shared} {x : V} {v : Value} {b : Bool} {Q : Value → Shared → Prop} (rx : RelV x v) (h : Q (.bool (v == .bool b)) s) : wpAny M A (compareOp .Is v (.bool b)) Q E s := by
  cases x <;> first
    | (cases rx; exact wpAny_pure h)
    | (obtain ⟨t, rfl⟩ := rx; exact wpAny_pure h)
theorem isnot_bl {M : Model} {A : Around} {E : Value → Shared → Prop} {s : Shared} {x : V} {v : Value} {b : Bool} {Q : Value → Shared → Prop} (rx : RelV x v) (h : Q (.bool (!(v == .bool b))) s) : wpAny M A (compareOp .IsNot v (.bool b)) Q E s := by
  cases x <;> first
    | (cases rx; exact wpAny_pure h)
    | (obtain ⟨t, rfl⟩ := rx; exact wpAny_pure h)
theorem isO_some {z : List Addr} {H : Hp} {v u : V} {a b : Value} {d e : D} {q : Bool} (h1 : Rep F z H v d) (h2 : Rep F z H u e) (r1 : RelV v a) (r2 : RelV u b) (hq : isO d e = some q) :
    (b = .none ∧ q = (a == .none)) ∨ ∃ t, b = .bool t ∧ q = (a == .bool t) := by
  cases e with
  | non =>
    cases h2
    cases r2
    refine .inl ⟨rfl, ?_⟩
    simp only [isO, Option.some.injEq] at hq
    subst hq
    cases h1 <;> first
      | (cases r1; rfl)
      | (obtain ⟨t, rfl⟩ := r1; rfl)
  | bl t =>
    cases h2
    cases r2
    refine .inr ⟨t, rfl, ?_⟩
    simp only [isO, Option.some.injEq] at hq
    subst hq
    cases h1 <;> first
      | (cases r1; rename_i b; cases b <;> cases t <;> rfl)
      | (cases r1; rfl)
      | (obtain ⟨t, rfl⟩ := r1; rfl)
  | _ => simp [isO] at hq
theorem cop_ok (C : Ctx F k X) (op : CmpOp) : OpR X (compareOp op) (rC F op) := by
  intro pins s σ H x y v u Q I rx ry h
  obtain ⟨z, G, d, e, q, sb, hx, hy, hc, hQ⟩ := h
  have h1 := hx.full sb
  have h2 := hy.full sb
  have fin : EP X pins σ Q (.bool q) s := ⟨.bl q, H, I, rfl, hQ⟩
  have fin' : ∀ s', L2.Inv X pins σ H s' → EP X pins σ Q (.bool q) s' := fun s' I' => ⟨.bl q, H, I', rfl, hQ⟩
  cases op with
  | Eq => exact cmp_eq C I h1 h2 rx ry hc fin
  | NotEq => exact cmp_ne C I h1 h2 rx ry (negO_some hc) fin
  | Lt => exact cmp_lt C I h1 h2 rx ry hc fin
  | LtE => exact cmp_le C I h1 h2 rx ry hc fin
  | Gt => exact cmp_gt C I h1 h2 rx ry (negO_some hc) fin
  | GtE => exact cmp_ge C I h1 h2 rx ry hc fin
  | In => exact cmp_in C I sb h1 hy rx ry hc fin'
  | NotIn => exact cmp_notIn C I sb h1 hy rx ry (negO_some hc) fin'
  | Is =>
    rcases isO_some h1 h2 rx ry hc with ⟨rfl, e⟩ | ⟨t, rfl, e⟩
    · exact is_none_gen (by rw [← e]; exact fin)
    · exact is_bl rx (by rw [← e]; exact fin)
  | IsNot =>
    have e' := negO_some hc
    have flip : ∀ {t : Bool}, (!q) = t → q = !t := fun e => by rw [← e, Bool.not_not]
    rcases isO_some h1 h2 rx ry e' with ⟨rfl, e⟩ | ⟨t, rfl, e⟩
    · exact isnot_none_gen (by rw [← flip e]; exact fin)
    · exact isnot_bl rx (by rw [← flip e]; exact fin)
end
theorem noMark (op : CmpOp) : ∀ e : Xp, behindInMarks op e.un = false := by
  intro e
  cases e <;> first | rfl | (simp only [Xp.un]; rfl)

section
variable {F : Fx} {n k : Nat} {X : Cx} {W : WX} {L : Lc} {Pt : Prv} {ρ : List Sl} {r : Ev} {c : Bool}
theorem snd_cmp (C : Ctx F k X) {a b : Xp} {op : CmpOp} {p : Pos} (ha : PE X a.un (tX F Pt ρ false (fun g => r.e ρ g a) W)) (hb : PE X b.un (tX F Pt ρ false (fun g => r.e ρ g b) W)) :
    PE X (Xp.cmp a op b p).un (tX F Pt ρ c (fun g => stepE F.T r ρ g (.cmp a op b p)) W) := by
  refine PE.imp (pe_cmpR (cop_ok C op) ha hb (noMark op b)) ?_
  rintro σ H Q ⟨z, G, g, rel, rng, out⟩
  refine ⟨z, G, g, rel, rng, out_bind out ?_⟩
  intro d g1 v z1 G1 H1 gr rn rp out
  refine ⟨z1, G1, g1, rel.grow gr, rn, out_bind out ?_⟩
  intro e g2 u z2 G2 H2 gr2 rn2 rp2 out
  cases hm : cop op d e with
  | none => rw [hm] at out; exact out.elim
  | some q =>
    rw [hm] at out
    exact ⟨z2, G2, d, e, q, gr2.sub', rp.grow gr2, rp2, hm, out (.bl q) z2 G2 H2 (.refl gr2.sub' gr2.zG) rn2 (.of (.bl q))⟩
theorem snd_chain (C : Ctx F k X) {a b d : Xp} {op op' : CmpOp} {p : Pos} (ha : PE X a.un (tX F Pt ρ false (fun g => r.e ρ g a) W)) (hb : PE X b.un (tX F Pt ρ false (fun g => r.e ρ g b) W)) (hd : PE X d.un (tX F Pt ρ false (fun g => r.e ρ g d) W)) :
    PE X (Xp.chain a op b op' d p).un (tX F Pt ρ c (fun g => stepE F.T r ρ g (.chain a op b op' d p)) W) := by
  refine PE.imp (pe_chain (cop_ok C op) (cop_ok C op') ha hb hd (noMark op' d)) ?_
  rintro σ H Q ⟨z, G, g, rel, rng, out⟩
  refine ⟨z, G, g, rel, rng, out_bind out ?_⟩
  intro x g1 v z1 G1 H1 gr rn rp out
  refine ⟨z1, G1, g1, rel.grow gr, rn, out_bind out ?_⟩
  intro y g2 u z2 G2 H2 gr2 rn2 rp2 out
  cases hm : cop op x y with
  | none => rw [hm] at out; exact out.elim
  | some q =>
    rw [hm] at out
    refine ⟨z2, G2, x, y, q, gr2.sub', rp.grow gr2, rp2, hm, q, rfl, ?_⟩
    cases q with
    | false => rw [if_neg Bool.false_ne_true]; exact out (.bl false) z2 G2 H2 (.refl gr2.sub' gr2.zG) rn2 (.of (.bl false))
    | true =>
      rw [if_pos rfl]
      refine ⟨z2, G2, g2, (rel.grow gr).grow gr2, rn2, out_bind out ?_⟩
      intro w g3 t z3 G3 H3 gr3 rn3 rp3 out
      cases hm' : cop op' y w with
      | none => rw [hm'] at out; exact out.elim
      | some q =>
        rw [hm'] at out
        exact ⟨z3, G3, y, w, q, gr3.sub', rp2.grow gr3, rp3, hm', out (.bl q) z3 G3 H3 (.refl gr3.sub' gr3.zG) rn3 (.of (.bl q))⟩
theorem snd_neg (C : Ctx F k X) {a : Xp} {p : Pos} (ha : PE X a.un (tX F Pt ρ false (fun g => r.e ρ g a) W)) : PE X (Xp.neg a p).un (tX F Pt ρ c (fun g => stepE F.T r ρ g (.neg a p)) W) := by
  refine PE.imp (pe_un un_neg ha) ?_
  rintro σ H Q ⟨z, G, g, rel, rng, out⟩
  refine ⟨z, G, g, rel, rng, out_bind out ?_⟩
  intro d g1 v z1 G1 H1 gr rn rp out
  cases d with
  | int i =>
    have hv := rp.int
    exact ⟨i, hv, out (.int (-i)) z1 G1 H1 (.refl gr.sub' gr.zG) rn (.of (.int _))⟩
  | _ => exact out.elim
/-! ### truth -/
theorem truth_V (C : Ctx F k X) {z : List Addr} {G H : Hp} {v : V} {d : D} {q : Bool} (sb : Sub G H) (h : RepO F z G H v d) (e : truth d = some q) : TruV X.K v H q := by
  cases d with
  | non =>
    rcases h with h | ⟨_, _, _, h⟩
    · cases h; simp [truth] at e; subst e; rfl
    · exact h.elim
  | bl b =>
    rcases h with h | ⟨_, _, _, h⟩
    · cases h; simp [truth] at e; subst e; rfl
    · exact h.elim
  | int i =>
    have := h.int
    subst this
    simp only [truth, Option.some.injEq, intEq_iff] at e
    subst e
    show _ = (i != 0)
    simp only [bne]
    cases (i == 0) <;> rfl
  | tup xs =>
    obtain ⟨a, vs, rfl, h1, h2⟩ := h.tup sb
    refine .inr (.inl ⟨vs, by rw [C.K]; exact h1, ?_⟩)
    have := h2.length
    cases xs <;> cases vs <;> simp_all [truth]
  | lst xs =>
    obtain ⟨a, vs, rfl, h1, h2⟩ := h.lst sb
    refine .inl ⟨vs, .of h1, ?_⟩
    have := h2.length
    cases xs <;> cases vs <;> simp_all [truth]
  | _ => simp [truth] at e
/-- forms whose test is their value's truth -/
def plainT : Xp → Bool
  | .not .. => false
  | .and .. => false
  | .or .. => false
  | .ife .. => false
  | .cmp .. => false
  | .chain .. => false
  | _ => true
theorem snd_test (C : Ctx F k X) {e : Xp} (hp : plainT e = true) {re : Gs → Rs D} (he : PE X e.un (tX F Pt ρ false re W)) : PT X e.un (tB F Pt ρ (fun g => (re g).bind fun d g => Rs.of (truth d) g) W) := by
  refine PT.imp (pt_truth he ?_) ?_
  · cases e <;> first | (intro _; rfl) | (simp [plainT] at hp)
  · rintro σ H Q ⟨z, G, g, rel, rng, out⟩
    refine ⟨z, G, g, rel, rng, outE_bind out ?_⟩
    intro d g1 v z1 G1 H1 gr rn rp out
    cases hm : truth d with
    | none => rw [hm] at out; exact out.elim
    | some q =>
      rw [hm] at out
      exact ⟨q, truth_V C gr.sub' rp.o hm, out z1 G1 H1 (.refl gr.sub' gr.zG) rn⟩
end
end Fp
end
section
set_option Elab.async false
set_option linter.all false
set_option maxRecDepth 100000
set_option autoImplicit false
set_option maxHeartbeats 1000000
/-! Tests made of tests; and, or, not, if as values; displays; items and slices. -/
namespace Fp
open PySem PySem.Spec PyProof.Rows L2

section
variable {F : Fx} {n k : Nat} {X : Cx} {W : WX} {L : Lc} {Pt : Prv} {ρ : List Sl} {r : Ev} {c : Bool}
/-- two readings of one thing -/
theorem tB_eq {e : Expr} {f f' : Gs → Rs Bool} (h : PT X e (tB F Pt ρ f W)) (e1 : ∀ g, f' g = f g) : PT X e (tB F Pt ρ f' W) := by
  rw [show f' = f from funext e1]; exact h
theorem tX_eq {e : Expr} {f f' : Gs → Rs D} (h : PE X e (tX F Pt ρ c f W)) (e1 : ∀ g, f' g = f g) : PE X e (tX F Pt ρ c f' W) := by
  rw [show f' = f from funext e1]; exact h
/-- an operand's reading serves for a clean one -/
theorem tX_clean {e : Expr} {f : Gs → Rs D} (h : PE X e (tX F Pt ρ true f W)) : PE X e (tX F Pt ρ c f W) := by
  refine PE.imp h ?_
  rintro σ H Q ⟨z, G, g, rel, rng, out⟩
  refine ⟨z, G, g, rel, rng, ?_⟩
  cases e : f g with
  | ok d g' => rw [e] at out; exact fun v z' G' H' gr rn rp => out v z' G' H' gr rn (.of rp)
  | ex cl fs g' => rw [e] at out; exact out
  | no => rw [e] at out; exact out

theorem bindB {f : D → Gs → Rs Bool} {rr : Rs D} {z : List Addr} {G H : Hp} {Q Q1 : Bool → Hp → Prop} {W' : XK} (h : OutA F z G H (rr.bind f) (fun b _ _ H' _ => Q b H') W')
    (k1 : ∀ d g1 q z1 G1 H1, rr = .ok d g1 → truth d = some q → Grow z G H z1 G1 H1 → RngAt F z1 g1 H1 → OutA F z1 G1 H1 (f d g1) (fun b _ _ H' _ => Q b H') W' → Q1 q H1) (k2 : ∀ d g1, rr = .ok d g1 → truth d = none → ∀ g, f d g = .no) :
    OutA F z G H (rr.bind fun d g => Rs.of (truth d) g) (fun b _ _ H' _ => Q1 b H') W' := by
  cases rr with
  | ok d g' =>
    have h' : OutA F z G H (f d g') (fun b _ _ H' _ => Q b H') W' := h
    cases e : truth d with
    | none => rw [k2 d g' rfl e g'] at h'; exact h'.elim
    | some q =>
      show OutA F z G H (Rs.of (truth d) g') _ _
      rw [e]
      exact fun z' G' H' gr rn => k1 d g' q z' G' H' rfl e gr rn (h'.grow gr)
  | ex cl fs g' => exact h
  | no => exact h

/-! ### tests -/
theorem snt_not {a : Xp} {p : Pos} (ha : PT X a.un (tB F Pt ρ (fun g => evB r ρ g a) W)) : PT X (Xp.not a p).un (tB F Pt ρ (fun g => (stepE F.T r ρ g (.not a p)).bind fun d g => Rs.of (truth d) g) W) := by
  refine PT.imp (pt_not ha) ?_
  rintro σ H Q ⟨z, G, g, rel, rng, out⟩
  refine ⟨z, G, g, rel, rng, ?_⟩
  simp only [stepE] at out
  dsimp only
  cases e : evB r ρ g a with
  | ok b g' =>
    rw [e] at out
    refine fun z' G' H' gr rn => ?_
    cases b
    · exact out z' G' H' gr rn
    · exact out z' G' H' gr rn
  | ex cl fs g' => rw [e] at out; exact out
  | no => rw [e] at out; exact out
theorem snt_cmp (C : Ctx F k X) {a b : Xp} {op : CmpOp} {p : Pos} (ha : PE X a.un (tX F Pt ρ false (fun g => r.e ρ g a) W)) (hb : PE X b.un (tX F Pt ρ false (fun g => r.e ρ g b) W)) :
    PT X (Xp.cmp a op b p).un (tB F Pt ρ (fun g => (stepE F.T r ρ g (.cmp a op b p)).bind fun d g => Rs.of (truth d) g) W) := by
  refine PT.imp (pt_cmpR (cop_ok C op) ha hb (noMark op b)) ?_
  rintro σ H Q ⟨z, G, g, rel, rng, out⟩
  refine ⟨z, G, g, rel, rng, ?_⟩
  simp only [stepE] at out
  dsimp only
  cases e : r.e ρ g a with
  | no => rw [e] at out; exact out
  | ex cl fs g' => rw [e] at out; exact out
  | ok d g1 =>
    rw [e] at out
    intro v z1 G1 H1 gr rn rp
    refine ⟨z1, G1, g1, rel.grow gr, rn, ?_⟩
    have out := out.grow gr
    simp only [Rs.bind] at out
    dsimp only
    cases e2 : r.e ρ g1 b with
    | no => rw [e2] at out; exact out
    | ex cl fs g' => rw [e2] at out; exact out
    | ok d2 g2 =>
      rw [e2] at out
      intro u z2 G2 H2 gr2 rn2 rp2
      have out := out.grow gr2
      dsimp only at out
      cases hm : cop op d d2 with
      | none => rw [hm] at out; exact out.elim
      | some q =>
        rw [hm] at out
        exact ⟨z2, G2, d, d2, q, gr2.sub', rp.o.grow gr2, rp2.o, hm, q, rfl, out z2 G2 H2 (.refl gr2.sub' gr2.zG) rn2⟩
theorem snt_chain (C : Ctx F k X) {a b d : Xp} {op op' : CmpOp} {p : Pos} (ha : PE X a.un (tX F Pt ρ false (fun g => r.e ρ g a) W)) (hb : PE X b.un (tX F Pt ρ false (fun g => r.e ρ g b) W)) (hd : PE X d.un (tX F Pt ρ false (fun g => r.e ρ g d) W)) :
    PT X (Xp.chain a op b op' d p).un (tB F Pt ρ (fun g => (stepE F.T r ρ g (.chain a op b op' d p)).bind fun d g => Rs.of (truth d) g) W) := by
  refine PT.imp (pt_chain (cop_ok C op) (cop_ok C op') ha hb hd (noMark op' d)) ?_
  rintro σ H Q ⟨z, G, g, rel, rng, out⟩
  refine ⟨z, G, g, rel, rng, ?_⟩
  simp only [stepE] at out
  dsimp only
  cases e : r.e ρ g a with
  | no => rw [e] at out; exact out
  | ex cl fs g' => rw [e] at out; exact out
  | ok x g1 =>
    rw [e] at out
    intro v z1 G1 H1 gr rn rp
    refine ⟨z1, G1, g1, rel.grow gr, rn, ?_⟩
    have out := out.grow gr
    simp only [Rs.bind] at out
    dsimp only
    cases e2 : r.e ρ g1 b with
    | no => rw [e2] at out; exact out
    | ex cl fs g' => rw [e2] at out; exact out
    | ok y g2 =>
      rw [e2] at out
      intro u z2 G2 H2 gr2 rn2 rp2
      have out := out.grow gr2
      dsimp only at out
      cases hm : cop op x y with
      | none => rw [hm] at out; exact out.elim
      | some q =>
        rw [hm] at out
        refine ⟨z2, G2, x, y, q, gr2.sub', rp.o.grow gr2, rp2.o, hm, q, rfl, ?_⟩
        cases q with
        | false => (try dsimp only); rw [if_neg Bool.false_ne_true]; exact ⟨false, rfl, out z2 G2 H2 (.refl gr2.sub' gr2.zG) rn2⟩
        | true =>
          (try dsimp only); rw [if_pos rfl]
          refine ⟨z2, G2, g2, (rel.grow gr).grow gr2, rn2, ?_⟩
          simp only [Rs.of] at out
          dsimp only
          cases e3 : r.e ρ g2 d with
          | no => rw [e3] at out; exact out
          | ex cl fs g' => rw [e3] at out; exact out
          | ok w g3 =>
            rw [e3] at out
            intro t z3 G3 H3 gr3 rn3 rp3
            have out := out.grow gr3
            dsimp only at out
            cases hm' : cop op' y w with
            | none => rw [hm'] at out; exact out.elim
            | some q =>
              rw [hm'] at out
              exact ⟨z3, G3, y, w, q, gr3.sub', rp2.o.grow gr3, rp3.o, hm', q, rfl, out z3 G3 H3 (.refl gr3.sub' gr3.zG) rn3⟩
/-- a and b and .. -/
theorem snt_and {p : Pos} : ∀ {es : List Xp}, es ≠ [] → (∀ e ∈ es, PT X e.un (tB F Pt ρ (fun g => evB r ρ g e) W)) → PW X (.BoolOp .And (Xp.uns es) p) (tB F Pt ρ (fun g => (evAnd r ρ g es).bind fun d g => Rs.of (truth d) g) W)
  | [], h, _ => absurd rfl h
  | [e], _, h => pw_and1 (h e (by simp))
  | e :: e2 :: es, _, h => by
    have ih := snt_and (p := p) (es := e2 :: es) (by simp) fun x hx => h x (List.mem_cons_of_mem _ hx)
    refine ⟨fun wh pins s σ H Q I hw => (pw_and (h e (by simp)) ih).run wh pins s σ H Q I ?_⟩
    obtain ⟨z, G, g, rel, rng, out⟩ := hw
    refine ⟨z, G, g, rel, rng, ?_⟩
    have out : OutA F z G H (((r.e ρ g e).bind fun d g => match truth d with
      | some true => evAnd r ρ g (e2 :: es)
      | some false => .ok d g
      | none => .no).bind fun d g => Rs.of (truth d) g) (fun b _ _ H' _ => Q b H') (fun cl d H' => W cl d σ H') := out
    show OutA F z G H ((r.e ρ g e).bind fun d g => Rs.of (truth d) g) _ _
    cases q : r.e ρ g e with
    | no => rw [q] at out; exact out
    | ex cl fs g' => rw [q] at out; exact out
    | ok d g1 =>
      rw [q] at out
      show OutA F z G H (Rs.of (truth d) g1) _ _
      cases t : truth d with
      | none => simp only [Rs.bind, t] at out; exact out
      | some b =>
        intro z1 G1 H1 gr rn
        have out := out.grow gr
        simp only [Rs.bind, t] at out
        cases b with
        | true => (try dsimp only); rw [if_pos rfl]; exact ⟨z1, G1, g1, rel.grow gr, rn, out⟩
        | false =>
          (try dsimp only); rw [if_neg Bool.false_ne_true]
          simp only [Rs.bind, t, Rs.of] at out
          exact out z1 G1 H1 (.refl gr.sub' gr.zG) rn
theorem snt_or {p : Pos} : ∀ {es : List Xp}, es ≠ [] → (∀ e ∈ es, PT X e.un (tB F Pt ρ (fun g => evB r ρ g e) W)) → PW X (.BoolOp .Or (Xp.uns es) p) (tB F Pt ρ (fun g => (evOr r ρ g es).bind fun d g => Rs.of (truth d) g) W)
  | [], h, _ => absurd rfl h
  | [e], _, h => pw_or1 (h e (by simp))
  | e :: e2 :: es, _, h => by
    have ih := snt_or (p := p) (es := e2 :: es) (by simp) fun x hx => h x (List.mem_cons_of_mem _ hx)
    refine ⟨fun wh pins s σ H Q I hw => (pw_or (h e (by simp)) ih).run wh pins s σ H Q I ?_⟩
    obtain ⟨z, G, g, rel, rng, out⟩ := hw
    refine ⟨z, G, g, rel, rng, ?_⟩
    have out : OutA F z G H (((r.e ρ g e).bind fun d g => match truth d with
      | some true => .ok d g
      | some false => evOr r ρ g (e2 :: es)
      | none => .no).bind fun d g => Rs.of (truth d) g) (fun b _ _ H' _ => Q b H') (fun cl d H' => W cl d σ H') := out
    show OutA F z G H ((r.e ρ g e).bind fun d g => Rs.of (truth d) g) _ _
    cases q : r.e ρ g e with
    | no => rw [q] at out; exact out
    | ex cl fs g' => rw [q] at out; exact out
    | ok d g1 =>
      rw [q] at out
      show OutA F z G H (Rs.of (truth d) g1) _ _
      cases t : truth d with
      | none => simp only [Rs.bind, t] at out; exact out
      | some b =>
        intro z1 G1 H1 gr rn
        have out := out.grow gr
        simp only [Rs.bind, t] at out
        cases b with
        | false => (try dsimp only); rw [if_neg Bool.false_ne_true]; exact ⟨z1, G1, g1, rel.grow gr, rn, out⟩
        | true =>
          (try dsimp only); rw [if_pos rfl]
          simp only [Rs.bind, t, Rs.of] at out
          exact out z1 G1 H1 (.refl gr.sub' gr.zG) rn
theorem pt_ife {t a b : Expr} {tA tB' tC : TT} {p : Pos} (ht : PT X t tA) (ha : PT X a tB') (hb : PT X b tC) : PT X (.IfExp t a b p) (fun σ H Q => tA σ H fun c H1 => if c = true then tB' σ H1 Q else tC σ H1 Q) := by
  refine ⟨fun pins s σ H Q I h => ?_⟩
  show wpAny _ _ (do if ← isTrue t X.env (eval t X.env) then isTrue a X.env (eval a X.env) else isTrue b X.env (eval b X.env)) _ _ _
  refine wpAny_bind (thn (ht.run pins s σ H _ I h) fun d s1 ⟨H1, I1, q1⟩ => ?_)
  cases d with
  | true => exact ha.run pins s1 σ H1 Q I1 q1
  | false => exact hb.run pins s1 σ H1 Q I1 q1
theorem snt_ife {t a b : Xp} {p : Pos} (ht : PT X t.un (tB F Pt ρ (fun g => evB r ρ g t) W)) (ha : PT X a.un (tB F Pt ρ (fun g => evB r ρ g a) W)) (hb : PT X b.un (tB F Pt ρ (fun g => evB r ρ g b) W)) :
    PT X (Xp.ife t a b p).un (tB F Pt ρ (fun g => (stepE F.T r ρ g (.ife t a b p)).bind fun d g => Rs.of (truth d) g) W) := by
  refine PT.imp (pt_ife ht ha hb) ?_
  rintro σ H Q ⟨z, G, g, rel, rng, out⟩
  refine ⟨z, G, g, rel, rng, ?_⟩
  simp only [stepE] at out
  dsimp only
  cases e : evB r ρ g t with
  | no => rw [e] at out; exact out
  | ex cl fs g' => rw [e] at out; exact out
  | ok q g1 =>
    rw [e] at out
    intro z1 G1 H1 gr rn
    have out := out.grow gr
    cases q with
    | true => (try dsimp only); rw [if_pos rfl]; exact ⟨z1, G1, g1, rel.grow gr, rn, out⟩
    | false => (try dsimp only); rw [if_neg Bool.false_ne_true]; exact ⟨z1, G1, g1, rel.grow gr, rn, out⟩

/-! ### as values -/
theorem snd_ife {t a b : Xp} {p : Pos} (ht : PT X t.un (tB F Pt ρ (fun g => evB r ρ g t) W)) (ha : PE X a.un (tX F Pt ρ c (fun g => r.e ρ g a) W)) (hb : PE X b.un (tX F Pt ρ c (fun g => r.e ρ g b) W)) :
    PE X (Xp.ife t a b p).un (tX F Pt ρ c (fun g => stepE F.T r ρ g (.ife t a b p)) W) := by
  refine PE.imp (pe_ifExp ht ha hb) ?_
  rintro σ H Q ⟨z, G, g, rel, rng, out⟩
  refine ⟨z, G, g, rel, rng, outA_bind out ?_⟩
  intro q g1 z1 G1 H1 gr rn out
  cases q with
  | true => (try dsimp only); rw [if_pos rfl]; exact ⟨z1, G1, g1, rel.grow gr, rn, out⟩
  | false => (try dsimp only); rw [if_neg Bool.false_ne_true]; exact ⟨z1, G1, g1, rel.grow gr, rn, out⟩
theorem snd_not (C : Ctx F k X) {a : Xp} {p : Pos} (ha : PE X a.un (tX F Pt ρ false (fun g => r.e ρ g a) W)) : PE X (Xp.not a p).un (tX F Pt ρ c (fun g => stepE F.T r ρ g (.not a p)) W) := by
  refine PE.imp (pe_notT ha) ?_
  rintro σ H Q ⟨z, G, g, rel, rng, out⟩
  refine ⟨z, G, g, rel, rng, ?_⟩
  simp only [stepE, evB] at out
  dsimp only
  cases e : r.e ρ g a with
  | no => rw [e] at out; exact out
  | ex cl fs g' => rw [e] at out; exact out
  | ok d g1 =>
    rw [e] at out
    intro v z1 G1 H1 gr rn rp
    have out := out.grow gr
    simp only [Rs.bind] at out
    cases t : truth d with
    | none => rw [t] at out; exact out.elim
    | some q =>
      rw [t] at out
      refine ⟨q, truth_V C gr.sub' rp.o t, ?_⟩
      cases q
      · exact out (.bl true) z1 G1 H1 (.refl gr.sub' gr.zG) rn (.of (.bl true))
      · exact out (.bl false) z1 G1 H1 (.refl gr.sub' gr.zG) rn (.of (.bl false))
theorem snd_and (C : Ctx F k X) {p : Pos} : ∀ {es : List Xp}, es ≠ [] → (∀ e ∈ es, PE X e.un (tX F Pt ρ c (fun g => r.e ρ g e) W)) → PE X (.BoolOp .And (Xp.uns es) p) (tX F Pt ρ c (fun g => evAnd r ρ g es) W)
  | [], h, _ => absurd rfl h
  | [e], _, h => pe_one (h e (by simp))
  | e :: e2 :: es, _, h => by
    have ih := snd_and C (p := p) (es := e2 :: es) (by simp) fun x hx => h x (List.mem_cons_of_mem _ hx)
    refine PE.imp (pe_andT (h e (by simp)) ih) ?_
    rintro σ H Q ⟨z, G, g, rel, rng, out⟩
    refine ⟨z, G, g, rel, rng, ?_⟩
    have out : Out F c z G H ((r.e ρ g e).bind fun d g => match truth d with
      | some true => evAnd r ρ g (e2 :: es)
      | some false => .ok d g
      | none => .no) Q (fun cl d H' => W cl d σ H') := out
    refine out_bind out ?_
    intro d g1 v z1 G1 H1 gr rn rp out
    cases t : truth d with
    | none => rw [t] at out; exact out.elim
    | some q =>
      rw [t] at out
      refine ⟨q, truth_V C gr.sub' rp.o t, ?_⟩
      cases q with
      | true => (try dsimp only); rw [if_pos rfl]; exact ⟨z1, G1, g1, rel.grow gr, rn, out⟩
      | false => (try dsimp only); rw [if_neg Bool.false_ne_true]; exact out v z1 G1 H1 (.refl gr.sub' gr.zG) rn rp
theorem snd_or (C : Ctx F k X) {p : Pos} : ∀ {es : List Xp}, es ≠ [] → (∀ e ∈ es, PE X e.un (tX F Pt ρ c (fun g => r.e ρ g e) W)) → PE X (.BoolOp .Or (Xp.uns es) p) (tX F Pt ρ c (fun g => evOr r ρ g es) W)
  | [], h, _ => absurd rfl h
  | [e], _, h => pe_one (h e (by simp))
  | e :: e2 :: es, _, h => by
    have ih := snd_or C (p := p) (es := e2 :: es) (by simp) fun x hx => h x (List.mem_cons_of_mem _ hx)
    refine PE.imp (pe_orT (h e (by simp)) ih) ?_
    rintro σ H Q ⟨z, G, g, rel, rng, out⟩
    refine ⟨z, G, g, rel, rng, ?_⟩
    have out : Out F c z G H ((r.e ρ g e).bind fun d g => match truth d with
      | some true => .ok d g
      | some false => evOr r ρ g (e2 :: es)
      | none => .no) Q (fun cl d H' => W cl d σ H') := out
    refine out_bind out ?_
    intro d g1 v z1 G1 H1 gr rn rp out
    cases t : truth d with
    | none => rw [t] at out; exact out.elim
    | some q =>
      rw [t] at out
      refine ⟨q, truth_V C gr.sub' rp.o t, ?_⟩
      cases q with
      | false => (try dsimp only); rw [if_neg Bool.false_ne_true]; exact ⟨z1, G1, g1, rel.grow gr, rn, out⟩
      | true => (try dsimp only); rw [if_pos rfl]; exact out v z1 G1 H1 (.refl gr.sub' gr.zG) rn rp
end
end Fp
end
section
set_option Elab.async false
set_option linter.all false
set_option maxRecDepth 100000
set_option autoImplicit false
set_option maxHeartbeats 1000000
/-! Lists of expressions; displays; items and slices. -/
namespace Fp
open PySem PySem.Spec PyProof.Rows L2

theorem RepB.grow {F : Fx} {c : Bool} {z z' : List Addr} {G H G' H' : Hp} {v : V} {d : D} (h : RepB F c z G H v d) (g : Grow z G H z' G' H') : RepB F c z' G' H' v d := by
  cases c
  · exact RepO.grow h g
  · exact Rep.mono g.zl g.sub h
/-- several values -/
abbrev Reps (F : Fx) (c : Bool) (z : List Addr) (G H : Hp) : List V → List D → Prop := Paired (RepB F c z G H)
theorem Reps.grow {F : Fx} {c : Bool} {z z' : List Addr} {G H G' H' : Hp} (g : Grow z G H z' G' H') : ∀ {vs : List V} {ds : List D}, Reps F c z G H vs ds → Reps F c z' G' H' vs ds
  | _, _, .nil => .nil
  | _, _, .cons h r => .cons (h.grow g) (Reps.grow g r)
theorem Reps.all {F : Fx} {z : List Addr} {G H : Hp} : ∀ {vs : List V} {ds : List D}, Reps F true z G H vs ds → RepAll F z G vs ds
  | _, _, .nil => .nil
  | _, _, .cons h r => .cons h (Reps.all r)
theorem Reps.app {F : Fx} {c : Bool} {z : List Addr} {G H : Hp} : ∀ {vs ws : List V} {ds es : List D}, RepAll F z G vs ds → Reps F c z G H ws es → Reps F c z G H (vs ++ ws) (ds ++ es)
  | _, _, _, _, .nil, s => s
  | _, _, _, _, .cons h r, s => .cons (.of h) (Reps.app r s)

def OutL (F : Fx) (c : Bool) (z : List Addr) (G H : Hp) (r : Rs (List D)) (Q : List V → Hp → Prop) (W : XK) : Prop := match r with
  | .ok ds g' => ∀ vs z' G' H', Grow z G H z' G' H' → RngAt F z' g' H' → Reps F c z' G' H' vs ds → Q vs H'
  | .ex cl fs g' => ∀ da z' G' H', Grow z G H z' G' H' → RngAt F z' g' H' → ExcAt F z' G' H' cl fs da → W (.ref (F.ca cl)) da H'
  | .no => False
theorem OutL.grow {F : Fx} {c : Bool} {z z1 : List Addr} {G H G1 H1 : Hp} {r : Rs (List D)} {Q : List V → Hp → Prop} {W : XK} (h : OutL F c z G H r Q W) (g : Grow z G H z1 G1 H1) : OutL F c z1 G1 H1 r Q W := by
  cases r with
  | ok d g' => exact fun v z' G' H' gr rn rp => h v z' G' H' (g.trans gr) rn rp
  | ex cl fs g' => exact fun da z' G' H' gr rn rp => h da z' G' H' (g.trans gr) rn rp
  | no => exact h
/-- a list first, then an expression -/
theorem outL_bind {F : Fx} {c c' : Bool} {z : List Addr} {G H : Hp} {r : Rs (List D)} {f : List D → Gs → Rs D} {Q : V → Hp → Prop} {Q1 : List V → Hp → Prop} {W : XK} (h : Out F c' z G H (r.bind f) Q W)
    (k : ∀ ds g1 vs z1 G1 H1, Grow z G H z1 G1 H1 → RngAt F z1 g1 H1 → Reps F c z1 G1 H1 vs ds → Out F c' z1 G1 H1 (f ds g1) Q W → Q1 vs H1) : OutL F c z G H r Q1 W := by
  cases r with
  | ok d g' => exact fun v z' G' H' gr rn rp => k d g' v z' G' H' gr rn rp (Out.grow (show Out F c' z G H (f d g') Q W from h) gr)
  | ex cl fs g' => exact h
  | no => exact h
theorem outL_bindA {F : Fx} {α : Type} {c : Bool} {z : List Addr} {G H : Hp} {r : Rs (List D)} {f : List D → Gs → Rs α} {Q : α → List Addr → Hp → Hp → Gs → Prop} {Q1 : List V → Hp → Prop} {W : XK} (h : OutA F z G H (r.bind f) Q W)
    (k : ∀ ds g1 vs z1 G1 H1, Grow z G H z1 G1 H1 → RngAt F z1 g1 H1 → Reps F c z1 G1 H1 vs ds → OutA F z1 G1 H1 (f ds g1) Q W → Q1 vs H1) : OutL F c z G H r Q1 W := by
  cases r with
  | ok d g' => exact fun v z' G' H' gr rn rp => k d g' v z' G' H' gr rn rp (OutA.grow (show OutA F z G H (f d g') Q W from h) gr)
  | ex cl fs g' => exact h
  | no => exact h
/-- a list's reading -/
def tL (F : Fx) (Pt : Prv) (ρ : List Sl) (c : Bool) (r : Gs → Rs (List D)) (W : WX) : TA := fun σ H Q =>
  ∃ z G g, Rel F Pt z ρ σ G H ∧ RngAt F z g H ∧ OutL F c z G H (r g) Q fun cl d H' => W cl d σ H'
theorem PA.imp {X : Cx} {es : List Expr} {t t' : TA} (h : PA X es t') (k : ∀ σ H Q, t σ H Q → t' σ H Q) : PA X es t := ⟨fun pos pins s σ H Q I hw => h.run pos pins s σ H Q I (k σ H Q hw)⟩

def isStar : Xp → Bool
  | .star _ _ => true
  | _ => false
section
variable {F : Fx} {n k : Nat} {X : Cx} {W : WX} {L : Lc} {Pt : Prv} {ρ : List Sl} {r : Ev} {c : Bool}
/-- what is asked of one of a list -/
def SndI (F : Fx) (X : Cx) (W : WX) (Pt : Prv) (ρ : List Sl) (r : Ev) (c : Bool) : Xp → Prop
  | .star e _ => PE X e.un (tX F Pt ρ false (fun g => r.e ρ g e) W)
  | e => PE X e.un (tX F Pt ρ c (fun g => r.e ρ g e) W)
theorem seqs_rep {z : List Addr} {G H : Hp} {v : V} {d : D} {xs : List D} (sb : Sub G H) (h : RepO F z G H v d) (e : seqs d = some xs) : ∃ a vs, v = .ref a ∧ (SqT F.K H a vs ∨ SqL F.K H a vs) ∧ RepAll F z G vs xs := by
  cases d with
  | tup ys =>
    obtain ⟨a, vs, rfl, h1, h2⟩ := h.tup sb
    simp only [seqs, Option.some.injEq] at e
    subst e
    exact ⟨a, vs, rfl, .inl h1, h2⟩
  | lst ys =>
    obtain ⟨a, vs, rfl, h1, h2⟩ := h.lst sb
    simp only [seqs, Option.some.injEq] at e
    subst e
    exact ⟨a, vs, rfl, .inr (.of h1), h2⟩
  | _ => simp [seqs] at e
theorem snd_L (C : Ctx F k X) : ∀ {es : List Xp}, (∀ e ∈ es, SndI F X W Pt ρ r c e) → PA X (Xp.uns es) (tL F Pt ρ c (fun g => evL r ρ g es) W)
  | [], _ => by
    refine PA.imp pa_nil ?_
    rintro σ H Q ⟨z, G, g, rel, rng, out⟩
    exact out [] z G H (.refl rel.sub rel.zG) rng .nil
  | e :: es, h => by
    have ih := snd_L C (es := es) fun x hx => h x (List.mem_cons_of_mem _ hx)
    have he := h e (by simp)
    cases hs : isStar e with
    | true =>
      cases e with
      | star e p =>
        have he : PE X e.un (tX F Pt ρ false (fun g => r.e ρ g e) W) := he
        refine PA.imp (StX.pa_star he ih) ?_
        rintro σ H Q ⟨z, G, g, rel, rng, out⟩
        refine ⟨z, G, g, rel, rng, ?_⟩
        have out : OutL F c z G H ((r.e ρ g e).bind fun d g => match seqs d with
          | some xs => (evL r ρ g es).bind fun ds g => .ok (xs ++ ds) g
          | none => .no) Q (fun cl d H' => W cl d σ H') := out
        dsimp only
        cases q : r.e ρ g e with
        | no => rw [q] at out; exact out
        | ex cl fs g' => rw [q] at out; exact out
        | ok d g1 =>
          rw [q] at out
          intro v z1 G1 H1 gr rn rp
          have out := out.grow gr
          simp only [Rs.bind] at out
          cases t : seqs d with
          | none => rw [t] at out; exact out.elim
          | some xs =>
            rw [t] at out
            obtain ⟨a, vs, rfl, h1, h2⟩ := seqs_rep gr.sub' rp.o t
            refine ⟨a, vs, rfl, by rw [C.K]; exact h1, z1, G1, g1, rel.grow gr, rn, ?_⟩
            dsimp only
            cases q2 : evL r ρ g1 es with
            | no => rw [q2] at out; exact out
            | ex cl fs g' => rw [q2] at out; exact out
            | ok ds g2 =>
              rw [q2] at out
              intro ws z2 G2 H2 gr2 rn2 rp2
              exact out (vs ++ ws) z2 G2 H2 gr2 rn2 (Reps.app (h2.mono gr2.zl gr2.sub) rp2)
      | _ => simp [isStar] at hs
    | false =>
      have he : PE X e.un (tX F Pt ρ c (fun g => r.e ρ g e) W) := by
        cases e <;> first | exact he | simp [isStar] at hs
      have e2 : evL r ρ = fun g l => evL r ρ g l := rfl
      have ev1 : ∀ g, evL r ρ g (e :: es) = (r.e ρ g e).bind fun d g => (evL r ρ g es).bind fun ds g => .ok (d :: ds) g := fun g => by
        cases e <;> first | rfl | simp [isStar] at hs
      refine PA.imp (pa_cons he ih ?_) ?_
      · cases e <;> first | rfl | simp [isStar] at hs
      · rintro σ H Q ⟨z, G, g, rel, rng, out⟩
        refine ⟨z, G, g, rel, rng, ?_⟩
        rw [show (fun g => evL r ρ g (e :: es)) g = evL r ρ g (e :: es) from rfl, ev1] at out
        dsimp only
        cases q : r.e ρ g e with
        | no => rw [q] at out; exact out
        | ex cl fs g' => rw [q] at out; exact out
        | ok d g1 =>
          rw [q] at out
          intro v z1 G1 H1 gr rn rp
          have out := out.grow gr
          simp only [Rs.bind] at out
          refine ⟨z1, G1, g1, rel.grow gr, rn, ?_⟩
          dsimp only
          cases q2 : evL r ρ g1 es with
          | no => rw [q2] at out; exact out
          | ex cl fs g' => rw [q2] at out; exact out
          | ok ds g2 =>
            rw [q2] at out
            intro ws z2 G2 H2 gr2 rn2 rp2
            exact out (v :: ws) z2 G2 H2 gr2 rn2 (.cons (rp.grow gr2) rp2)
theorem Reps.len {z : List Addr} {G H : Hp} {vs : List V} {ds : List D} (h : Reps F c z G H vs ds) : vs.length = ds.length := Paired.length h
theorem snd_tup (C : Ctx F k X) {es : List Xp} {j : Nat} {p : Pos} (h : ∀ e ∈ es, SndI F X W Pt ρ r true e) : PE X (Xp.tup es j p).un (tX F Pt ρ c (fun g => stepE F.T r ρ g (.tup es j p)) W) := by
  refine PE.imp (pe_tup (snd_L C h)) ?_
  rintro σ H Q ⟨z, G, g, rel, rng, out⟩
  refine ⟨z, G, g, rel, rng, outL_bind out ?_⟩
  intro ds g1 vs z1 G1 H1 gr rn rp out
  cases t : fits ds.length with
  | false => rw [t] at out; exact out.elim
  | true =>
    rw [t] at out
    exact ⟨by rw [rp.len]; exact fits_size t, fun a n => new_tup gr.sub' gr.zG rn n rp.all fun v G' H' g' r' rp' => out v z1 G' H' g' r' (.of rp')⟩
theorem snd_lst (C : Ctx F k X) {es : List Xp} {p : Pos} (h : ∀ e ∈ es, SndI F X W Pt ρ r true e) : PE X (Xp.lst es p).un (tX F Pt ρ c (fun g => stepE F.T r ρ g (.lst es p)) W) := by
  refine PE.imp (pe_lst (snd_L C h)) ?_
  rintro σ H Q ⟨z, G, g, rel, rng, out⟩
  refine ⟨z, G, g, rel, rng, outL_bind out ?_⟩
  intro ds g1 vs z1 G1 H1 gr rn rp out
  cases t : fits ds.length with
  | false => rw [t] at out; exact out.elim
  | true =>
    rw [t] at out
    exact ⟨by rw [rp.len]; exact fits_size t, fun a n => new_lst gr.sub' gr.zG rn n rp.all fun v G' H' g' r' rp' => out v z1 G' H' g' r' (.of rp')⟩
end
end Fp
end
section
set_option Elab.async false
set_option linter.all false
set_option maxRecDepth 100000
set_option autoImplicit false
set_option maxHeartbeats 1000000
/-! Items, slices, globals. -/
namespace Fp
open PySem PySem.Spec PyProof.Rows L2

theorem ble_dec (k n : Nat) : Nat.ble k n = decide (k ≤ n) := by
  by_cases h : k ≤ n
  · rw [decide_eq_true h]; exact Nat.ble_eq_true_of_le h
  · rw [decide_eq_false h]
    cases e : Nat.ble k n with
    | false => rfl
    | true => exact absurd (Nat.le_of_ble_eq_true e) h
theorem blt_dec (k n : Nat) : Nat.blt k n = decide (k < n) := ble_dec (k + 1) n
theorem ixOf_ixN (n : Nat) (i : Int) : ixOf n i = ixN n i := by
  cases i with
  | ofNat k =>
    simp only [ixOf, ixN, Int.ofNat_eq_natCast, Int.natCast_nonneg, if_true, Int.ofNat_lt, Int.toNat_natCast]
    by_cases h : k < n
    · rw [if_pos h, blt_dec, decide_eq_true h]
    · rw [if_neg h, blt_dec, decide_eq_false h]
  | negSucc k =>
    simp only [ixOf, ixN]
    rw [if_neg (by omega)]
    by_cases h : k < n
    · rw [if_pos (by omega), blt_dec, decide_eq_true h]
      show some _ = some _
      congr 1; omega
    · rw [if_neg (by omega), blt_dec, decide_eq_false h]
theorem sbd_sIx (n d : Nat) (o : Option Int) : sbd n d o = HT.sIx n d o := by
  cases o with
  | none => rfl
  | some i =>
    cases i with
    | ofNat k =>
      simp only [sbd, HT.sIx, Int.ofNat_eq_natCast, Int.toNat_natCast]
      rw [if_neg (by omega)]
      by_cases h : k ≤ n
      · rw [ble_dec, decide_eq_true h, Nat.min_eq_left h]
      · rw [ble_dec, decide_eq_false h, Nat.min_eq_right (by omega)]
    | negSucc k =>
      simp only [sbd, HT.sIx]
      rw [if_pos (by omega)]
      omega
theorem cut_cutV (xs : List V) (lo hi : Option Int) : cut xs lo hi = cutV xs lo hi := by
  simp only [cut, cutV, sbd_sIx, List.drop_take]

/-- an item, told by data -/
def rS (F : Fx) : R2 := fun x y H Q => ∃ z G d e r, Sub G H ∧ RepO F z G H x d ∧ RepO F z G H y e ∧ subOf d e = some r ∧ ∀ v, Rep F z G v r → Q v H
section
variable {F : Fx} {n k : Nat} {X : Cx} {W : WX} {L : Lc} {Pt : Prv} {ρ : List Sl} {r : Ev} {c : Bool}
theorem RepAll.atI {z : List Addr} {G : Hp} {vs : List V} {ds : List D} {i : Int} {j : Nat} {d : D} (h : RepAll F z G vs ds) (e : ixOf ds.length i = some j) (e2 : ds[j]? = some d) : ∃ v, L2.atI vs i = some v ∧ Rep F z G v d := by
  obtain ⟨v, h1, h2⟩ := h.get e2
  refine ⟨v, ?_, h2⟩
  unfold L2.atI
  rw [h.length, ← ixOf_ixN, e]
  exact h1
theorem sub_ok (C : Ctx F k X) : IxR X (rS F) := by
  intro value slice pins s σ H x y v u Q I rx ry h hs
  obtain ⟨z, G, d, e, q, sb, hx, hy, hq, hQ⟩ := h
  cases d with
  | tup ds =>
    cases e with
    | int i =>
      simp only [subOf] at hq
      cases hj : ixOf ds.length i with
      | none => rw [hj] at hq; cases hq
      | some j =>
        rw [hj] at hq
        obtain ⟨a, vs, rfl, h1, h2⟩ := hx.tup sb
        obtain ⟨w, h3, h4⟩ := h2.atI hj hq
        have := hy.int
        subst this
        exact ix_tup value slice pins s σ H _ _ v u Q I rx ry ⟨a, vs, i, w, rfl, rfl, by rw [C.K]; exact h1, h3, hQ w h4⟩ hs
    | _ => simp [subOf] at hq
  | lst ds =>
    cases e with
    | int i =>
      simp only [subOf] at hq
      cases hj : ixOf ds.length i with
      | none => rw [hj] at hq; cases hq
      | some j =>
        rw [hj] at hq
        obtain ⟨a, vs, rfl, h1, h2⟩ := hx.lst sb
        obtain ⟨w, h3, h4⟩ := h2.atI hj hq
        have := hy.int
        subst this
        exact ix_list value slice pins s σ H _ _ v u Q I rx ry ⟨a, vs, i, w, rfl, rfl, .of h1, h3, hQ w h4⟩ hs
    | _ => simp [subOf] at hq
  | dic ks vs =>
    simp only [subOf] at hq
    cases hf : keyFits e ks with
    | false => rw [hf] at hq; cases hq
    | true =>
      rw [hf] at hq
      have ty : s.TypeIs v "dict" := by
        obtain ⟨p, rfl, h3⟩ := hx.dic sb
        cases (show v = .ref p from rx)
        obtain ⟨_, hk⟩ := keyFits_and hf
        rcases hk with ⟨_, at_⟩ | ⟨_, at_⟩
        · obtain ⟨_, xs, _, _, dd⟩ := C.dicT I sb h3 at_
          exact dd.typeIs
        · obtain ⟨_, xs, _, _, dd⟩ := C.dicK I h3 at_
          exact dd.typeIs
      exact tail_any (ops := [v, u]) ty PySem.F.slot_dict_getitem.lookup (sub_dic C I sb (hy.full sb) hx ry rx hf hq fun w x s' I' r1 r2 => ⟨x, H, I', r2, hQ x r1⟩) hs
  | _ => cases e <;> simp [subOf] at hq
theorem plainIx (e : Xp) : PlainIx e.un := by
  intro o i
  cases e <;> first | rfl | (simp only [Xp.un]; rfl)
theorem snd_sub (C : Ctx F k X) {a b : Xp} {p : Pos} (ha : PE X a.un (tX F Pt ρ false (fun g => r.e ρ g a) W)) (hb : PE X b.un (tX F Pt ρ false (fun g => r.e ρ g b) W)) :
    PE X (Xp.sub a b p).un (tX F Pt ρ c (fun g => stepE F.T r ρ g (.sub a b p)) W) := by
  refine PE.imp (pe_ix (sub_ok C) ha hb (plainIx b)) ?_
  rintro σ H Q ⟨z, G, g, rel, rng, out⟩
  refine ⟨z, G, g, rel, rng, out_bind out ?_⟩
  intro d g1 v z1 G1 H1 gr rn rp out
  refine ⟨z1, G1, g1, rel.grow gr, rn, out_bind out ?_⟩
  intro e g2 u z2 G2 H2 gr2 rn2 rp2 out
  obtain ⟨m, hm, q⟩ := out_of out
  exact ⟨z2, G2, d, e, m, gr2.sub', rp.o.grow gr2, rp2.o, hm, fun v' rp' => q v' z2 G2 H2 (.refl gr2.sub' gr2.zG) rn2 (.of rp')⟩

/-! ### slices -/
def rSl (F : Fx) : V → Option Int → Option Int → Hp → VK → Prop := fun x lo hi H Q => ∃ z G g d r, Sub G H ∧ (∀ a ∈ z, G a = none) ∧ RngAt F z g H ∧ RepO F z G H x d ∧ slcOf d lo hi = some r ∧
  ∀ v G' H', Grow z G H z G' H' → RngAt F z g H' → Rep F z G' v r → Q v H'
theorem RepAll.cut {z : List Addr} {G : Hp} {vs : List V} {ds : List D} (h : RepAll F z G vs ds) (lo hi : Option Int) : RepAll F z G (cutV vs lo hi) (Fp.cut ds lo hi) := by
  rw [← cut_cutV, Fp.cut, Fp.cut, h.length]
  exact (h.take _).drop _
theorem slc_ok (C : Ctx F k X) : SlR X (rSl F) := by
  intro pins s σ H x v vl vu lo hi sl Q I rx hs pl pu h
  obtain ⟨z, G, g, d, m, sb, hz, hg, hx, hm, hQ⟩ := h
  cases d with
  | tup ds =>
    obtain ⟨a, vs, rfl, h1, h2⟩ := hx.tup sb
    have hm : m = .tup (cut ds lo hi) := (Option.some.inj hm).symm
    subst hm
    refine sl_tupA pins s σ H _ v vl vu lo hi sl Q I rx hs pl pu ⟨a, vs, rfl, by rw [C.K]; exact h1, fun hw => ?_, fun hw p n => new_tup sb hz hg n (h2.cut lo hi) hQ⟩
    have ry' : Rep F z G (.ref a) (.tup ds) := by rcases hx with h | ⟨_, _, _, h⟩; exact h; exact h.elim
    have e : cut ds lo hi = ds := by
      rw [h2.length] at hw
      simp only [cut, sbd_sIx, hw.1, hw.2, List.take_length, List.drop_zero]
    rw [e] at hQ
    exact same_rep sb hz hg ry' hQ
  | lst ds =>
    obtain ⟨a, vs, rfl, h1, h2⟩ := hx.lst sb
    have hm : m = .lst (cut ds lo hi) := (Option.some.inj hm).symm
    subst hm
    exact sl_list pins s σ H _ v vl vu lo hi sl Q I rx hs pl pu ⟨a, vs, rfl, .of h1, fun p n => new_lst sb hz hg n (h2.cut lo hi) hQ⟩
  | _ => simp [slcOf] at hm
/-- a bound -/
def tOp' (F : Fx) (Pt : Prv) (ρ : List Sl) (f : Gs → Rs (Option Int)) (W : WX) : TO := fun σ H Q =>
  ∃ z G g, Rel F Pt z ρ σ G H ∧ RngAt F z g H ∧ OutA F z G H (f g) (fun o _ _ H' _ => Q o H') fun cl d H' => W cl d σ H'
theorem snd_opt {lo : Option Xp} (h : ∀ e, lo = some e → PE X e.un (tX F Pt ρ false (fun g => r.e ρ g e) W)) : PO X (Xp.uno lo) (tOp' F Pt ρ (fun g => evOpt r ρ g lo) W) := by
  cases lo with
  | none =>
    refine ⟨fun pins s σ H Q I hw => po_none.run pins s σ H Q I ?_⟩
    obtain ⟨z, G, g, rel, rng, out⟩ := hw
    exact out z G H (.refl rel.sub rel.zG) rng
  | some e =>
    refine ⟨fun pins s σ H Q I hw => (po_some (h e rfl)).run pins s σ H Q I ?_⟩
    obtain ⟨z, G, g, rel, rng, out⟩ := hw
    refine ⟨z, G, g, rel, rng, outE_bind out ?_⟩
    intro d g1 v z1 G1 H1 gr rn rp out
    cases d with
    | int i => exact ⟨i, RepO.int rp, out z1 G1 H1 (.refl gr.sub' gr.zG) rn⟩
    | _ => exact out.elim
theorem snd_slc (C : Ctx F k X) {a : Xp} {lo hi : Option Xp} {q p : Pos} (ha : PE X a.un (tX F Pt ρ false (fun g => r.e ρ g a) W)) (hl : ∀ e, lo = some e → PE X e.un (tX F Pt ρ false (fun g => r.e ρ g e) W)) (hh : ∀ e, hi = some e → PE X e.un (tX F Pt ρ false (fun g => r.e ρ g e) W)) :
    PE X (Xp.slc a lo hi q p).un (tX F Pt ρ c (fun g => stepE F.T r ρ g (.slc a lo hi q p)) W) := by
  have e : (Xp.slc a lo hi q p).un = .Subscript a.un (.Slice (Xp.uno lo) (Xp.uno hi) none q) p := by simp only [Xp.un]
  rw [e]
  refine PE.imp (pe_slice (slc_ok C) ha (snd_opt hl) (snd_opt hh)) ?_
  rintro σ H Q ⟨z, G, g, rel, rng, out⟩
  refine ⟨z, G, g, rel, rng, out_bind out ?_⟩
  intro d g1 v z1 G1 H1 gr rn rp out
  refine ⟨z1, G1, g1, rel.grow gr, rn, outA_bind out ?_⟩
  intro l g2 z2 G2 H2 gr2 rn2 out
  refine ⟨z2, G2, g2, (rel.grow gr).grow gr2, rn2, outA_bind out ?_⟩
  intro h g3 z3 G3 H3 gr3 rn3 out
  obtain ⟨m, hm, q⟩ := out_of out
  exact ⟨z3, G3, g3, d, m, gr3.sub', gr3.zG, rn3, (rp.o.grow gr2).grow gr3, hm, fun v' G' H' g' r' rp' => q v' z3 G' H' g' r' (.of rp')⟩

/-! ### globals -/
/-- what the module's names hold -/
structure GnOk (F : Fx) (Gl : Gn) : Prop where
  fns : ∀ (f : Nat) (x : Str), Gl.fns[f]? = some x → F.mg x = some (.ref (F.fa f))
  cls : ∀ (c : Nat) (x : Str), Gl.cls[c]? = some x → F.mg x = some (.ref (F.ca c))
  cons : ∀ (j : Nat) (x : Str) (d : D), Gl.cons[j]? = some x → F.T.cons[j]? = some d → ∃ v u, F.mg x = some u ∧ RelV v u ∧ (∀ z G, Rep F z G v d) ∧ ∀ a xs, v = .ref a → d = .tup xs → ∃ o, F.K.lookup a = some o ∧ o.cls = .type "tuple" ∧ o.dict = none
  free : ∀ x : Str, x ∈ Gl.free → F.mg x = none ∧ x ≠ "__name__"
def gcOk (M : Gn) (T : Tab) (L : Lc) (j : Nat) (x : Str) : Bool := decide (M.cons[j]? = some x) && glB L.sc x
def gfOk (M : Gn) (L : Lc) (f : Nat) (x : Str) : Bool := decide (M.fns[f]? = some x) && glB L.sc x
theorem snd_gc {M : Gn} (GO : GnOk F M) (C : Ctx F k X) (O : LcOk L X) {j : Nat} {x : Str} {p : Pos} (hw : gcOk M F.T L j x = true) : PE X (Xp.gc j x p).un (tX F Pt ρ c (fun g => stepE F.T r ρ g (.gc j x p)) W) := by
  obtain ⟨h1, h2⟩ := and2 hw
  have h1 := of_decide_eq_true h1
  rw [← O.sc] at h2
  obtain ⟨g1, g2⟩ := glB_ok h2
  cases e : F.T.cons[j]? with
  | none =>
    refine ⟨fun pins s σ H Q I hw => ?_⟩
    obtain ⟨z, G, g, rel, rng, out⟩ := hw
    simp only [stepE, e] at out
    exact out.elim
  | some d =>
    obtain ⟨v, u, hm, rv, rp, _⟩ := GO.cons j x d h1 e
    refine PE.imp (pe_glob g1 (by rw [C.mg]; exact hm) rv g2) ?_
    rintro σ H Q ⟨z, G, g, rel, rng, out⟩
    simp only [stepE, e] at out
    exact out v z G H (.refl rel.sub rel.zG) rng (.of (rp z G))
theorem snd_gf {M : Gn} (GO : GnOk F M) (C : Ctx F k X) (O : LcOk L X) {f : Nat} {x : Str} {p : Pos} (hw : gfOk M L f x = true) : PE X (Xp.gf f x p).un (tX F Pt ρ c (fun g => stepE F.T r ρ g (.gf f x p)) W) := by
  obtain ⟨h1, h2⟩ := and2 hw
  have h1 := of_decide_eq_true h1
  rw [← O.sc] at h2
  obtain ⟨g1, g2⟩ := glB_ok h2
  refine PE.imp (pe_glob (v := .ref (F.fa f)) g1 (by rw [C.mg]; exact GO.fns f x h1) rfl g2) ?_
  rintro σ H Q ⟨z, G, g, rel, rng, out⟩
  exact out _ z G H (.refl rel.sub rel.zG) rng (.of (.fn f))
end
end Fp
end
section
set_option Elab.async false
set_option linter.all false
set_option maxRecDepth 100000
set_option autoImplicit false
set_option maxHeartbeats 1000000
/-! The order that sorting asks for, in plain Lean. -/
namespace Fp
open PySem

theorem strEq_eq : ∀ {a b : List Nat}, strEq a b = true → a = b
  | [], [], _ => rfl
  | [], _ :: _, h => by simp [strEq] at h
  | _ :: _, [], h => by simp [strEq] at h
  | a :: r, b :: s, h => by
    simp only [strEq] at h
    cases e : Nat.beq a b with
    | false => rw [e] at h; cases h
    | true => rw [e] at h; rw [Nat.eq_of_beq_eq_true e, strEq_eq h]
theorem strEq_refl : ∀ a : List Nat, strEq a a = true
  | [] => rfl
  | a :: r => by simp [strEq, strEq_refl r]
theorem pds_cons {x : D} {xs : List D} {n : Nat} (h : D.pds (x :: xs) n = true) : D.pd x n = true ∧ D.pds xs n = true := by
  rw [D.pds] at h
  cases e : D.pd x n with
  | false => rw [e] at h; cases h
  | true => rw [e] at h; exact ⟨rfl, h⟩
theorem pd_tup {xs : List D} {n : Nat} (h : D.pd (.tup xs) n = true) : ∃ m, n = m + 1 ∧ D.pds xs m = true := by
  cases n with
  | zero => simp [D.pd] at h
  | succ m => exact ⟨m, rfl, by simpa [D.pd] using h⟩
mutual
theorem pd_dp : ∀ (x : D) (n : Nat), D.pd x n = true → D.dp x n = true
  | .non, _, _ => rfl
  | .int _, _, _ => rfl
  | .str _, _, _ => rfl
  | .tup xs, n, h => by
    obtain ⟨m, rfl, h⟩ := pd_tup h
    simpa [D.dp] using pds_dps xs m h
  | .bl _, _, h => by simp [D.pd] at h
  | .lst _, _, h => by simp [D.pd] at h
  | .dic _ _, _, h => by simp [D.pd] at h
  | .fn _, _, h => by simp [D.pd] at h
  | .exc _ _, _, h => by simp [D.pd] at h
  | .tok, _, h => by simp [D.pd] at h
  | .scr _, _, h => by simp [D.pd] at h
theorem pds_dps : ∀ (xs : List D) (n : Nat), D.pds xs n = true → D.dps xs n = true
  | [], _, _ => rfl
  | x :: xs, n, h => by
    obtain ⟨h1, h2⟩ := pds_cons h
    rw [D.dps, pd_dp x n h1]
    exact pds_dps xs n h2
end
mutual
theorem pd_eq : ∀ (x y : D) (n m : Nat), D.pd x n = true → D.pd y m = true → D.eqb x y = true → x = y
  | .non, y, _, _, _, _, e => by cases y <;> simp [D.eqb] at e <;> rfl
  | .int i, y, _, _, _, hy, e => by
    cases y with
    | int j => simp only [D.eqb, intEq_iff] at e; rw [eq_of_beq e]
    | bl b => simp [D.pd] at hy
    | _ => simp [D.eqb] at e
  | .str x, y, _, _, _, _, e => by
    cases y with
    | str z =>
      simp only [D.eqb] at e
      have := strEq_eq e
      cases x; cases z
      simp only at this
      congr 2
      exact Array.toList_inj.mp this
    | _ => simp [D.eqb] at e
  | .tup xs, y, n, m, hx, hy, e => by
    cases y with
    | tup ys =>
      obtain ⟨n, rfl, hx⟩ := pd_tup hx
      obtain ⟨m, rfl, hy⟩ := pd_tup hy
      simp only [D.eqb] at e
      rw [pds_eq xs ys n m hx hy e]
    | _ => simp [D.eqb] at e
  | .bl _, _, _, _, h, _, _ => by simp [D.pd] at h
  | .lst _, _, _, _, h, _, _ => by simp [D.pd] at h
  | .dic _ _, _, _, _, h, _, _ => by simp [D.pd] at h
  | .fn _, _, _, _, h, _, _ => by simp [D.pd] at h
  | .exc _ _, _, _, _, h, _, _ => by simp [D.pd] at h
  | .tok, _, _, _, h, _, _ => by simp [D.pd] at h
  | .scr _, _, _, _, h, _, _ => by simp [D.pd] at h
theorem pds_eq : ∀ (xs ys : List D) (n m : Nat), D.pds xs n = true → D.pds ys m = true → D.eqbs xs ys = true → xs = ys
  | [], [], _, _, _, _, _ => rfl
  | [], _ :: _, _, _, _, _, e => by simp [D.eqbs] at e
  | _ :: _, [], _, _, _, _, e => by simp [D.eqbs] at e
  | x :: xs, y :: ys, n, m, hx, hy, e => by
    obtain ⟨h1, h2⟩ := pds_cons hx
    obtain ⟨k1, k2⟩ := pds_cons hy
    rw [D.eqbs] at e
    cases c : D.eqb x y with
    | false => rw [c] at e; cases e
    | true =>
      rw [c] at e
      rw [pd_eq x y n m h1 k1 c, pds_eq xs ys n m h2 k2 e]
end
mutual
theorem pd_refl : ∀ (x : D) (n : Nat), D.pd x n = true → D.eqb x x = true
  | .non, _, _ => rfl
  | .int i, _, _ => by simp [D.eqb, intEq_iff]
  | .str x, _, _ => by simp [D.eqb, strEq_refl]
  | .tup xs, n, h => by
    obtain ⟨m, rfl, h⟩ := pd_tup h
    simpa [D.eqb] using pds_refl xs m h
  | .bl _, _, h => by simp [D.pd] at h
  | .lst _, _, h => by simp [D.pd] at h
  | .dic _ _, _, h => by simp [D.pd] at h
  | .fn _, _, h => by simp [D.pd] at h
  | .exc _ _, _, h => by simp [D.pd] at h
  | .tok, _, h => by simp [D.pd] at h
  | .scr _, _, h => by simp [D.pd] at h
theorem pds_refl : ∀ (xs : List D) (n : Nat), D.pds xs n = true → D.eqbs xs xs = true
  | [], _, _ => rfl
  | x :: xs, n, h => by
    obtain ⟨h1, h2⟩ := pds_cons h
    rw [D.eqbs, pd_refl x n h1]
    exact pds_refl xs n h2
end
theorem ltbs_self : ∀ (xs : List D) (n : Nat), D.pds xs n = true → D.ltbs xs xs = some false
  | [], _, _ => rfl
  | x :: xs, n, h => by
    obtain ⟨h1, h2⟩ := pds_cons h
    rw [D.ltbs, pd_refl x n h1]
    exact ltbs_self xs n h2
/-- equality decided -/
theorem eqb_ne {x y : D} {n m : Nat} (hx : D.pd x n = true) (hy : D.pd y m = true) (h : x ≠ y) : D.eqb x y = false := by
  cases e : D.eqb x y with
  | false => rfl
  | true => exact absurd (pd_eq x y n m hx hy e) h
theorem ltb_int (i j : Int) : D.ltb (.int i) (.int j) = some (decide (i < j)) := by
  simp only [D.ltb, intLe_iff]
  by_cases h : j ≤ i
  · simp [h]
  · simp [h]; omega
theorem ltb_str (x z : Str) : D.ltb (.str x) (.str z) = some (decide (x.cps.toList < z.cps.toList)) := by
  simp only [D.ltb, strLt_iff]

mutual
theorem ltb_trans : ∀ (x y z : D) (n m k : Nat), D.pd x n = true → D.pd y m = true → D.pd z k = true → D.ltb x y = some true → D.ltb y z = some true → D.ltb x z = some true
  | .int i, y, z, n, m, k, hx, hy, hz, h1, h2 => by
    cases y with
    | int j =>
      cases z with
      | int l =>
        rw [ltb_int] at h1 h2 ⊢
        simp only [Option.some.injEq, decide_eq_true_eq] at h1 h2 ⊢
        omega
      | _ => simp [D.ltb] at h2
    | _ => simp [D.ltb] at h1
  | .str x, y, z, n, m, k, hx, hy, hz, h1, h2 => by
    cases y with
    | str j =>
      cases z with
      | str l =>
        rw [ltb_str] at h1 h2 ⊢
        simp only [Option.some.injEq, decide_eq_true_eq] at h1 h2 ⊢
        exact List.lt_trans h1 h2
      | _ => simp [D.ltb] at h2
    | _ => simp [D.ltb] at h1
  | .tup xs, y, z, n, m, k, hx, hy, hz, h1, h2 => by
    cases y with
    | tup ys =>
      cases z with
      | tup zs =>
        obtain ⟨n, rfl, hx⟩ := pd_tup hx
        obtain ⟨m, rfl, hy⟩ := pd_tup hy
        obtain ⟨k, rfl, hz⟩ := pd_tup hz
        simp only [D.ltb] at h1 h2 ⊢
        exact ltbs_trans xs ys zs n m k hx hy hz h1 h2
      | _ => simp [D.ltb] at h2
    | _ => simp [D.ltb] at h1
  | .non, _, _, _, _, _, _, _, _, h, _ => by simp [D.ltb] at h
  | .bl _, _, _, _, _, _, _, _, _, h, _ => by simp [D.ltb] at h
  | .lst _, _, _, _, _, _, _, _, _, h, _ => by simp [D.ltb] at h
  | .dic _ _, _, _, _, _, _, _, _, _, h, _ => by simp [D.ltb] at h
  | .fn _, _, _, _, _, _, _, _, _, h, _ => by simp [D.ltb] at h
  | .exc _ _, _, _, _, _, _, _, _, _, h, _ => by simp [D.ltb] at h
  | .tok, _, _, _, _, _, _, _, _, h, _ => by simp [D.ltb] at h
  | .scr _, _, _, _, _, _, _, _, _, h, _ => by simp [D.ltb] at h
theorem ltbs_trans : ∀ (xs ys zs : List D) (n m k : Nat), D.pds xs n = true → D.pds ys m = true → D.pds zs k = true → D.ltbs xs ys = some true → D.ltbs ys zs = some true → D.ltbs xs zs = some true
  | [], ys, zs, n, m, k, hx, hy, hz, h1, h2 => by
    cases zs with
    | nil => cases ys <;> simp [D.ltbs] at h1 h2
    | cons z zs => rfl
  | x :: xs, [], zs, n, m, k, hx, hy, hz, h1, h2 => by simp [D.ltbs] at h1
  | x :: xs, y :: ys, [], n, m, k, hx, hy, hz, h1, h2 => by simp [D.ltbs] at h2
  | x :: xs, y :: ys, z :: zs, n, m, k, hx, hy, hz, h1, h2 => by
    obtain ⟨a1, a2⟩ := pds_cons hx
    obtain ⟨b1, b2⟩ := pds_cons hy
    obtain ⟨c1, c2⟩ := pds_cons hz
    rw [D.ltbs] at h1 h2 ⊢
    cases e1 : D.eqb x y with
    | true =>
      rw [e1] at h1
      have := pd_eq x y n m a1 b1 e1
      subst this
      cases e2 : D.eqb x z with
      | true => rw [e2] at h2; exact ltbs_trans xs ys zs n m k a2 b2 c2 h1 h2
      | false => rw [e2] at h2; exact h2
    | false =>
      rw [e1] at h1
      cases e2 : D.eqb y z with
      | true =>
        rw [e2] at h2
        have := pd_eq y z m k b1 c1 e2
        subst this
        rw [e1]; exact h1
      | false =>
        rw [e2] at h2
        have h3 := ltb_trans x y z n m k a1 b1 c1 h1 h2
        cases e3 : D.eqb x z with
        | false => exact h3
        | true =>
          exfalso
          have := pd_eq x z n k a1 c1 e3
          subst this
          have := ltb_irr x n a1 h3
          exact this
/-- nothing is below itself -/
theorem ltb_irr : ∀ (x : D) (n : Nat), D.pd x n = true → D.ltb x x = some true → False
  | .int i, _, _, h => by rw [ltb_int] at h; simp at h
  | .str x, _, _, h => by rw [ltb_str] at h; simp [List.lt_irrefl] at h
  | .tup xs, n, hx, h => by
    obtain ⟨n, rfl, hx⟩ := pd_tup hx
    simp only [D.ltb] at h
    rw [ltbs_self xs n hx] at h
    cases h
  | .non, _, _, h => by simp [D.ltb] at h
  | .bl _, _, _, h => by simp [D.ltb] at h
  | .lst _, _, _, h => by simp [D.ltb] at h
  | .dic _ _, _, _, h => by simp [D.ltb] at h
  | .fn _, _, _, h => by simp [D.ltb] at h
  | .exc _ _, _, _, h => by simp [D.ltb] at h
  | .tok, _, _, h => by simp [D.ltb] at h
  | .scr _, _, _, h => by simp [D.ltb] at h
end
theorem eqb_symm {x y : D} {n m : Nat} (hx : D.pd x n = true) (hy : D.pd y m = true) : D.eqb y x = D.eqb x y := by
  by_cases h : x = y
  · subst h; rfl
  · rw [eqb_ne hx hy h, eqb_ne hy hx fun e => h e.symm]
mutual
theorem ltb_conn : ∀ (x y : D) (n m : Nat), D.pd x n = true → D.pd y m = true → D.ltb x y = some false → x = y ∨ D.ltb y x = some true
  | .int i, y, n, m, hx, hy, h => by
    cases y with
    | int j =>
      rw [ltb_int] at h ⊢
      simp only [Option.some.injEq, decide_eq_false_iff_not, decide_eq_true_eq, D.int.injEq] at h ⊢
      omega
    | _ => simp [D.ltb] at h
  | .str x, y, n, m, hx, hy, h => by
    cases y with
    | str z =>
      rw [ltb_str] at h ⊢
      simp only [Option.some.injEq, decide_eq_false_iff_not, decide_eq_true_eq, D.str.injEq] at h ⊢
      by_cases e : x.cps.toList = z.cps.toList
      · left
        cases x; cases z
        simp only at e
        congr 1
        exact Array.toList_inj.mp e
      · right
        have h' : z.cps.toList ≤ x.cps.toList := by simpa using h
        rcases List.le_iff_lt_or_eq.mp h' with q | q
        · exact q
        · exact absurd q.symm e
    | _ => simp [D.ltb] at h
  | .tup xs, y, n, m, hx, hy, h => by
    cases y with
    | tup ys =>
      obtain ⟨n, rfl, hx⟩ := pd_tup hx
      obtain ⟨m, rfl, hy⟩ := pd_tup hy
      simp only [D.ltb] at h ⊢
      rcases ltbs_conn xs ys n m hx hy h with e | e
      · exact .inl (by rw [e])
      · exact .inr e
    | _ => simp [D.ltb] at h
  | .non, _, _, _, _, _, h => by simp [D.ltb] at h
  | .bl _, _, _, _, _, _, h => by simp [D.ltb] at h
  | .lst _, _, _, _, _, _, h => by simp [D.ltb] at h
  | .dic _ _, _, _, _, _, _, h => by simp [D.ltb] at h
  | .fn _, _, _, _, _, _, h => by simp [D.ltb] at h
  | .exc _ _, _, _, _, _, _, h => by simp [D.ltb] at h
  | .tok, _, _, _, _, _, h => by simp [D.ltb] at h
  | .scr _, _, _, _, _, _, h => by simp [D.ltb] at h
theorem ltbs_conn : ∀ (xs ys : List D) (n m : Nat), D.pds xs n = true → D.pds ys m = true → D.ltbs xs ys = some false → xs = ys ∨ D.ltbs ys xs = some true
  | [], [], _, _, _, _, _ => .inl rfl
  | [], _ :: _, _, _, _, _, h => by simp [D.ltbs] at h
  | _ :: _, [], _, _, _, _, _ => .inr rfl
  | x :: xs, y :: ys, n, m, hx, hy, h => by
    obtain ⟨a1, a2⟩ := pds_cons hx
    obtain ⟨b1, b2⟩ := pds_cons hy
    rw [D.ltbs] at h ⊢
    rw [eqb_symm a1 b1]
    cases e1 : D.eqb x y with
    | true =>
      rw [e1] at h
      have := pd_eq x y n m a1 b1 e1
      subst this
      rcases ltbs_conn xs ys n m a2 b2 h with e | e
      · exact .inl (by rw [e])
      · exact .inr e
    | false =>
      rw [e1] at h
      rcases ltb_conn x y n m a1 b1 h with e | e
      · subst e; rw [pd_refl x n a1] at e1; cases e1
      · exact .inr e
end
mutual
theorem ltb_asym : ∀ (x y : D) (n m : Nat), D.pd x n = true → D.pd y m = true → D.ltb x y = some true → D.ltb y x = some false
  | .int i, y, n, m, hx, hy, h => by
    cases y with
    | int j =>
      rw [ltb_int] at h ⊢
      simp only [Option.some.injEq, decide_eq_false_iff_not, decide_eq_true_eq] at h ⊢
      omega
    | _ => simp [D.ltb] at h
  | .str x, y, n, m, hx, hy, h => by
    cases y with
    | str z =>
      rw [ltb_str] at h ⊢
      simp only [Option.some.injEq, decide_eq_false_iff_not, decide_eq_true_eq] at h ⊢
      exact List.lt_asymm h
    | _ => simp [D.ltb] at h
  | .tup xs, y, n, m, hx, hy, h => by
    cases y with
    | tup ys =>
      obtain ⟨n, rfl, hx⟩ := pd_tup hx
      obtain ⟨m, rfl, hy⟩ := pd_tup hy
      simp only [D.ltb] at h ⊢
      exact ltbs_asym xs ys n m hx hy h
    | _ => simp [D.ltb] at h
  | .non, _, _, _, _, _, h => by simp [D.ltb] at h
  | .bl _, _, _, _, _, _, h => by simp [D.ltb] at h
  | .lst _, _, _, _, _, _, h => by simp [D.ltb] at h
  | .dic _ _, _, _, _, _, _, h => by simp [D.ltb] at h
  | .fn _, _, _, _, _, _, h => by simp [D.ltb] at h
  | .exc _ _, _, _, _, _, _, h => by simp [D.ltb] at h
  | .tok, _, _, _, _, _, h => by simp [D.ltb] at h
  | .scr _, _, _, _, _, _, h => by simp [D.ltb] at h
theorem ltbs_asym : ∀ (xs ys : List D) (n m : Nat), D.pds xs n = true → D.pds ys m = true → D.ltbs xs ys = some true → D.ltbs ys xs = some false
  | [], [], _, _, _, _, h => by simp [D.ltbs] at h
  | [], _ :: _, _, _, _, _, _ => rfl
  | _ :: _, [], _, _, _, _, h => by simp [D.ltbs] at h
  | x :: xs, y :: ys, n, m, hx, hy, h => by
    obtain ⟨a1, a2⟩ := pds_cons hx
    obtain ⟨b1, b2⟩ := pds_cons hy
    rw [D.ltbs] at h ⊢
    rw [eqb_symm a1 b1]
    cases e1 : D.eqb x y with
    | true => rw [e1] at h; exact ltbs_asym xs ys n m a2 b2 h
    | false => rw [e1] at h; exact ltb_asym x y n m a1 b1 h
end

/-! ### insertion -/
/-- below, or the same -/
def Le (a b : D) : Prop := a = b ∨ D.ltb a b = some true
theorem Le.trans {a b c : D} {n : Nat} (ha : D.pd a n = true) (hb : D.pd b n = true) (hc : D.pd c n = true) (h : Le a b) (k : Le b c) : Le a c := by
  rcases h with rfl | h
  · exact k
  · rcases k with rfl | k
    · exact .inr h
    · exact .inr (ltb_trans a b c n n n ha hb hc h k)
theorem pds_all {n : Nat} : ∀ {xs : List D}, D.pds xs n = true → ∀ x ∈ xs, D.pd x n = true
  | [], _, x, h => by cases h
  | y :: r, e, x, h => by
    obtain ⟨h1, h2⟩ := pds_cons e
    rcases List.mem_cons.mp h with rfl | h
    · exact h1
    · exact pds_all h2 x h
theorem ins_ok {x : D} {n : Nat} (hx : D.pd x n = true) : ∀ {ys zs : List D}, (∀ y ∈ ys, D.pd y n = true) → ys.Pairwise Le → ins x ys = some zs → zs.Perm (x :: ys) ∧ zs.Pairwise Le
  | [], zs, _, _, h => by
    simp only [ins, Option.some.injEq] at h
    subst h
    exact ⟨.refl _, by simp⟩
  | y :: r, zs, hy, pw, h => by
    have hy1 := hy y (by simp)
    obtain ⟨p1, p2⟩ := List.pairwise_cons.mp pw
    rw [ins] at h
    cases e : D.ltb x y with
    | none => rw [e] at h; cases h
    | some b =>
      rw [e] at h
      cases b with
      | true =>
        cases (Option.some.inj h)
        refine ⟨.refl _, List.pairwise_cons.mpr ⟨fun a ha => ?_, pw⟩⟩
        rcases List.mem_cons.mp ha with rfl | ha
        · exact .inr e
        · exact Le.trans hx hy1 (hy a (List.mem_cons_of_mem _ ha)) (.inr e) (p1 a ha)
      | false =>
        dsimp only at h
        cases e2 : ins x r with
        | none => rw [e2] at h; cases h
        | some r' =>
          rw [e2] at h
          cases (Option.some.inj h)
          obtain ⟨q1, q2⟩ := ins_ok hx (fun a ha => hy a (List.mem_cons_of_mem _ ha)) p2 e2
          have le : Le y x := by
            rcases ltb_conn x y n n hx hy1 e with z | z
            · exact .inl z.symm
            · exact .inr z
          refine ⟨(List.Perm.cons y q1).trans (List.Perm.swap x y r), List.pairwise_cons.mpr ⟨fun a ha => ?_, q2⟩⟩
          rcases List.mem_cons.mp (q1.mem_iff.mp ha) with rfl | ha
          · exact le
          · exact p1 a ha
theorem sortRev_ok {n : Nat} : ∀ {xs ys zs : List D}, (∀ x ∈ xs, D.pd x n = true) → (∀ y ∈ ys, D.pd y n = true) → ys.Pairwise Le → sortRev xs (some ys) = some zs → zs.Perm (xs ++ ys) ∧ zs.Pairwise Le
  | [], ys, zs, _, _, pw, h => by
    simp only [sortRev, Option.some.injEq] at h
    subst h
    exact ⟨.refl _, pw⟩
  | x :: r, ys, zs, hx, hy, pw, h => by
    rw [sortRev] at h
    have hx1 := hx x (by simp)
    cases e : ins x ys with
    | none =>
      rw [e] at h
      cases r <;> simp [sortRev] at h
    | some ws =>
      rw [e] at h
      obtain ⟨q1, q2⟩ := ins_ok hx1 hy pw e
      have hw : ∀ y ∈ ws, D.pd y n = true := fun y h => by
        rcases List.mem_cons.mp (q1.mem_iff.mp h) with rfl | h
        · exact hx1
        · exact hy y h
      obtain ⟨r1, r2⟩ := sortRev_ok (fun a ha => hx a (List.mem_cons_of_mem _ ha)) hw q2 h
      refine ⟨r1.trans ?_, r2⟩
      exact ((List.Perm.append_left r q1).trans List.perm_middle)
/-- all of one kind -/
def Kd (xs : List D) : Prop := (∀ x ∈ xs, ∃ i, x = .int i) ∨ (∀ x ∈ xs, ∃ s, x = .str s) ∨ ∀ x ∈ xs, ∃ l, x = .tup l
theorem allInt_ok : ∀ {xs : List D}, allInt xs = true → ∀ x ∈ xs, ∃ i, x = .int i
  | [], _, x, h => by cases h
  | .int i :: r, e, x, h => by
    rcases List.mem_cons.mp h with rfl | h
    · exact ⟨i, rfl⟩
    · exact allInt_ok (xs := r) e x h
theorem allStr_ok : ∀ {xs : List D}, allStr xs = true → ∀ x ∈ xs, ∃ i, x = .str i
  | [], _, x, h => by cases h
  | .str i :: r, e, x, h => by
    rcases List.mem_cons.mp h with rfl | h
    · exact ⟨i, rfl⟩
    · exact allStr_ok (xs := r) e x h
theorem allTups_ok : ∀ {xs : List D}, allTups xs = true → ∀ x ∈ xs, ∃ i, x = .tup i
  | [], _, x, h => by cases h
  | .tup i :: r, e, x, h => by
    rcases List.mem_cons.mp h with rfl | h
    · exact ⟨i, rfl⟩
    · exact allTups_ok (xs := r) e x h
theorem sort_ok {xs ys : List D} (h : sort xs = some ys) : (∀ x ∈ xs, D.pd x 40 = true) ∧ Kd xs ∧ ys.Perm xs ∧ ys.Pairwise Le := by
  unfold sort at h
  cases c : (D.pds xs 40 && (allInt xs || (allStr xs || allTups xs))) with
  | false => rw [c] at h; cases h
  | true =>
    rw [c] at h
    obtain ⟨c1, c2⟩ := and2 c
    have hp := pds_all c1
    obtain ⟨q1, q2⟩ := sortRev_ok hp (fun y h => by cases h) List.Pairwise.nil h
    rw [List.append_nil] at q1
    refine ⟨hp, ?_, q1, q2⟩
    rcases Bool.or_eq_true_iff.mp c2 with c | c
    · exact .inl (allInt_ok c)
    · rcases Bool.or_eq_true_iff.mp c with c | c
      · exact .inr (.inl (allStr_ok c))
      · exact .inr (.inr (allTups_ok c))

/-! ### ranks -/
/-- how many are below -/
def rank (ys : List D) (d : D) : Int := ((ys.filter fun y => decide (D.ltb y d = some true)).length : Nat)
theorem count_le {α : Type} {p q : α → Bool} (h : ∀ y, p y = true → q y = true) : ∀ ys : List α, (ys.filter p).length ≤ (ys.filter q).length
  | [] => Nat.le_refl _
  | y :: r => by
    have ih := count_le h r
    by_cases c : p y = true
    · rw [List.filter_cons_of_pos c, List.filter_cons_of_pos (h y c)]; simp; exact ih
    · rw [List.filter_cons_of_neg c]
      by_cases c2 : q y = true
      · rw [List.filter_cons_of_pos c2]; simp; omega
      · rw [List.filter_cons_of_neg c2]; exact ih
theorem count_lt {α : Type} {p q : α → Bool} : ∀ {ys : List α} {d : α}, (∀ y ∈ ys, p y = true → q y = true) → d ∈ ys → p d = false → q d = true → (ys.filter p).length < (ys.filter q).length
  | [], d, _, m, _, _ => by cases m
  | y :: r, d, h, m, c1, c2 => by
    have le : (r.filter p).length ≤ (r.filter q).length := by
      have : ∀ l : List α, (∀ y ∈ l, p y = true → q y = true) → (l.filter p).length ≤ (l.filter q).length := by
        intro l
        induction l with
        | nil => intro _; exact Nat.le_refl _
        | cons a t ih =>
          intro hh
          have := ih fun y hy => hh y (List.mem_cons_of_mem _ hy)
          by_cases c : p a = true
          · rw [List.filter_cons_of_pos c, List.filter_cons_of_pos (hh a (by simp) c)]; simp; exact this
          · rw [List.filter_cons_of_neg c]
            by_cases c2 : q a = true
            · rw [List.filter_cons_of_pos c2]; simp; omega
            · rw [List.filter_cons_of_neg c2]; exact this
      exact this r fun y hy => h y (List.mem_cons_of_mem _ hy)
    rcases List.mem_cons.mp m with rfl | m
    · rw [List.filter_cons_of_neg (by simp [c1]), List.filter_cons_of_pos c2]; simp; omega
    · have ih := count_lt (fun y hy => h y (List.mem_cons_of_mem _ hy)) m c1 c2
      by_cases c : p y = true
      · rw [List.filter_cons_of_pos c, List.filter_cons_of_pos (h y (by simp) c)]; simp; exact ih
      · rw [List.filter_cons_of_neg c]
        by_cases c2 : q y = true
        · rw [List.filter_cons_of_pos c2]; simp; omega
        · rw [List.filter_cons_of_neg c2]; exact ih
theorem pw_any {α : Type} {R : α → α → Prop} (hs : ∀ a b, R a b → R b a) : ∀ {l : List α}, l.Pairwise R → ∀ a ∈ l, ∀ b ∈ l, a = b ∨ R a b
  | [], _, a, h, _, _ => by cases h
  | x :: r, pw, a, ha, b, hb => by
    obtain ⟨p1, p2⟩ := List.pairwise_cons.mp pw
    rcases List.mem_cons.mp ha with ea | ha'
    · subst ea
      rcases List.mem_cons.mp hb with eb | hb'
      · exact .inl eb.symm
      · exact .inr (p1 b hb')
    · rcases List.mem_cons.mp hb with eb | hb'
      · subst eb
        exact .inr (hs _ _ (p1 a ha'))
      · exact pw_any hs p2 a ha' b hb'
section
variable {ys : List D} {n : Nat}
theorem rank_lt (hp : ∀ y ∈ ys, D.pd y n = true) {d e : D} (hd : d ∈ ys) (he : e ∈ ys) (h : D.ltb d e = some true) : rank ys d < rank ys e := by
  have : (ys.filter fun y => decide (D.ltb y d = some true)).length < (ys.filter fun y => decide (D.ltb y e = some true)).length := by
    refine count_lt (d := d) (fun y hy c => ?_) hd ?_ ?_
    · have c := of_decide_eq_true c
      exact decide_eq_true (ltb_trans y d e n n n (hp y hy) (hp d hd) (hp e he) c h)
    · exact decide_eq_false fun c => ltb_irr d n (hp d hd) c
    · exact decide_eq_true h
  unfold rank
  omega
/-- the ranks tell the order -/
theorem rank_ok (hp : ∀ y ∈ ys, D.pd y n = true) (hk : Kd ys) (pw : ys.Pairwise Le) {d e : D} (hd : d ∈ ys) (he : e ∈ ys) : D.ltb d e = some (decide (rank ys d < rank ys e)) := by
  have self : D.ltb d d = some false := by
    have pdd := hp d hd
    rcases hk with hk | hk | hk
    · obtain ⟨i, rfl⟩ := hk d hd; rw [ltb_int]; simp
    · obtain ⟨i, rfl⟩ := hk d hd; rw [ltb_str]; simp [List.lt_irrefl]
    · obtain ⟨i, rfl⟩ := hk d hd
      obtain ⟨m, rfl, h⟩ := pd_tup pdd
      simp only [D.ltb]; exact ltbs_self i m h
  have any := pw_any (R := fun a b => a = b ∨ D.ltb a b = some true ∨ D.ltb b a = some true) (fun a b h => by
    rcases h with h | h | h
    · exact .inl h.symm
    · exact .inr (.inr h)
    · exact .inr (.inl h)) (pw.imp fun {a b} h => by
      rcases h with h | h
      · exact .inl h
      · exact .inr (.inl h)) d hd e he
  have eq : d = e → D.ltb d e = some (decide (rank ys d < rank ys e)) := fun h => by subst h; rw [self]; simp
  rcases any with h | h | h | h
  · exact eq h
  · exact eq h
  · have := rank_lt hp hd he h
    rw [h, decide_eq_true this]
  · have := rank_lt hp he hd h
    rw [ltb_asym e d n n (hp e he) (hp d hd) h, decide_eq_false (by omega)]
theorem rank_eq (hp : ∀ y ∈ ys, D.pd y n = true) (hk : Kd ys) (pw : ys.Pairwise Le) {d e : D} (hd : d ∈ ys) (he : e ∈ ys) (h1 : ¬ rank ys d < rank ys e) (h2 : ¬ rank ys e < rank ys d) : d = e := by
  have a := rank_ok hp hk pw hd he
  have b := rank_ok hp hk pw he hd
  rw [decide_eq_false h1] at a
  rw [decide_eq_false h2] at b
  rcases ltb_conn d e n n (hp d hd) (hp e he) a with h | h
  · exact h
  · rw [h] at b; cases b
end
theorem sorted_one {α : Type} {R : α → α → Prop} : ∀ {a b : List α}, (∀ x ∈ a, ∀ y ∈ a, R x y → R y x → x = y) → a.Perm b → a.Pairwise R → b.Pairwise R → a = b
  | [], b, _, p, _, _ => by rw [List.Perm.eq_nil p.symm]
  | x :: r, [], _, p, _, _ => by cases List.Perm.eq_nil p
  | x :: r, y :: s, an, p, h1, h2 => by
    obtain ⟨p1, p2⟩ := List.pairwise_cons.mp h1
    obtain ⟨q1, q2⟩ := List.pairwise_cons.mp h2
    have hx : x ∈ y :: s := p.mem_iff.mp (by simp)
    have hy : y ∈ x :: r := p.mem_iff.mpr (by simp)
    have e : x = y := by
      rcases List.mem_cons.mp hx with h | h
      · exact h
      · rcases List.mem_cons.mp hy with h' | h'
        · exact h'.symm
        · exact an x (by simp) y hy (p1 y h') (q1 x h)
    subst e
    rw [sorted_one (fun a ha b hb => an a (List.mem_cons_of_mem _ ha) b (List.mem_cons_of_mem _ hb)) (List.Perm.cons_inv p) p2 q2]
/-- the model's sort by ranks is ours -/
theorem sort_rank {xs ys : List D} (h : sort xs = some ys) : xs.mergeSort (fun a b => !decide (rank ys b < rank ys a)) = ys := by
  obtain ⟨hp, hk, pm, pw⟩ := sort_ok h
  have hp' : ∀ y ∈ ys, D.pd y 40 = true := fun y hy => hp y (pm.mem_iff.mp hy)
  have hk' : Kd ys := by
    rcases hk with hk | hk | hk
    · exact .inl fun y hy => hk y (pm.mem_iff.mp hy)
    · exact .inr (.inl fun y hy => hk y (pm.mem_iff.mp hy))
    · exact .inr (.inr fun y hy => hk y (pm.mem_iff.mp hy))
  have pm2 := List.mergeSort_perm xs (fun a b => !decide (rank ys b < rank ys a))
  have ps := List.pairwise_mergeSort (le := fun a b => !decide (rank ys b < rank ys a)) (by
    intro a b c h1 h2
    simp only [Bool.not_eq_true', decide_eq_false_iff_not] at *
    omega) (by
    intro a b
    simp only [Bool.or_eq_true, Bool.not_eq_true', decide_eq_false_iff_not]
    omega) xs
  refine sorted_one (R := fun a b => (!decide (rank ys b < rank ys a)) = true) ?_ (pm2.trans pm.symm) ps ?_
  · intro x hx y hy h1 h2
    simp only [Bool.not_eq_true', decide_eq_false_iff_not] at h1 h2
    exact rank_eq hp' hk' pw (pm.mem_iff.mpr (pm2.mem_iff.mp hx)) (pm.mem_iff.mpr (pm2.mem_iff.mp hy)) h2 h1
  · refine List.Pairwise.imp_of_mem ?_ pw
    intro a b ha hb hab
    simp only [Bool.not_eq_true', decide_eq_false_iff_not]
    rcases hab with rfl | hab
    · omega
    · have := rank_lt hp' ha hb hab
      omega
end Fp
end
section
set_option Elab.async false
set_option linter.all false
set_option maxRecDepth 100000
set_option autoImplicit false
set_option maxHeartbeats 1000000
/-! sorted(xs): the model. -/
namespace Fp
open PySem PySem.Spec PyProof.Rows L2
open PySem.SeqAt (EqAt RcLt)
open PySem.W (SortsAt EachIs dataType Looks)

/-! ### what is read is one thing -/
mutual
theorem reads_one {h : Heap} : ∀ (x y : D) (n m : Nat) (v : Value) (as bs : List Addr), D.pd x n = true → D.pd y m = true → Reads h v x.toP as → Reads h v y.toP bs → x = y
  | .non, y, n, m, v, as, bs, hx, hy, r1, r2 => by
    simp only [D.toP] at r1
    cases r1
    cases y <;> simp [D.pd] at hy <;> (simp only [D.toP] at r2; cases r2) <;> rfl
  | .int i, y, n, m, v, as, bs, hx, hy, r1, r2 => by
    simp only [D.toP] at r1
    cases r1
    cases y <;> simp [D.pd] at hy <;> (simp only [D.toP] at r2; cases r2) <;> rfl
  | .str i, y, n, m, v, as, bs, hx, hy, r1, r2 => by
    simp only [D.toP] at r1
    cases r1
    cases y <;> simp [D.pd] at hy <;> (simp only [D.toP] at r2; cases r2) <;> rfl
  | .tup xs, y, n, m, v, as, bs, hx, hy, r1, r2 => by
    obtain ⟨n, rfl, hx⟩ := pd_tup hx
    simp only [D.toP] at r1
    cases y with
    | tup ys =>
      obtain ⟨m, rfl, hy⟩ := pd_tup hy
      simp only [D.toP] at r2
      cases r1 with
      | tuple h1 h2 h3 h4 =>
        cases r2 with
        | tuple k1 k2 k3 k4 =>
          rw [h1] at k1
          cases k1
          rw [h3] at k3
          cases k3
          rw [reads_ones xs ys n m _ _ _ hx hy h4 k4]
    | non => simp only [D.toP] at r2; cases r2; cases r1
    | int _ => simp only [D.toP] at r2; cases r2; cases r1
    | str _ => simp only [D.toP] at r2; cases r2; cases r1
    | _ => simp [D.pd] at hy
  | .bl _, _, _, _, _, _, _, h, _, _, _ => by simp [D.pd] at h
  | .lst _, _, _, _, _, _, _, h, _, _, _ => by simp [D.pd] at h
  | .dic _ _, _, _, _, _, _, _, h, _, _, _ => by simp [D.pd] at h
  | .fn _, _, _, _, _, _, _, h, _, _, _ => by simp [D.pd] at h
  | .exc _ _, _, _, _, _, _, _, h, _, _, _ => by simp [D.pd] at h
  | .tok, _, _, _, _, _, _, h, _, _, _ => by simp [D.pd] at h
  | .scr _, _, _, _, _, _, _, h, _, _, _ => by simp [D.pd] at h
theorem reads_ones {h : Heap} : ∀ (xs ys : List D) (n m : Nat) (vs : List Value) (as bs : List Addr), D.pds xs n = true → D.pds ys m = true → ReadsAll h vs (D.toPs xs) as → ReadsAll h vs (D.toPs ys) bs → xs = ys
  | [], ys, n, m, vs, as, bs, hx, hy, r1, r2 => by
    rw [D.toPs] at r1
    cases r1
    cases ys with
    | nil => rfl
    | cons y ys => rw [D.toPs] at r2; cases r2
  | x :: xs, ys, n, m, vs, as, bs, hx, hy, r1, r2 => by
    obtain ⟨a1, a2⟩ := pds_cons hx
    rw [D.toPs] at r1
    cases ys with
    | nil => rw [D.toPs] at r2; cases r2; cases r1
    | cons y ys =>
      obtain ⟨b1, b2⟩ := pds_cons hy
      rw [D.toPs] at r2
      cases r1 with
      | cons h1 h2 =>
        cases r2 with
        | cons k1 k2 => rw [reads_one x y n m _ _ _ a1 b1 h1 k1, reads_ones xs ys n m _ _ _ a2 b2 h2 k2]
end

/-! ### keys by ranks -/
noncomputable def rankKind (h : Heap) (ys : List D) : PyProof.Rows.KeyKind where
  toKeyOrd := intKind.toKeyOrd
  keyOf v := open Classical in if q : ∃ d, d ∈ ys ∧ ∃ as, Reads h v d.toP as then some (rank ys q.choose) else none
  dflt := (0 : Int)
section
variable {h : Heap} {ys : List D}
theorem rankKind_some (hp : ∀ y ∈ ys, D.pd y 40 = true) {v : Value} {d : D} {as : List Addr} (hd : d ∈ ys) (r : Reads h v d.toP as) : (rankKind h ys).keyOf v = some (rank ys d) := by
  have q : ∃ d, d ∈ ys ∧ ∃ as, Reads h v d.toP as := ⟨d, hd, as, r⟩
  have e : (rankKind h ys).keyOf v = some (rank ys q.choose) := by
    unfold rankKind
    simp only
    rw [dif_pos q]
  obtain ⟨h1, as', h2⟩ := q.choose_spec
  rw [e, reads_one _ _ _ _ _ _ _ (hp _ h1) (hp d hd) h2 r]
theorem rankKind_inv {v : Value} {k : Int} (e : (rankKind h ys).keyOf v = some k) : ∃ d as, d ∈ ys ∧ Reads h v d.toP as ∧ k = rank ys d := by
  unfold rankKind at e
  simp only at e
  by_cases q : ∃ d, d ∈ ys ∧ ∃ as, Reads h v d.toP as
  · rw [dif_pos q] at e
    obtain ⟨h1, as', h2⟩ := q.choose_spec
    exact ⟨_, as', h1, h2, (Option.some.inj e).symm⟩
  · rw [dif_neg q] at e
    cases e
end

section
variable {prog : Program} {w : World} {A : Around} {s : Shared} {E : Value → Shared → Prop}
/-! ### one key against another -/
theorem gen_lt {x y : D} {n m : Nat} {k : Bool} (hx : D.dp x n = true) (hy : D.dp y m = true) (e : D.ltb x y = some k) {a b : Value} {as bs : List Addr} (ra : Reads s.heap a x.toP as) (rb : Reads s.heap b y.toP bs) (hu : A.units + n < cLine)
    {Q : Bool → Shared → Prop} (hq : Q k s) : wpAny (model prog w) A (oneLt' false a b) Q E s := by
  rw [oneLt'_eq]
  simp only [Bool.false_eq_true, if_false]
  exact wpAny_bind (rcLt_D x y n m k hx hy e A s a b as bs ra rb hu prog w E _ (wpAny_truthy_bool hq))
/-- tuples, all of them tuples -/
theorem one_lt {xs ys : List D} {n m : Nat} {k : Bool} (hx : D.dp (.tup xs) n = true) (hy : D.dp (.tup ys) m = true) (e : D.ltb (.tup xs) (.tup ys) = some k) {a b : Value} {as bs : List Addr} (ra : Reads s.heap a (D.tup xs).toP as) (rb : Reads s.heap b (D.tup ys).toP bs) (hu : A.units + n + 1 < cLine)
    {Q : Bool → Shared → Prop} (hq : Q k s) : wpAny (model prog w) A (oneLt' true a b) Q E s := by
  obtain ⟨n', rfl, hx⟩ := dp_tup hx
  obtain ⟨m', rfl, hy⟩ := dp_tup hy
  obtain ⟨p, vs, rfl, hp, as', r1⟩ := rd_tup ra
  obtain ⟨q, us, rfl, hq', bs', r2⟩ := rd_tup rb
  simp only [D.ltb] at e
  have l1 : vs.size = xs.length := by simpa [toPs_length] using PySem.SeqAt.ReadsAll.length _ _ _ r1
  have l2 : us.size = ys.length := by simpa [toPs_length] using PySem.SeqAt.ReadsAll.length _ _ _ r2
  have lt := ltL_D xs ys n' m' k hx hy e A.in1 s vs.toList us.toList as' bs' r1 r2 (by show A.units + 1 + n' < cLine; omega)
  obtain ⟨⟨c1, d1, t1, l1'⟩, o1, e1, m1, f1⟩ := hp
  obtain ⟨⟨c2, d2, t2, l2'⟩, o2, e2, m2, f2⟩ := hq'
  simp only at e1 f1 e2 f2
  subst e1 f1 e2 f2
  rw [oneLt'_eq]
  simp only [if_true]
  refine wpAny_bind (wpAny_cRoomFor (by omega) ?_)
  refine wpAny_bind (wpAny_callSpecialIfBound?_slot (T := "tuple") ⟨_, o1, rfl⟩ F.slot_tuple_lt (call_meets F.slot_tuple_lt ⟨_, o1, rfl⟩ F.entry_tuple_lt (F.args_tuple_lt_2 _ _) (tupLt_meets p q vs us m1 m2 d1 d2 l1' l2' k) ⟨o1, o2, by rw [l1, l2]; exact lt, ?_⟩))
  exact wpAny_truthy_bool hq
/-- item by item -/
theorem katLex_D {b fin : Bool} {Q : Bool → Shared → Prop} {k : Bool} : ∀ (xs ys : List D) (n m i : Nat) (vs us : List Value) (as bs : List Addr), D.dps xs n = true → D.dps ys m = true → D.ltbs xs ys = some k →
    ReadsAll s.heap vs (D.toPs xs) as → ReadsAll s.heap us (D.toPs ys) bs → A.units + n < cLine → (b = true → i = 0 → ∀ x r y t, xs = x :: r → ys = y :: t → (∀ l, x ≠ .tup l) ∨ ∀ l, y ≠ .tup l) → fin = decide (xs.length < ys.length) → Q k s →
    PySem.W.KatLex prog w A b fin Q (vs.zip us) i s
  | [], ys, n, m, i, vs, us, as, bs, hx, hy, e, ra, rb, hu, hb, hf, hq => by
    rw [D.toPs] at ra
    cases ra
    refine PySem.W.kat_nil ?_
    subst hf
    cases ys with
    | nil => simp [D.ltbs] at e; simpa [← e] using hq
    | cons y ys => simp [D.ltbs] at e; simpa [← e] using hq
  | x :: xs, [], n, m, i, vs, us, as, bs, hx, hy, e, ra, rb, hu, hb, hf, hq => by
    rw [D.toPs] at rb
    cases rb
    rw [List.zip_nil_right]
    refine PySem.W.kat_nil ?_
    subst hf
    simp [D.ltbs] at e
    simpa [← e] using hq
  | x :: xs, y :: ys, n, m, i, vs, us, as, bs, hx, hy, e, ra, rb, hu, hb, hf, hq => by
    obtain ⟨h1, h2⟩ := dps_cons hx
    obtain ⟨k1, k2⟩ := dps_cons hy
    rw [D.toPs] at ra rb
    cases ra with
    | cons r1 r2 =>
      cases rb with
      | cons q1 q2 =>
        have eq := eqAt_D h1 k1 r1 q1 hu
        rw [List.zip_cons_cons]
        refine PySem.W.kat_cons (eq prog w _ _ ?_)
        rw [D.ltbs] at e
        cases c : D.eqb x y with
        | true =>
          rw [c] at e
          exact PySem.W.kat_yes (katLex_D xs ys n m (i + 1) _ _ _ _ h2 k2 e r2 q2 hu (fun _ hi => absurd hi (Nat.succ_ne_zero i)) (by rw [hf]; simp) hq)
        | false =>
          rw [c] at e
          refine PySem.W.kat_no ?_
          cases cb : (b && i == 0) with
          | false => exact gen_lt h1 k1 e r1 q1 hu hq
          | true =>
            obtain ⟨c1, c2⟩ := and2 cb
            have nt := hb c1 (by simpa using c2) x xs y ys rfl rfl
            cases x with
            | int u =>
              cases y with
              | int v =>
                rw [D.toP] at r1 q1
                cases r1; cases q1
                rw [ltb_int] at e
                exact oneLt_int (by rw [Option.some.inj e]; exact hq)
              | _ => simp [D.ltb] at e
            | str u =>
              cases y with
              | str v =>
                rw [D.toP] at r1 q1
                cases r1; cases q1
                rw [ltb_str] at e
                exact oneLt_str (by rw [Option.some.inj e]; exact hq)
              | _ => simp [D.ltb] at e
            | tup u =>
              cases y with
              | tup v =>
                rcases nt with nt | nt
                · exact absurd rfl (nt u)
                · exact absurd rfl (nt v)
              | _ => simp [D.ltb] at e
            | _ => simp [D.ltb] at e

/-! ### the kind of keys -/
/-- tuples with their first items -/
def Firsts (h : Heap) : List Value → List (Option Value) → Prop := EachIs fun v f => ∃ a o xs n, v = .ref a ∧ h.get? a = some o ∧ o.cls = .type "tuple" ∧ o.data = .seq xs n ∧ xs[0]? = f
theorem firsts_go {M : Model} : ∀ {vs : List Value} {fs : List (Option Value)} {Q : List (Option Value) → Shared → Prop}, Firsts s.heap vs fs → Q fs s → wpAny M A (vs.mapM firstOfTuple') Q E s
  | _, _, Q, .nil, h => by rw [List.mapM_nil]; exact wpAny_pure h
  | v :: vs, f :: fs, Q, .cons t0 t, h => by
    obtain ⟨a, o, xs, n, rfl, ho, hc, hd, hf⟩ := t0
    rw [List.mapM_cons]
    refine wpAny_bind ?_
    rw [PySem.W.kas_first_eq]
    refine wpAny_bind (Looks.here (show Looks M s.heap (typeOf (.ref a)) o.cls from (Looks.ld ho).andThen .now) ?_)
    rw [hc, if_neg (by first | decide | simp)]
    refine wpAny_bind (listItems_at ho hd (wpAny_pure ?_))
    rw [hf]
    exact wpAny_bind (firsts_go (Q := fun bs s' => wpAny M A (pure (f :: bs)) Q E s') t (wpAny_pure h))
theorem mapM_looks {M : Model} : ∀ {fs ts : List Value} {Q : List Value → Shared → Prop}, EachIs (fun f t => Looks M s.heap (typeOf f) t) fs ts → Q ts s → wpAny M A (fs.mapM typeOf) Q E s
  | _, _, Q, .nil, h => by rw [List.mapM_nil]; exact wpAny_pure h
  | f :: fs, t :: ts, Q, .cons l r, h => by
    rw [List.mapM_cons]
    exact wpAny_bind (l.here (wpAny_bind (mapM_looks (Q := fun bs s' => wpAny M A (pure (t :: bs)) Q E s') r (wpAny_pure h))))
/-- first items of several types -/
theorem kind_mixed {M : Model} {vs fs ts : List Value} {t0 t1 : Value} {Q : SortKind → Shared → Prop} (t : Firsts s.heap vs (fs.map some)) (l : EachIs (fun f t => Looks M s.heap (typeOf f) t) fs ts) (h0 : ts[0]? = some t0) (h1 : t1 ∈ ts) (hn : (t1 == t0) = false) (h : Q (tuples' false) s) :
    wpAny M A (keyKind' vs.toArray) Q E s := by
  rw [keyKind'_eq, List.mapM_toArray, map_eq_pure_bind]
  refine wpAny_bind (wpAny_bind (firsts_go t (wpAny_pure ?_)))
  have hall : ((fs.map some).toArray.all fun x => x.isSome) = true := by simp
  rw [if_pos hall]
  refine wpAny_bind (wpAny_rule ?_)
  have hfm : ((fs.map some).toArray.filterMap id) = fs.toArray := by simp
  rw [hfm, oneTypeOnly'_eq, List.mapM_toArray, map_eq_pure_bind]
  refine wpAny_bind (wpAny_bind (wpAny_bind (mapM_looks l (wpAny_pure ?_))))
  have e0 : ts.toArray[0]? = some t0 := by simpa using h0
  have ea : (ts.toArray.all fun x => x == t0) = false := by
    rw [List.all_toArray, List.all_eq_false]
    exact ⟨t1, h1, by simp [hn]⟩
  rw [e0]
  simp only [ea]
  exact wpAny_pure (wpAny_pure h)
/-- an empty tuple among them, not the first -/
theorem kind_general {M : Model} {vs : List Value} {fs : List (Option Value)} {Q : SortKind → Shared → Prop} (t : Firsts s.heap vs fs) (h0 : ∃ v, fs[0]? = some (some v)) (h1 : none ∈ fs) (h : Q general' s) : wpAny M A (keyKind' vs.toArray) Q E s := by
  rw [keyKind'_eq, List.mapM_toArray, map_eq_pure_bind]
  refine wpAny_bind (wpAny_bind (firsts_go t (wpAny_pure ?_)))
  have hall : (fs.toArray.all fun x => x.isSome) = false := by
    rw [List.all_toArray, List.all_eq_false]
    exact ⟨none, h1, by simp⟩
  obtain ⟨v, h0⟩ := h0
  have e0 : fs.toArray[0]? = some (some v) := by simpa using h0
  rw [hall, e0]
  simp only [Bool.false_eq_true, if_false, Option.bind, id, Option.isSome_some, if_true]
  exact wpAny_pure h
/-- the first one is empty -/
theorem kind_one {M : Model} {vs : List Value} {fs : List (Option Value)} {Q : SortKind → Shared → Prop} (t : Firsts s.heap vs fs) (h0 : fs[0]? = some none) (h : Q oneType' s) : wpAny M A (keyKind' vs.toArray) Q E s := by
  rw [keyKind'_eq, List.mapM_toArray, map_eq_pure_bind]
  refine wpAny_bind (wpAny_bind (firsts_go t (wpAny_pure ?_)))
  have hall : (fs.toArray.all fun x => x.isSome) = false := by
    rw [List.all_toArray, List.all_eq_false]
    exact ⟨none, List.mem_of_getElem? h0, by simp⟩
  have e0 : fs.toArray[0]? = some none := by simpa using h0
  rw [hall, e0]
  simp only [Bool.false_eq_true, if_false, Option.bind, id, Option.isSome_none]
  rw [oneTypeOnly'_eq, List.mapM_toArray, map_eq_pure_bind]
  have all : ∀ {vs : List Value} {fs : List (Option Value)}, Firsts s.heap vs fs → ∀ v ∈ vs, Looks M s.heap (typeOf v) (Value.type "tuple") := by
    intro vs fs t
    induction t with
    | nil => intro v h; cases h
    | cons h1 _ ih =>
      intro v hv
      rcases List.mem_cons.mp hv with rfl | hv
      · obtain ⟨a, o, xs, n, rfl, ho, hc, hd, hf⟩ := h1
        have : Looks M s.heap (typeOf (.ref a)) o.cls := (Looks.ld ho).andThen .now
        rw [hc] at this
        exact this
      · exact ih v hv
  refine wpAny_bind (wpAny_bind (wpAny_bind (PySem.W.kas_mapM (r := Value.type "tuple") _ (fun v hv Q' hq => (all t v hv).here hq) (wpAny_pure ?_))))
  have hl := t.length
  have hlen : 0 < vs.length := by
    rw [hl]
    cases fs with
    | nil => simp at h0
    | cons => simp
  have e1 : (List.map (fun _ => Value.type "tuple") vs).toArray[0]? = some (Value.type "tuple") := by
    cases vs with
    | nil => simp at hlen
    | cons => simp
  have ea : ((List.map (fun _ => Value.type "tuple") vs).toArray.all fun x => x == Value.type "tuple") = true := by
    simp only [List.all_toArray, List.all_map, List.all_eq_true]
    intro _ _
    rfl
  rw [e1]
  simp only [ea, if_true]
  exact wpAny_pure (wpAny_pure h)

theorem dataType_ne {x y : PyData} (h : dataType x ≠ dataType y) : (dataType x == dataType y) = false := by
  cases x <;> cases y <;> first | exact absurd rfl h | rfl | decide
theorem firsts_of {h : Heap} : ∀ {vs : List Value} {xs : List D}, EachIs (fun v d => ∃ as, Reads h v d.toP as) vs xs → (∀ d ∈ xs, ∃ l, d = .tup l) →
    ∃ fs, Firsts h vs fs ∧ EachIs (fun f d => (d = .tup [] ∧ f = none) ∨ ∃ x r v as, d = .tup (x :: r) ∧ f = some v ∧ Reads h v x.toP as) fs xs
  | _, _, .nil, _ => ⟨[], .nil, .nil⟩
  | _, _, .cons (b := d) ⟨as, r⟩ t, ht => by
    obtain ⟨fs, h1, h2⟩ := firsts_of t fun d hd => ht d (List.mem_cons_of_mem _ hd)
    obtain ⟨l, rfl⟩ := ht d (by simp)
    rw [D.toP] at r
    cases r with
    | @tuple a o xs n _ _ ho hc hd hr =>
      refine ⟨xs[0]? :: fs, .cons ⟨a, o, xs, n, rfl, ho, hc, hd, rfl⟩ h1, .cons ?_ h2⟩
      cases l with
      | nil =>
        left
        rw [D.toPs] at hr
        have : xs.toList = [] := by
          generalize xs.toList = q at hr
          cases hr; rfl
        exact ⟨rfl, by rw [← Array.getElem?_toList, this]; rfl⟩
      | cons x l =>
        right
        rw [D.toPs] at hr
        cases q : xs.toList with
        | nil => rw [q] at hr; cases hr
        | cons f fr =>
          rw [q] at hr
          cases hr with
          | cons r1 r2 => exact ⟨x, l, f, _, rfl, by rw [← Array.getElem?_toList, q]; rfl, r1⟩
theorem sortsAt_D {vs : List Value} {xs ys : List D} (e : EachIs (fun v d => ∃ as, Reads s.heap v d.toP as) vs xs) (hs : sort xs = some ys) (hu : A.units + 50 < cLine) : SortsAt prog w A s (rankKind s.heap ys) vs := by
  obtain ⟨hp, hk, pm, pw⟩ := sort_ok hs
  have hp' : ∀ y ∈ ys, D.pd y 40 = true := fun y hy => hp y (pm.mem_iff.mp hy)
  have hk' : Kd ys := by
    rcases hk with hk | hk | hk
    · exact .inl fun y hy => hk y (pm.mem_iff.mp hy)
    · exact .inr (.inl fun y hy => hk y (pm.mem_iff.mp hy))
    · exact .inr (.inr fun y hy => hk y (pm.mem_iff.mp hy))
  have keys : ∀ v, v ∈ vs → ∃ a, (rankKind s.heap ys).keyOf v = some a := fun v hv => by
    obtain ⟨d, hd, as, r⟩ := e.left v hv
    exact ⟨_, rankKind_some hp' (pm.mem_iff.mpr hd) r⟩
  /- one comparison, whatever the kind -/
  have lt : ∀ (kd : SortKind), (∀ (E : Value → Shared → Prop) (d d' : D) (x y : Value) (as bs : List Addr) (Q : Bool → Shared → Prop), d ∈ ys → d' ∈ ys → Reads s.heap x d.toP as → Reads s.heap y d'.toP bs → (∀ k, D.ltb d d' = some k → Q k s) → wpAny (model prog w) A (keyLt' kd x y) Q E s) →
      H.LtAt prog w A s (rankKind s.heap ys) kd := by
    intro kd hh E x y a b Q ha hb hq
    obtain ⟨d, as, hd, ra, rfl⟩ := rankKind_inv ha
    obtain ⟨d', bs, hd', rb, rfl⟩ := rankKind_inv hb
    refine hh E d d' x y as bs Q hd hd' ra rb fun k hk2 => ?_
    rw [rank_ok hp' hk' pw hd hd'] at hk2
    rw [← Option.some.inj hk2]
    exact hq
  have gen : ∀ (E : Value → Shared → Prop) (d d' : D) (x y : Value) (as bs : List Addr) (Q : Bool → Shared → Prop), d ∈ ys → d' ∈ ys → Reads s.heap x d.toP as → Reads s.heap y d'.toP bs → (∀ k, D.ltb d d' = some k → Q k s) → wpAny (model prog w) A (oneLt' false x y) Q E s := by
    intro E d d' x y as bs Q hd hd' ra rb hq
    exact gen_lt (pd_dp d 40 (hp' d hd)) (pd_dp d' 40 (hp' d' hd')) (rank_ok hp' hk' pw hd hd') ra rb (by omega) (hq _ (rank_ok hp' hk' pw hd hd'))
  refine ⟨keys, ?_⟩
  have hk0 := hk
  rcases hk with hk | hk | hk
  · refine ⟨oneType', lt _ fun E d d' x y as bs Q hd hd' ra rb hq => ?_, fun h2 E Q hq => ?_⟩
    · obtain ⟨i, rfl⟩ := hk d (pm.mem_iff.mp hd)
      obtain ⟨j, rfl⟩ := hk d' (pm.mem_iff.mp hd')
      rw [D.toP] at ra rb
      cases ra; cases rb
      rw [keyLt'_oneType]
      exact oneLt_int (hq _ (ltb_int i j))
    · refine PySem.W.kas_kind (T := Value.type "int") h2 (fun v hv => ?_) rfl rfl hq
      obtain ⟨d, hd, as, r⟩ := e.left v hv
      obtain ⟨i, rfl⟩ := hk d hd
      exact PySem.W.looks_reads r
  · refine ⟨oneType', lt _ fun E d d' x y as bs Q hd hd' ra rb hq => ?_, fun h2 E Q hq => ?_⟩
    · obtain ⟨i, rfl⟩ := hk d (pm.mem_iff.mp hd)
      obtain ⟨j, rfl⟩ := hk d' (pm.mem_iff.mp hd')
      rw [D.toP] at ra rb
      cases ra; cases rb
      rw [keyLt'_oneType]
      exact oneLt_str (hq _ (ltb_str i j))
    · refine PySem.W.kas_kind (T := Value.type "str") h2 (fun v hv => ?_) rfl rfl hq
      obtain ⟨d, hd, as, r⟩ := e.left v hv
      obtain ⟨i, rfl⟩ := hk d hd
      exact PySem.W.looks_reads r
  · obtain ⟨fs, f1, f2⟩ := firsts_of e hk
    have tup : ∀ {b : Bool} (E : Value → Shared → Prop) (d d' : D) (x y : Value) (as bs : List Addr) (Q : Bool → Shared → Prop), (b = true → ∀ x r y t, D.tup (x :: r) ∈ xs → D.tup (y :: t) ∈ xs → (∀ l, x ≠ .tup l) ∨ ∀ l, y ≠ .tup l) → d ∈ ys → d' ∈ ys → Reads s.heap x d.toP as → Reads s.heap y d'.toP bs → (∀ k, D.ltb d d' = some k → Q k s) → wpAny (model prog w) A (keyLt' (tuples' b) x y) Q E s := by
      intro b E d d' x y as bs Q hb hd hd' ra rb hq
      have lt0 := rank_ok hp' hk' pw hd hd'
      obtain ⟨l, rfl⟩ := hk d (pm.mem_iff.mp hd)
      obtain ⟨l', rfl⟩ := hk d' (pm.mem_iff.mp hd')
      have p1 := pd_dp _ 40 (hp' _ hd)
      have p2 := pd_dp _ 40 (hp' _ hd')
      obtain ⟨n', e1, p1⟩ := dp_tup p1
      obtain ⟨m', e2, p2⟩ := dp_tup p2
      have hq' := hq _ lt0
      simp only [D.ltb] at lt0
      rw [D.toP] at ra rb
      cases ra with
      | @tuple a o vs n _ _ h1 h2 h3 h4 =>
        cases rb with
        | @tuple a' o' vs' n2 _ _ k1 k2 k3 k4 =>
          have l1 : vs.size = l.length := by simpa [toPs_length] using PySem.SeqAt.ReadsAll.length _ _ _ h4
          have l2 : vs'.size = l'.length := by simpa [toPs_length] using PySem.SeqAt.ReadsAll.length _ _ _ k4
          refine PySem.W.kat_lt h1 h3 k1 k3 (katLex_D l l' n' m' 0 _ _ _ _ p1 p2 lt0 h4 k4 (by omega) (fun hb1 _ x r y t ex ey => ?_) (by rw [l1, l2]) hq')
          subst ex ey
          exact hb hb1 x r y t (pm.mem_iff.mp hd) (pm.mem_iff.mp hd')
    by_cases hne : ∀ d ∈ xs, ∃ x r, d = .tup (x :: r)
    · by_cases hT : ∃ T : Value, ∀ x r, D.tup (x :: r) ∈ xs → dataType x.toP = T
      · obtain ⟨T, hT⟩ := hT
        cases xs with
        | nil =>
          cases e
          refine ⟨general', lt _ fun E d d' x y as bs Q hd hd' ra rb hq => ?_, fun h2 => absurd h2 (by simp)⟩
          exact absurd (pm.mem_iff.mp hd) (by simp)
        | cons d0 ds =>
          refine ⟨tuples' (T != Value.type "tuple"), lt _ fun E d d' x y as bs Q hd hd' ra rb hq => tup E d d' x y as bs Q (fun hb u r v t m1 m2 => ?_) hd hd' ra rb hq, fun h2 E Q hq => ?_⟩
          · left
            intro l ex
            have := hT u r m1
            subst ex
            simp only [D.toP] at this
            rw [← this] at hb
            simp [dataType] at hb
          · have hf : ∀ {vs : List Value} {xs : List D} {fs : List (Option Value)}, Firsts s.heap vs fs → EachIs (fun f d => (d = .tup [] ∧ f = none) ∨ ∃ x r v as, d = .tup (x :: r) ∧ f = some v ∧ Reads s.heap v x.toP as) fs xs → (∀ d ∈ xs, ∃ x r, d = .tup (x :: r)) →
                ∃ gs, PySem.W.KatTups s.heap vs gs ∧ gs.length = vs.length ∧ ∀ f ∈ gs, ∃ x r as, D.tup (x :: r) ∈ xs ∧ Reads s.heap f x.toP as := by
              intro vs xs fs t1 t2
              induction t1 generalizing xs with
              | nil => intro _; exact ⟨[], PySem.W.KatTups.nil, rfl, fun f h => by cases h⟩
              | cons a1 _ ih =>
                intro hne
                cases t2 with
                | cons b1 b2 =>
                  obtain ⟨gs, g1, g2, g3⟩ := ih b2 fun d hd => hne d (List.mem_cons_of_mem _ hd)
                  obtain ⟨a, o, zs, n, rfl, ho, hc, hd, hf⟩ := a1
                  rcases b1 with ⟨rfl, rfl⟩ | ⟨x, r, v, as, rfl, rfl, rd⟩
                  · obtain ⟨x, r, q⟩ := hne _ (List.mem_cons_self ..)
                    cases q
                  · refine ⟨v :: gs, PySem.W.KatTups.cons ho hc hd hf g1, by simp [g2], fun f hf => ?_⟩
                    rcases List.mem_cons.mp hf with rfl | hf
                    · exact ⟨x, r, as, by simp, rd⟩
                    · obtain ⟨x', r', as', m1, m2⟩ := g3 f hf
                      exact ⟨x', r', as', List.mem_cons_of_mem _ m1, m2⟩
            obtain ⟨gs, g1, g2, g3⟩ := hf f1 f2 hne
            refine PySem.W.kat_kind (T := T) g1 (by omega) (fun f hf => ?_) (beq_self_eq_true _) hq
            obtain ⟨x, r, as, m1, m2⟩ := g3 f hf
            rw [← hT x r m1]
            exact PySem.W.looks_reads m2
      · refine ⟨tuples' false, lt _ fun E d d' x y as bs Q hd hd' ra rb hq => tup E d d' x y as bs Q (fun hb => by cases hb) hd hd' ra rb hq, fun h2 E Q hq => ?_⟩
        have hf : ∀ {vs : List Value} {xs : List D} {fs : List (Option Value)}, Firsts s.heap vs fs → EachIs (fun f d => (d = .tup [] ∧ f = none) ∨ ∃ x r v as, d = .tup (x :: r) ∧ f = some v ∧ Reads s.heap v x.toP as) fs xs → (∀ d ∈ xs, ∃ x r, d = .tup (x :: r)) →
            ∃ gs ts, fs = gs.map some ∧ EachIs (fun f t => Looks (model prog w) s.heap (typeOf f) t) gs ts ∧ EachIs (fun t d => ∃ x r, d = .tup (x :: r) ∧ t = dataType x.toP) ts xs := by
          intro vs xs fs t1 t2
          induction t1 generalizing xs with
          | nil => intro _; cases t2; exact ⟨[], [], rfl, .nil, .nil⟩
          | cons a1 _ ih =>
            intro hne
            cases t2 with
            | cons b1 b2 =>
              obtain ⟨gs, ts, rfl, g1, g2⟩ := ih b2 fun d hd => hne d (List.mem_cons_of_mem _ hd)
              rcases b1 with ⟨rfl, rfl⟩ | ⟨x, r, v, as, rfl, rfl, rd⟩
              · obtain ⟨x, r, q⟩ := hne _ (List.mem_cons_self ..)
                cases q
              · exact ⟨v :: gs, dataType x.toP :: ts, rfl, .cons (PySem.W.looks_reads rd) g1, .cons ⟨x, r, rfl, rfl⟩ g2⟩
        obtain ⟨gs, ts, rfl, g1, g2⟩ := hf f1 f2 hne
        cases g2 with
        | nil => exact absurd ⟨Value.none, fun x r h => by cases h⟩ hT
        | @cons t0 d0 ts ds c1 c2 =>
          obtain ⟨x0, r0, rfl, rfl⟩ := c1
          have ex : ∃ t1 ∈ ts, (t1 == dataType x0.toP) = false := by
            refine Classical.byContradiction fun no => hT ⟨dataType x0.toP, fun x r hm => ?_⟩
            rcases List.mem_cons.mp hm with h | h
            · cases h; rfl
            · have back : ∀ {ts : List Value} {ds : List D}, EachIs (fun t d => ∃ x r, d = D.tup (x :: r) ∧ t = dataType x.toP) ts ds → ∀ d ∈ ds, ∃ x r, d = .tup (x :: r) ∧ dataType x.toP ∈ ts := by
                intro ts ds t
                induction t with
                | nil => intro d h; cases h
                | cons b1 _ ih =>
                  intro d hd
                  rcases List.mem_cons.mp hd with rfl | hd
                  · obtain ⟨x, r, rfl, rfl⟩ := b1
                    exact ⟨x, r, rfl, by simp⟩
                  · obtain ⟨x, r, e1, e2⟩ := ih d hd
                    exact ⟨x, r, e1, List.mem_cons_of_mem _ e2⟩
              obtain ⟨x', r', e1, e2⟩ := back c2 _ h
              cases e1
              refine Classical.byContradiction fun ne => no ⟨_, e2, dataType_ne ne⟩
          obtain ⟨t1, m1, m2⟩ := ex
          exact kind_mixed f1 g1 rfl (List.mem_cons_of_mem _ m1) m2 hq
    · have emp : .tup [] ∈ xs := by
        refine Classical.byContradiction fun no => hne fun d hd => ?_
        obtain ⟨l, rfl⟩ := hk d hd
        cases l with
        | nil => exact absurd hd no
        | cons x r => exact ⟨x, r, rfl⟩
      have back : ∀ {fs : List (Option Value)} {xs : List D}, EachIs (fun f d => (d = .tup [] ∧ f = none) ∨ ∃ x r v as, d = .tup (x :: r) ∧ f = some v ∧ Reads s.heap v x.toP as) fs xs → .tup [] ∈ xs → none ∈ fs := by
        intro fs xs t
        induction t with
        | nil => intro h; cases h
        | cons b1 _ ih =>
          intro hm
          rcases List.mem_cons.mp hm with h | h
          · subst h
            rcases b1 with ⟨_, rfl⟩ | ⟨x, r, v, as, q, _⟩
            · simp
            · cases q
          · exact List.mem_cons_of_mem _ (ih h)
      have nn := back f2 emp
      cases fs with
      | nil => cases nn
      | cons f0 fs =>
        cases f0 with
        | some v => exact ⟨general', lt _ fun E d d' x y as bs Q hd hd' ra rb hq => gen E d d' x y as bs Q hd hd' ra rb hq, fun h2 E Q hq => kind_general f1 ⟨v, rfl⟩ nn hq⟩
        | none =>
          refine ⟨oneType', lt _ fun E d d' x y as bs Q hd hd' ra rb hq => ?_, fun h2 E Q hq => kind_one f1 rfl hq⟩
          have lt0 := rank_ok hp' hk' pw hd hd'
          obtain ⟨l, rfl⟩ := hk d (pm.mem_iff.mp hd)
          obtain ⟨l', rfl⟩ := hk d' (pm.mem_iff.mp hd')
          rw [keyLt'_oneType]
          exact one_lt (pd_dp _ 40 (hp' _ hd)) (pd_dp _ 40 (hp' _ hd')) lt0 ra rb (by omega) (hq _ lt0)
end
end Fp
end
section
set_option Elab.async false
set_option linter.all false
set_option maxRecDepth 100000
set_option autoImplicit false
set_option maxHeartbeats 1000000
/-! Built-in functions, by values. -/
namespace Fp
open PySem PySem.Spec PyProof.Rows L2
open PySem.W (EachIs)

/-- a built-in function, told by data -/
def rBi (F : Fx) (f : List D → Option D) : List V → Hp → VK → Prop := fun vs H Q => ∃ z G g ds r, Sub G H ∧ (∀ a ∈ z, G a = none) ∧ RngAt F z g H ∧ Reps F false z G H vs ds ∧ f ds = some r ∧
  ∀ v G' H', Grow z G H z G' H' → RngAt F z g H' → Rep F z G' v r → Q v H'
def biVal : Bi → Value
  | .len => .builtin "len"
  | .sum => .builtin "sum"
  | .tuple => .type "tuple"
  | .list => .type "list"
  | .sorted => .builtin "sorted"
  | .int => .type "int"
  | .any => .builtin "any"
  | .all => .builtin "all"
  | .min => .builtin "min"
  | .max => .builtin "max"
  | .repr => .builtin "repr"
  | .abs => .builtin "abs"
  | .dict => .type "dict"
  | .str => .type "str"

section
variable {F : Fx} {k : Nat} {X : Cx} {z : List Addr} {G H : Hp}
theorem keys_tup : ∀ {ents : List (NestedKey × Addr × V)} {ks : List D}, RepKeys F z G ents ks → allTup ks = true
  | _, _, .nil => rfl
  | _, _, .cons h e r => by
    obtain ⟨xs, rfl⟩ := rep_tup h e
    have := keys_tup r
    simpa [allTup] using this
theorem flat_flat : ∀ {kvs : List (Key × V)} {ks : List D}, RepFlat kvs ks → allFlat ks = true
  | _, _, .nil => rfl
  | _, _, .int r => by have := flat_flat r; simpa [allFlat] using this
  | _, _, .str r => by have := flat_flat r; simpa [allFlat] using this
theorem dic_kind {a : Addr} {ks vs : List D} (h : OwnAt F z G H a (.dic ks vs)) : allTup ks = true ∨ allFlat ks = true := by
  rcases h with ⟨ents, _, h2, _⟩ | ⟨kvs, _, h2, _⟩
  · exact .inl (keys_tup h2)
  · exact .inr (flat_flat h2)
theorem ints_at : ∀ {its : List Value} {ns : List Int} {i : Nat} {v : Value}, IntsAre its ns → its[i]? = some v → ∃ t, v = .int (ns.getD i 0) t
  | _, _, i, v, .nil, h => by simp at h
  | _, _, 0, v, .cons n t r, h => by simp at h; subst h; exact ⟨t, rfl⟩
  | _, _, i + 1, v, .cons n t r, h => by
    obtain ⟨t', e⟩ := ints_at (i := i) r (by simpa using h)
    exact ⟨t', by simpa using e⟩
theorem rep_ints : ∀ {vs : List V} {ds : List D} {a : Int} {m : D}, RepAll F z G vs ds → sumD a ds = some m → ∃ ns : List Int, vs = ns.map V.int ∧ m = .int (a + ns.sum)
  | _, _, a, m, .nil, h => by
    simp only [sumD, Option.some.injEq] at h
    exact ⟨[], rfl, by simp [← h]⟩
  | _, _, a, m, .cons (d := d) h1 h2, h => by
    cases d with
    | int i =>
      cases h1
      obtain ⟨ns, rfl, rfl⟩ := rep_ints h2 h
      exact ⟨i :: ns, rfl, by simp [Int.add_assoc]⟩
    | _ => simp [sumD] at h
theorem rep_any : ∀ {vs : List V} {ds : List D} {b : Bool}, RepAll F z G vs ds → anyD ds = some b → ∃ bs : List Bool, vs = bs.map V.bl ∧ b = bs.any id
  | _, _, b, .nil, h => by simp only [anyD, Option.some.injEq] at h; exact ⟨[], rfl, by simp [← h]⟩
  | _, _, b, .cons (d := d) (ds := ds) h1 h2, h => by
    cases d with
    | bl t =>
      cases h1
      rw [anyD] at h
      cases e : anyD ds with
      | none => rw [e] at h; cases h
      | some k =>
        rw [e] at h
        obtain ⟨bs, rfl, rfl⟩ := rep_any h2 e
        refine ⟨t :: bs, rfl, ?_⟩
        rw [← Option.some.inj h]
        cases t <;> simp
    | _ => simp [anyD] at h
theorem rep_all : ∀ {vs : List V} {ds : List D} {b : Bool}, RepAll F z G vs ds → allD ds = some b → ∃ bs : List Bool, vs = bs.map V.bl ∧ b = bs.all id
  | _, _, b, .nil, h => by simp only [allD, Option.some.injEq] at h; exact ⟨[], rfl, by simp [← h]⟩
  | _, _, b, .cons (d := d) (ds := ds) h1 h2, h => by
    cases d with
    | bl t =>
      cases h1
      rw [allD] at h
      cases e : allD ds with
      | none => rw [e] at h; cases h
      | some k =>
        rw [e] at h
        obtain ⟨bs, rfl, rfl⟩ := rep_all h2 e
        refine ⟨t :: bs, rfl, ?_⟩
        rw [← Option.some.inj h]
        cases t <;> simp
    | _ => simp [allD] at h
theorem rep_min : ∀ {vs : List V} {ds : List D} {a : Int} {m : D}, RepAll F z G vs ds → minD a ds = some m → ∃ (ns : List Int) (i : Int), vs = ns.map V.int ∧ m = .int i ∧ i ∈ a :: ns ∧ ∀ y ∈ a :: ns, i ≤ y
  | _, _, a, m, .nil, h => by simp only [minD, Option.some.injEq] at h; exact ⟨[], a, rfl, h.symm, by simp, by simp⟩
  | _, _, a, m, .cons (d := d) h1 h2, h => by
    cases d with
    | int j =>
      cases h1
      rw [minD, intLe_iff] at h
      by_cases c : a ≤ j
      · rw [decide_eq_true c] at h
        obtain ⟨ns, i, rfl, rfl, m1, m2⟩ := rep_min h2 h
        refine ⟨j :: ns, i, rfl, rfl, ?_, ?_⟩
        · simp only [List.mem_cons] at m1 ⊢; rcases m1 with m1 | m1
          · exact .inl m1
          · exact .inr (.inr m1)
        · intro y hy
          simp only [List.mem_cons] at hy
          have := m2 a (by simp)
          rcases hy with rfl | rfl | hy
          · exact this
          · omega
          · exact m2 y (List.mem_cons_of_mem _ hy)
      · rw [decide_eq_false c] at h
        obtain ⟨ns, i, rfl, rfl, m1, m2⟩ := rep_min h2 h
        refine ⟨j :: ns, i, rfl, rfl, ?_, ?_⟩
        · exact List.mem_cons_of_mem _ m1
        · intro y hy
          simp only [List.mem_cons] at hy
          have := m2 j (by simp)
          rcases hy with rfl | rfl | hy
          · omega
          · exact this
          · exact m2 y (List.mem_cons_of_mem _ hy)
    | _ => simp [minD] at h
theorem rep_max : ∀ {vs : List V} {ds : List D} {a : Int} {m : D}, RepAll F z G vs ds → maxD a ds = some m → ∃ (ns : List Int) (i : Int), vs = ns.map V.int ∧ m = .int i ∧ i ∈ a :: ns ∧ ∀ y ∈ a :: ns, y ≤ i
  | _, _, a, m, .nil, h => by simp only [maxD, Option.some.injEq] at h; exact ⟨[], a, rfl, h.symm, by simp, by simp⟩
  | _, _, a, m, .cons (d := d) h1 h2, h => by
    cases d with
    | int j =>
      cases h1
      rw [maxD, intLe_iff] at h
      by_cases c : j ≤ a
      · rw [decide_eq_true c] at h
        obtain ⟨ns, i, rfl, rfl, m1, m2⟩ := rep_max h2 h
        refine ⟨j :: ns, i, rfl, rfl, ?_, ?_⟩
        · simp only [List.mem_cons] at m1 ⊢; rcases m1 with m1 | m1
          · exact .inl m1
          · exact .inr (.inr m1)
        · intro y hy
          simp only [List.mem_cons] at hy
          have := m2 a (by simp)
          rcases hy with rfl | rfl | hy
          · exact this
          · omega
          · exact m2 y (List.mem_cons_of_mem _ hy)
      · rw [decide_eq_false c] at h
        obtain ⟨ns, i, rfl, rfl, m1, m2⟩ := rep_max h2 h
        refine ⟨j :: ns, i, rfl, rfl, ?_, ?_⟩
        · exact List.mem_cons_of_mem _ m1
        · intro y hy
          simp only [List.mem_cons] at hy
          have := m2 j (by simp)
          rcases hy with rfl | rfl | hy
          · omega
          · exact this
          · exact m2 y (List.mem_cons_of_mem _ hy)
    | _ => simp [maxD] at h

/-- sum of a tuple -/
theorem sum_tup {prog : Program} {w : World} {A : Around} {E : Value → Shared → Prop} {s : Shared} {l : Addr} {its : List Value} {ns : List Int} {Q : Value → Shared → Prop} (hh : A.handled = none) (hl : s.heap.IsTuple l its.toArray) (hi : IntsAre its ns)
    (h : ∀ h' tk t', (∀ b o, s.heap.get? b = some o → h'.get? b = some o) → Q (.int ns.sum t') { s with heap := h', toks := tk }) : wpAny (model prog w) A (call (.builtin "sum") [.ref l]) Q E s := by
  have hlt : l < s.heap.objs.size := by obtain ⟨_, e, _⟩ := hl; exact Heap.lt_size e
  refine call_sum_walkG (wpAny_pyIter_tuple hl ?_)
  refine ⟨_, _, _, _, _, _, fun i => ns.getD i 0, rfl, Walks.tuple (A := A.in1) hh s.heap.objs.size l (Nat.ne_of_lt hlt) its.toArray, ⟨⟨_, Heap.get?_push_size _ rfl, rfl, rfl⟩, hl.push _⟩, fun b hb => ?_, fun i v hv => ?_, fun h' tk t' hk => ?_⟩
  · show b < (s.heap.push _).objs.size
    rw [Heap.size_push]
    simp only [List.mem_cons, List.not_mem_nil, or_false] at hb
    rcases hb with rfl | rfl
    · exact Nat.lt_succ_self _
    · exact Nat.lt_succ_of_lt hlt
  · have hv' : its[i]? = some v := by simpa using hv
    exact ints_at hi hv'
  · have hn : its.toArray.size = ns.length := by rw [List.size_toArray]; exact hi.length
    rw [hn, PyProof.Rows.preSum_getD, List.take_of_length_le (Nat.le_refl _)]
    refine h h' tk t' fun b o e => hk b o ?_ (Heap.get?_push_of_some _ e)
    intro hm
    have : b = s.heap.objs.size := by simpa using hm
    subst this
    exact absurd (Heap.lt_size e) (Nat.lt_irrefl _)

theorem each_reads (C : Ctx F k X) {pins : List (Addr × Obj)} {σ : L2.St} {s : Shared} (I : Inv X pins σ H s) {n : Nat} : ∀ {vs : List V} {us : List Value} {ds : List D}, RepAll F z H vs ds → Vals vs us → (∀ d ∈ ds, D.dp d n = true) → EachIs (fun v d => ∃ as, Reads s.heap v d.toP as) us ds
  | _, _, _, .nil, r, _ => by cases r; exact .nil
  | _, _, _, .cons h1 h2, r, hp => by
    cases r with
    | cons r1 r2 => exact .cons (C.reads I h1 r1 (hp _ (by simp))) (each_reads C I h2 r2 fun d hd => hp d (List.mem_cons_of_mem _ hd))
theorem each_rep : ∀ {vs : List V} {us : List Value} {ds : List D}, RepAll F z G vs ds → Vals vs us → EachIs (fun u d => ∃ v, Rep F z G v d ∧ RelV v u) us ds
  | _, _, _, .nil, r => by cases r; exact .nil
  | _, _, _, .cons h1 h2, r => by
    cases r with
    | cons r1 r2 => exact .cons ⟨_, h1, r1⟩ (each_rep h2 r2)
theorem each_back : ∀ {us : List Value} {ds : List D}, EachIs (fun u d => ∃ v, Rep F z G v d ∧ RelV v u) us ds → ∃ vs, RepAll F z G vs ds ∧ Vals vs us
  | _, _, .nil => ⟨[], .nil, .nil⟩
  | _, _, .cons ⟨v, h1, h2⟩ t => by
    obtain ⟨vs, a, b⟩ := each_back t
    exact ⟨v :: vs, .cons h1 a, .cons h2 b⟩
/-- sorted(xs) -/
theorem bi_sorted (C : Ctx F k X) {xs ys : List D} (hs : sort xs = some ys) {pins : List (Addr × Obj)} {σ : L2.St} {s : Shared} (I : Inv X pins σ H s) {g : Gs} (sb : Sub G H) (hz : ∀ a ∈ z, G a = none) (hg : RngAt F z g H) {v : V} {u : Value} (hv : RepO F z G H v (.lst xs)) (r : RelV v u)
    {Q : VK} (hQ : ∀ v G' H', Grow z G H z G' H' → RngAt F z g H' → Rep F z G' v (.lst ys) → Q v H') : wpAny (model X.prog X.w) X.A (call (.builtin "sorted") [u]) (EP X pins σ Q) X.xe s := by
  obtain ⟨a, vs, rfl, h1, h2⟩ := hv.lst sb
  cases r
  obtain ⟨its, rv, hl, hzz⟩ := I.list (X := X) (SqL.of (K := X.K) h1)
  obtain ⟨hp, hk, pm, pw⟩ := sort_ok hs
  have hp' : ∀ y ∈ ys, D.pd y 40 = true := fun y hy => hp y (pm.mem_iff.mp hy)
  have er := each_reads C I (h2.mono (.refl z) sb) rv fun d hd => pd_dp d 40 (hp d hd)
  have er' : EachIs (fun v d => ∃ as, Reads (PySem.W.sortingHeap (PySem.W.copyHeap s.heap its) (s.heap.objs.size + 1) its) v d.toP as) its xs := er.mono fun _ _ ⟨as, r⟩ => ⟨as, PyProof.Rows.Reads.keeps (fun _ _ => PySem.W.sorting_copy_old) r⟩
  have hl' : its.length ≤ sizeLine := by rw [← rv.length]; exact hzz
  have un := C.un
  refine PySem.W.sorted_vals hl.isList (sortsAt_D (s := { s with heap := PySem.W.sortingHeap (PySem.W.copyHeap s.heap its) (s.heap.objs.size + 1) its }) er' hs (by show X.A.units + 1 + 1 + 50 < cLine; omega)) hl' ?_
  have eo := PySem.W.sortVals_each (κ := rankKind (PySem.W.sortingHeap (PySem.W.copyHeap s.heap its) (s.heap.objs.size + 1) its) ys) (rev := false) (fun d : D => rank ys d) (each_rep h2 rv) (by
    have : ∀ {us : List Value} {ds : List D}, (∀ d ∈ ds, d ∈ ys) → EachIs (fun v d => ∃ as, Reads (PySem.W.sortingHeap (PySem.W.copyHeap s.heap its) (s.heap.objs.size + 1) its) v d.toP as) us ds → EachIs (fun v d => (rankKind (PySem.W.sortingHeap (PySem.W.copyHeap s.heap its) (s.heap.objs.size + 1) its) ys).keyOf v = some (rank ys d)) us ds := by
      intro us ds hin t
      induction t with
      | nil => exact .nil
      | cons h1 _ ih =>
        obtain ⟨as, r⟩ := h1
        exact .cons (rankKind_some hp' (hin _ (by simp)) r) (ih fun d hd => hin d (List.mem_cons_of_mem _ hd))
    exact this (fun d hd => pm.mem_iff.mpr hd) er')
  have em : xs.mergeSort (PySem.W.sortLe (rankKind (PySem.W.sortingHeap (PySem.W.copyHeap s.heap its) (s.heap.objs.size + 1) its) ys).toKeyOrd false fun d : D => rank ys d) = ys := sort_rank hs
  rw [em] at eo
  obtain ⟨ws, w1, w2⟩ := each_back eo
  obtain ⟨ep, he'⟩ := PyProof.Rows.sortedAll_at s.heap its (PySem.W.sortVals (rankKind (PySem.W.sortingHeap (PySem.W.copyHeap s.heap its) (s.heap.objs.size + 1) its) ys) false its its).toArray
  have lw : ws.length ≤ sizeLine := by rw [w1.length, pm.length_eq, ← h2.length]; exact hzz
  have nw := I.hok.fresh (Nat.le_succ s.heap.objs.size)
  exact ⟨.ref _, upd H (s.heap.objs.size + 1) (.lst ws), I.laid (t' := s.toks) (fun _ _ => PyProof.Rows.sortedAll_old) (Nat.le_succ _) ⟨lw, _, ep, w2, he'⟩, rfl, new_lst sb hz hg nw w1 hQ⟩
/-- len(d) -/
theorem bi_lenD (C : Ctx F k X) {ks vs : List D} {pins : List (Addr × Obj)} {σ : L2.St} {s : Shared} (I : Inv X pins σ H s) (sb : Sub G H) {v : V} {u : Value} (hv : RepO F z G H v (.dic ks vs)) (r : RelV v u) {Q : VK} (hQ : Q (.int ks.length) H) :
    wpAny (model X.prog X.w) X.A (call (.builtin "len") [u]) (EP X pins σ Q) X.xe s := by
  obtain ⟨p, rfl, h3⟩ := hv.dic sb
  cases r
  rcases dic_kind h3 with at_ | at_
  · obtain ⟨nz, xs, hz, ent, dd⟩ := C.dicT I sb h3 at_
    refine call_len_dictH nz dd (by rw [sizeLine_eq] at hz; omega) ?_
    rw [ent.len.1]
    exact ⟨.int _, H, I.tok _, ⟨_, rfl⟩, hQ⟩
  · obtain ⟨nz, xs, hz, ent, dd⟩ := C.dicK I h3 at_
    refine call_len_dict nz dd (by rw [sizeLine_eq] at hz; omega) ?_
    rw [ent.len.1]
    exact ⟨.int _, H, I.tok _, ⟨_, rfl⟩, hQ⟩
theorem entT_refs : ∀ {ks ds : List D} {xs : List (NestedKey × Addr × Value)}, EntT F z G ks ds xs → RepAll F z G (xs.map fun x => V.ref x.2.1) ks
  | _, _, _, .nil => .nil
  | _, _, _, .cons h _ _ _ r => .cons h (entT_refs r)
theorem flat_keys : ∀ {kvs : List (Key × V)} {ks : List D}, RepFlat kvs ks → RepAll F z G (kvs.map fun kv => kV kv.1) ks
  | _, _, .nil => .nil
  | _, _, .int r => .cons (.int _) (flat_keys r)
  | _, _, .str r => .cons (.str _) (flat_keys r)
/-- list(d) -/
theorem bi_listD (C : Ctx F k X) (hc : X.calm = true) {ks vs : List D} {pins : List (Addr × Obj)} {σ : L2.St} {s : Shared} (I : Inv X pins σ H s) {g : Gs} (sb : Sub G H) (hz : ∀ a ∈ z, G a = none) (hg : RngAt F z g H) {v : V} {u : Value} (hv : RepO F z G H v (.dic ks vs)) (r : RelV v u)
    {Q : VK} (hQ : ∀ v G' H', Grow z G H z G' H' → RngAt F z g H' → Rep F z G' v (.lst ks) → Q v H') : wpAny (model X.prog X.w) X.A (call (.type "list") [u]) (EP X pins σ Q) X.xe s := by
  obtain ⟨p, rfl, h3⟩ := hv.dic sb
  rcases h3 with h3 | ⟨kvs, h1, h2, _⟩
  · obtain ⟨ents, h1, h2, h4⟩ := h3
    cases r
    have at_ := keys_tup h2
    obtain ⟨nz, xs, hzz, ent, o, es, ep, ho, hx, hdt, he, _⟩ := C.dicT I sb (.inl ⟨ents, h1, h2, h4⟩) at_
    have l1 : es.size = xs.length := size_of_entries he
    refine PySem.W.kdl_call (kdl_raw nz hx hdt) (I.ok.hd hc) ho (by omega) fun h' tk acc' c' kp e it => ?_
    have ea : acc'.toList = xs.map fun x => Value.ref x.2.1 := by
      have hl : acc'.toList.length = xs.length := by rw [Array.length_toList, it.1]; exact l1
      apply List.ext_getElem?
      intro j
      rw [List.getElem?_map]
      cases hj : acc'.toList[j]? with
      | none =>
        have h1 := List.getElem?_eq_none_iff.mp hj
        rw [List.getElem?_eq_none (by omega)]
        all_goals rfl
      | some v =>
        obtain ⟨en, hen, hv⟩ := it.2 j v (by rw [← Array.getElem?_toList]; exact hj)
        have qe := entry_at he j
        rw [hen] at qe
        cases hb : xs[j]? with
        | none =>
          rw [hb] at qe
          exact nomatch (show some en = none from qe)
        | some b =>
          rw [hb] at qe
          have e2 : en = entryOfKey (nestedKind X.prog X.w) b := Option.some.inj qe
          rw [hv, e2]
          all_goals rfl
    have rv : Vals (xs.map fun x => V.ref x.2.1) acc'.toList := by
      rw [ea]
      have : ∀ l : List (NestedKey × Addr × Value), Vals (l.map fun x => V.ref x.2.1) (l.map fun x => Value.ref x.2.1) := by
        intro l
        induction l with
        | nil => exact .nil
        | cons a r ih => exact .cons rfl ih
      exact this xs
    have nw := I.hok.fresh (Nat.le_refl s.heap.objs.size)
    refine ⟨.ref s.heap.objs.size, upd H s.heap.objs.size (.lst (xs.map fun x => V.ref x.2.1)), I.laid (t' := tk) kp (Nat.le_refl _) ?_, rfl, new_lst sb hz hg nw (entT_refs ent) hQ⟩
    exact ⟨by rw [List.length_map]; exact hzz, acc'.toList, c', rv, by rw [Array.toArray_toList]; exact e⟩
  · exact call_list_dK hc pins s σ H [.ref p] [u] Q I (.cons r .nil) ⟨p, kvs, rfl, h1, fun q n => new_lst sb hz hg n (flat_keys h2) hQ⟩
theorem reps1 {vs : List V} {d : D} (h : Reps F false z G H vs [d]) : ∃ v, vs = [v] ∧ RepO F z G H v d := by
  cases h with
  | cons h1 h2 => cases h2; exact ⟨_, rfl, h1⟩
theorem reps2 {vs : List V} {d e : D} (h : Reps F false z G H vs [d, e]) : ∃ v u, vs = [v, u] ∧ RepO F z G H v d ∧ RepO F z G H u e := by
  cases h with
  | cons h1 h2 => cases h2 with
    | cons h2 h3 => cases h3; exact ⟨_, _, rfl, h1, h2⟩
theorem bi_ok (C : Ctx F k X) (hc : X.calm = true) (b : Bi) : CallR X (biVal b) (rBi F (biOf b)) := by
  intro pins s σ H vs us Q I r h
  obtain ⟨z, G, g, ds, m, sb, hz, hg, rp, hb, q⟩ := h
  have fin : ∀ {m : D} {v : V}, (∀ v G' H', Grow z G H z G' H' → RngAt F z g H' → Rep F z G' v m → Q v H') → Rep F z G v m → Q v H := fun {m v} q h => same_rep sb hz hg h q
  match b, ds, hb with
  | .len, [.tup xs], hb =>
    obtain ⟨v, rfl, h⟩ := reps1 rp
    obtain ⟨a, ys, rfl, h1, h2⟩ := h.tup sb
    have e : m = .int xs.length := (Option.some.inj hb).symm
    subst e
    exact call_len pins s σ H _ us Q I r ⟨_, _, rfl, .inr ⟨ys, by rw [C.K]; exact h1, rfl⟩, by rw [h2.length]; exact fin q (.int _)⟩
  | .len, [.lst xs], hb =>
    obtain ⟨v, rfl, h⟩ := reps1 rp
    obtain ⟨a, ys, rfl, h1, h2⟩ := h.lst sb
    have e : m = .int xs.length := (Option.some.inj hb).symm
    subst e
    exact call_len pins s σ H _ us Q I r ⟨_, _, rfl, .inl ⟨ys, .of h1, rfl⟩, by rw [h2.length]; exact fin q (.int _)⟩
  | .len, [.dic ks vs], hb =>
    obtain ⟨v, rfl, h⟩ := reps1 rp
    obtain ⟨u, rfl, rx⟩ := vals1 r
    have e : m = .int ks.length := (Option.some.inj hb).symm
    subst e
    exact bi_lenD C I sb h rx (fin q (.int _))
  | .sum, [.lst xs], hb =>
    obtain ⟨v, rfl, h⟩ := reps1 rp
    obtain ⟨a, ys, rfl, h1, h2⟩ := h.lst sb
    obtain ⟨ns, rfl, rfl⟩ := rep_ints h2 hb
    rw [Int.zero_add] at q
    exact cr_sum hc pins s σ H _ us Q I r ⟨a, ns, rfl, .of h1, fin q (.int _)⟩
  | .sum, [.tup xs], hb =>
    obtain ⟨v, rfl, h⟩ := reps1 rp
    obtain ⟨a, ys, rfl, h1, h2⟩ := h.tup sb
    obtain ⟨ns, rfl, rfl⟩ := rep_ints h2 hb
    rw [Int.zero_add] at q
    rw [← C.K] at h1
    obtain ⟨its, rv, hl, _⟩ := I.tuple h1
    rw [Vals.ref1 r]
    exact sum_tup (I.ok.hd hc) hl rv.ints fun h' tk t' hk => ⟨.int _, H, I.kept hk, ⟨_, rfl⟩, fin q (.int _)⟩
  | .tuple, [.tup xs], hb =>
    obtain ⟨v, rfl, h⟩ := reps1 rp
    have hr : Rep F z G v (.tup xs) := by rcases h with h | ⟨_, _, _, h⟩; exact h; exact h.elim
    obtain ⟨a, ys, rfl, h1, h2⟩ := h.tup sb
    have e : m = .tup xs := (Option.some.inj hb).symm
    subst e
    exact call_tuple_of pins s σ H _ us Q I r ⟨a, ys, rfl, .inr ⟨by rw [C.K]; exact h1, fin q hr⟩⟩
  | .tuple, [.lst xs], hb =>
    obtain ⟨v, rfl, h⟩ := reps1 rp
    obtain ⟨a, ys, rfl, h1, h2⟩ := h.lst sb
    have e : m = .tup xs := (Option.some.inj hb).symm
    subst e
    exact call_tuple_of pins s σ H _ us Q I r ⟨a, ys, rfl, .inl ⟨.of h1, fun p n => new_tup sb hz hg n h2 q⟩⟩
  | .list, [.tup xs], hb =>
    obtain ⟨v, rfl, h⟩ := reps1 rp
    obtain ⟨a, ys, rfl, h1, h2⟩ := h.tup sb
    have e : m = .lst xs := (Option.some.inj hb).symm
    subst e
    exact call_list_of pins s σ H _ us Q I r ⟨a, ys, rfl, .inr (by rw [C.K]; exact h1), fun p n => new_lst sb hz hg n h2 q⟩
  | .list, [.lst xs], hb =>
    obtain ⟨v, rfl, h⟩ := reps1 rp
    obtain ⟨a, ys, rfl, h1, h2⟩ := h.lst sb
    have e : m = .lst xs := (Option.some.inj hb).symm
    subst e
    exact call_list_of pins s σ H _ us Q I r ⟨a, ys, rfl, .inl (.of h1), fun p n => new_lst sb hz hg n h2 q⟩
  | .list, [.dic ks vs], hb =>
    obtain ⟨v, rfl, h⟩ := reps1 rp
    obtain ⟨u, rfl, rx⟩ := vals1 r
    have e : m = .lst ks := (Option.some.inj hb).symm
    subst e
    exact bi_listD C hc I sb hz hg h rx q
  | .sorted, [.lst xs], hb =>
    obtain ⟨v, rfl, h⟩ := reps1 rp
    obtain ⟨u, rfl, rx⟩ := vals1 r
    simp only [biOf] at hb
    cases e : sort xs with
    | none => rw [e] at hb; cases hb
    | some ys =>
      rw [e] at hb
      have e2 : m = .lst ys := (Option.some.inj hb).symm
      subst e2
      exact bi_sorted C e I sb hz hg h rx q
  | .int, [.int i], hb =>
    obtain ⟨v, rfl, h⟩ := reps1 rp
    have e : m = .int i := (Option.some.inj hb).symm
    subst e
    have := h.int
    subst this
    exact call_int1 pins s σ H _ us Q I r (.inl ⟨i, rfl, fin q (.int _)⟩)
  | .any, [.lst xs], hb =>
    obtain ⟨v, rfl, h⟩ := reps1 rp
    obtain ⟨a, ys, rfl, h1, h2⟩ := h.lst sb
    simp only [biOf] at hb
    cases e : anyD xs with
    | none => rw [e] at hb; cases hb
    | some t =>
      rw [e] at hb
      have e2 : m = .bl t := (Option.some.inj hb).symm
      subst e2
      obtain ⟨bs, rfl, rfl⟩ := rep_any h2 e
      exact cr_any hc pins s σ H _ us Q I r ⟨a, bs, rfl, .of h1, fin q (.bl _)⟩
  | .all, [.lst xs], hb =>
    obtain ⟨v, rfl, h⟩ := reps1 rp
    obtain ⟨a, ys, rfl, h1, h2⟩ := h.lst sb
    simp only [biOf] at hb
    cases e : allD xs with
    | none => rw [e] at hb; cases hb
    | some t =>
      rw [e] at hb
      have e2 : m = .bl t := (Option.some.inj hb).symm
      subst e2
      obtain ⟨bs, rfl, rfl⟩ := rep_all h2 e
      exact cr_all hc pins s σ H _ us Q I r ⟨a, bs, rfl, .of h1, fin q (.bl _)⟩
  | .min, [.lst (.int x :: xs)], hb =>
    obtain ⟨v, rfl, h⟩ := reps1 rp
    obtain ⟨a, ys, rfl, h1, h2⟩ := h.lst sb
    cases h2 with
    | cons h3 h4 =>
      cases h3
      obtain ⟨ns, i, rfl, rfl, m1, m2⟩ := rep_min h4 hb
      refine cr_min hc pins s σ H _ us Q I r ⟨a, x :: ns, rfl, .of h1, by simp, fun j j1 j2 => ?_⟩
      have : j = i := by have := m2 j j1; have := j2 i m1; omega
      subst this
      exact fin q (.int _)
  | .max, [.lst (.int x :: xs)], hb =>
    obtain ⟨v, rfl, h⟩ := reps1 rp
    obtain ⟨a, ys, rfl, h1, h2⟩ := h.lst sb
    cases h2 with
    | cons h3 h4 =>
      cases h3
      obtain ⟨ns, i, rfl, rfl, m1, m2⟩ := rep_max h4 hb
      refine cr_max hc pins s σ H _ us Q I r ⟨a, x :: ns, rfl, .of h1, by simp, fun j j1 j2 => ?_⟩
      have : j = i := by have := m2 j j1; have := j2 i m1; omega
      subst this
      exact fin q (.int _)
  | .min, [.int x, .int y], hb =>
    obtain ⟨v, w, rfl, h1, h2⟩ := reps2 rp
    have e1 := h1.int
    have e2 := h2.int
    subst e1 e2
    refine call_min2 hc pins s σ H _ us Q I r ⟨x, y, rfl, ?_⟩
    simp only [biOf, minD, intLe_iff] at hb
    by_cases c : x ≤ y
    · rw [decide_eq_true c] at hb
      rw [if_neg (by omega)]
      have e : m = .int x := (Option.some.inj hb).symm
      subst e
      exact fin q (.int _)
    · rw [decide_eq_false c] at hb
      rw [if_pos (by omega)]
      have e : m = .int y := (Option.some.inj hb).symm
      subst e
      exact fin q (.int _)
  | .max, [.int x, .int y], hb =>
    obtain ⟨v, w, rfl, h1, h2⟩ := reps2 rp
    have e1 := h1.int
    have e2 := h2.int
    subst e1 e2
    refine call_max2 hc pins s σ H _ us Q I r ⟨x, y, rfl, ?_⟩
    simp only [biOf, maxD, intLe_iff] at hb
    by_cases c : y ≤ x
    · rw [decide_eq_true c] at hb
      rw [if_neg (by omega)]
      have e : m = .int x := (Option.some.inj hb).symm
      subst e
      exact fin q (.int _)
    · rw [decide_eq_false c] at hb
      rw [if_pos (by omega)]
      have e : m = .int y := (Option.some.inj hb).symm
      subst e
      exact fin q (.int _)
end
end Fp
end
section
set_option Elab.async false
set_option linter.all false
set_option maxRecDepth 100000
set_option autoImplicit false
set_option maxHeartbeats 1000000
/-! Calls of built-in functions. -/
namespace Fp
open PySem PySem.Spec PyProof.Rows L2

def biName : Bi → Str
  | .len => "len"
  | .sum => "sum"
  | .tuple => "tuple"
  | .list => "list"
  | .sorted => "sorted"
  | .int => "int"
  | .any => "any"
  | .all => "all"
  | .min => "min"
  | .max => "max"
  | .repr => "repr"
  | .abs => "abs"
  | .dict => "dict"
  | .str => "str"
theorem bi_boot (b : Bi) : bootBuiltins (biName b) = some (biVal b) := by cases b <;> decide +kernel
def noStar : List Xp → Bool
  | [] => true
  | e :: es => !isStar e && noStar es
theorem not_of {b : Bool} (h : (!b) = true) : b = false := by cases b <;> simp_all
theorem star_cons {e : Xp} (h : isStar e = false) (es : List Xp) (env : Env) : starEach (Xp.uns (e :: es)) env = (false, eval e.un env) :: starEach (Xp.uns es) env := by
  cases e <;> first | rfl | simp [isStar] at h
theorem star_none (pos : Pos) (env : Env) : ∀ {es : List Xp}, noStar es = true → (backTo pos (starEach (Xp.uns es) env)).any (·.1) = false
  | [], _ => rfl
  | e :: es, h => by
    obtain ⟨h1, h2⟩ := and2 h
    rw [star_cons (not_of h1)]
    have := star_none pos env h2
    simpa [backTo] using this
theorem noStar_all {es : List Xp} (h : noStar es = true) : ∀ e ∈ es, isStar e = false := by
  induction es with
  | nil => intro e h; cases h
  | cons x r ih =>
    obtain ⟨h1, h2⟩ := and2 h
    intro e he
    rcases List.mem_cons.mp he with rfl | he
    · exact not_of h1
    · exact ih h2 e he
def strEqB (a b : Str) : Bool := strEq a.cps.toList b.cps.toList
theorem strEqB_eq {a b : Str} (h : strEqB a b = true) : a = b := by
  have := strEq_eq h
  cases a; cases b
  simp only at this
  congr 1
  exact Array.toList_inj.mp this
/-- a name that no name of the module hides -/
def freeB (M : Gn) (L : Lc) (x : Str) : Bool := M.free.any (strEqB x) && glB L.sc x
section
variable {F : Fx} {n k : Nat} {X : Cx} {W : WX} {L : Lc} {Pt : Prv} {ρ : List Sl} {r : Ev} {c : Bool} {M : Gn}
theorem freeB_ok (GO : GnOk F M) (C : Ctx F k X) (O : LcOk L X) {x : Str} (h : freeB M L x = true) : Gl X x ∧ (x == ("__debug__" : Str)) = false ∧ X.mg x = none ∧ x ≠ "__name__" := by
  obtain ⟨h1, h2⟩ := and2 h
  rw [← O.sc] at h2
  obtain ⟨g1, g2⟩ := glB_ok h2
  obtain ⟨y, hy, e⟩ := List.any_eq_true.mp h1
  have := strEqB_eq e
  subst this
  obtain ⟨f1, f2⟩ := GO.free x hy
  exact ⟨g1, g2, by rw [C.mg]; exact f1, f2⟩
def biW (M : Gn) (L : Lc) (b : Bi) (x : Str) (es : List Xp) : Bool := strEqB x (biName b) && (freeB M L x && (L.calm && (noStar es && !es.isEmpty)))
theorem isTy (b : Bi) : (∃ id, biVal b = .builtin id) ∨ ∃ T, biVal b = .type T := by
  cases b <;> first | exact .inl ⟨_, rfl⟩ | exact .inr ⟨_, rfl⟩
/-- any built-in -/
theorem pe_callBT {v : Value} {rr : List V → Hp → VK → Prop} {x : Str} {p pos : Pos} {e : Expr} {es : List Expr} {t : TA} (hv' : (∃ id, v = .builtin id) ∨ ∃ T, v = .type T) (hc : CallR X v rr) (hg : Gl X x) (hm : X.mg x = none) (hv : bootBuiltins x = some v) (ha : PA X (e :: es) t) (hn : x ≠ "__name__") (hdb : (x == ("__debug__" : Str)) = false)
    (he : starEach (e :: es) X.env = (false, eval e X.env) :: starEach es X.env) (hpl : (backTo pos (starEach es X.env)).any (·.1) = false) : PE X (.Call (.Name x p) (e :: es) [] pos) (tCB rr t) := by
  rcases hv' with ⟨id, rfl⟩ | ⟨T, rfl⟩
  · exact pe_callB hc hg hm hv ha hn hdb he hpl
  · exact pe_callTy hc hg hm hv ha hn hdb he hpl
theorem snd_bi (GO : GnOk F M) (C : Ctx F k X) (O : LcOk L X) {b : Bi} {x : Str} {es : List Xp} {q p : Pos} (hw : biW M L b x es = true) (h : ∀ e ∈ es, SndI F X W Pt ρ r false e) :
    PE X (Xp.bi b x es q p).un (tX F Pt ρ c (fun g => stepE F.T r ρ g (.bi b x es q p)) W) := by
  obtain ⟨h1, hw⟩ := and2 hw
  obtain ⟨h2, hw⟩ := and2 hw
  obtain ⟨h3, hw⟩ := and2 hw
  obtain ⟨h4, h5⟩ := and2 hw
  have hx := strEqB_eq h1
  obtain ⟨f1, f2, f3, f4⟩ := freeB_ok GO C O h2
  cases es with
  | nil => cases h5
  | cons e es =>
    obtain ⟨s1, s2⟩ := and2 h4
    have boot : bootBuiltins x = some (biVal b) := by rw [hx]; exact bi_boot b
    have hpe := pe_callBT (isTy b) (bi_ok C (by rw [O.calm]; exact h3) b) f1 f3 boot (p := q) (pos := p) (snd_L C h) f4 f2 (star_cons (not_of s1) es X.env) (star_none p X.env s2)
    have eu : (Xp.bi b x (e :: es) q p).un = .Call (.Name x q) (e.un :: Xp.uns es) [] p := by simp only [Xp.un, Xp.uns]
    rw [eu]
    refine PE.imp hpe ?_
    rintro σ H Q ⟨z, G, g, rel, rng, out⟩
    refine ⟨z, G, g, rel, rng, outL_bind out ?_⟩
    intro ds g1 vs z1 G1 H1 gr rn rp out
    obtain ⟨m, hm, qq⟩ := out_of out
    exact ⟨z1, G1, g1, ds, m, gr.sub', gr.zG, rn, rp, hm, fun v' G' H' g' r' rp' => qq v' z1 G' H' g' r' (.of rp')⟩
end
end Fp
end
section
set_option Elab.async false
set_option linter.all false
set_option maxRecDepth 100000
set_option autoImplicit false
set_option maxHeartbeats 1000000
/-! isinstance, methods. -/
namespace Fp
open PySem PySem.Spec PyProof.Rows L2
open PySem.SeqAt (EqAt ItemsEq)

/-! ### isinstance -/
def tyName : Ty → String
  | .int => "int"
  | .bool => "bool"
  | .str => "str"
  | .tuple => "tuple"
  | .list => "list"
  | .dict => "dict"
  | .own _ => "object"
def isOwn : Ty → Bool
  | .own _ => true
  | _ => false
def tyD : D → String
  | .non => "NoneType"
  | .bl _ => "bool"
  | .int _ => "int"
  | .str _ => "str"
  | .tup _ => "tuple"
  | .lst _ => "list"
  | .dic _ _ => "dict"
  | _ => "object"
theorem kit_is (T : Tab) (t : Ty) (d : D) (h1 : isOwn t = false) (h2 : isPl d = true) : kitB (tyD d) (tyName t) = some (isOne T t d) := by
  cases t <;> simp [isOwn] at h1 <;> cases d <;> simp [isPl] at h2 <;> (simp only [tyD, tyName, isOne]; decide +kernel)
section
variable {F : Fx} {n k : Nat} {X : Cx} {W : WX} {L : Lc} {Pt : Prv} {ρ : List Sl} {r : Ev} {c : Bool} {M : Gn}
variable {pins : List (Addr × Obj)} {σ : L2.St} {H : Hp} {s : Shared} {z : List Addr} {G : Hp}
theorem kit_D (C : Ctx F k X) (I : Inv X pins σ H s) {v : V} {u : Value} {d : D} (hp : isPl d = true) (h : Rep F z H v d) (r : RelV v u) : ∃ P : Heap → Prop, PySem.W.KitX X.K u (.type (tyD d)) P ∧ P s.heap ∧ u ≠ .builtin "__main__.__loader__#opaque" := by
  cases h with
  | non => exact kit_of I r (.base .non)
  | bl b => exact kit_of I r (.base (.bl b))
  | int i => exact kit_of I r (.base (.int i))
  | str x => exact kit_of I r (.base (.str x))
  | @tup a vs ds h1 h2 =>
    cases r
    rw [← C.K] at h1
    obtain ⟨its, _, ⟨o, e1, e2, _⟩, _⟩ := I.tuple h1
    exact ⟨_, PySem.W.kitx_tuple, ⟨o, e1, e2⟩, fun z => nomatch z⟩
  | lst h1 h2 => exact kit_of I r (.base (.lst h1))
  | @dicT a ents ks vs h1 h2 h3 =>
    cases r
    obtain ⟨⟨_, _, _, _, o, es, ep, q1, q2, _⟩, _⟩ := I.hok a _ h1
    exact ⟨_, PySem.W.kitx_dict, ⟨o, q1, q2.1⟩, fun z => nomatch z⟩
  | dicK h1 h2 h3 => exact kit_of I r (.base (.dK h1))
  | fn f => simp [isPl] at hp
  | tok e => simp [isPl] at hp
  | scr e => simp [isPl] at hp
/-- isinstance(x, T) by data -/
def rIs (F : Fx) (t : Ty) : List V → Hp → VK → Prop := fun vs H Q => ∃ z G v d, vs = [v, .ty (tyName t)] ∧ Sub G H ∧ RepO F z G H v d ∧ isPl d = true ∧ Q (.bl (isOne F.T t d)) H
theorem is_ok (C : Ctx F k X) (t : Ty) (ht : isOwn t = false) : CallR X (.builtin "isinstance") (rIs F t) := by
  intro pins s σ H vs us Q I r h
  obtain ⟨z, G, v, d, rfl, sb, hv, hp, q⟩ := h
  obtain ⟨u1, u2, rfl, r1, r2⟩ := vals2 r
  cases (show u2 = Value.type (tyName t) from r2)
  obtain ⟨P, Z, p, hx⟩ := kit_D C I hp (hv.full sb) r1
  exact PySem.W.kia_one Z I.kIn p (kit_ty (kit_is F.T t d ht hp)) hx fun tk => ⟨.bl _, H, I.tok tk, rfl, q⟩
theorem boot_ty (t : Ty) (h : isOwn t = false) : bootBuiltins (Str.ofString (tyName t)) = some (.type (tyName t)) := by
  cases t <;> simp [isOwn] at h <;> decide +kernel
def isiW (M : Gn) (L : Lc) (a : Xp) (ts : List (Ty × Str × Pos)) (tp : Option (Nat × Pos)) : Bool := match ts, tp with
  | [(t, x, _)], none => freeB M L "isinstance" && (freeB M L x && (!isOwn t && (strEqB x (Str.ofString (tyName t)) && !isStar a)))
  | _, _ => false
theorem snd_isi (GO : GnOk F M) (C : Ctx F k X) (O : LcOk L X) {a : Xp} {ts : List (Ty × Str × Pos)} {tp : Option (Nat × Pos)} {q p : Pos} (hw : isiW M L a ts tp = true) (ha : PE X a.un (tX F Pt ρ false (fun g => r.e ρ g a) W)) :
    PE X (Xp.isi a ts tp q p).un (tX F Pt ρ c (fun g => stepE F.T r ρ g (.isi a ts tp q p)) W) := by
  unfold isiW at hw
  split at hw
  · rename_i t x px
    obtain ⟨h1, hw⟩ := and2 hw
    obtain ⟨h2, hw⟩ := and2 hw
    obtain ⟨h3, hw⟩ := and2 hw
    obtain ⟨h4, h5⟩ := and2 hw
    have h3 := not_of h3
    have hx := strEqB_eq h4
    subst hx
    obtain ⟨f1, f2, f3, f4⟩ := freeB_ok GO C O h1
    obtain ⟨e1, e2, e3, e4⟩ := freeB_ok GO C O h2
    have nm : PE X (.Name (Str.ofString (tyName t)) px) (tC (.ty (tyName t))) := pe_bltn e1 e3 (boot_ty t h3) rfl e4 e2
    have star : starEach [a.un, .Name (Str.ofString (tyName t)) px] X.env = (false, eval a.un X.env) :: starEach [.Name (Str.ofString (tyName t)) px] X.env := by
      have h5 := not_of h5
      cases a <;> first | rfl | simp [isStar] at h5
    have pe := pe_callB (is_ok C t h3) f1 f3 boot_isinstance (p := q) (pos := p) (pa_cons ha (pa_cons nm pa_nil) star) f4 f2 star
    refine PE.imp pe ?_
    rintro σ H Q ⟨z, G, g, rel, rng, out⟩
    refine ⟨z, G, g, rel, rng, out_bind out ?_⟩
    intro d g1 v z1 G1 H1 gr rn rp out
    cases hp : isPl d with
    | false => rw [hp] at out; exact out.elim
    | true =>
      rw [hp] at out
      refine ⟨z1, G1, v, d, rfl, gr.sub', rp.o, hp, ?_⟩
      have e : ([(t, Str.ofString (tyName t), px)].any fun t => isOne F.T t.1 d) = isOne F.T t d := by simp
      rw [e] at out
      exact out (.bl _) z1 G1 H1 (.refl gr.sub' gr.zG) rn (.of (.bl _))
  · cases hw

/-! ### methods -/
def isCall0 : Xp → Bool
  | .call _ _ [] _ _ => true
  | .callV _ _ [] _ _ => true
  | .bi _ _ [] _ _ => true
  | _ => false
theorem base_ok {a : Xp} (h : isCall0 a = false) (m : Str) (env : Env) (t : Sem Value) : attributeBase a.un m env t = t := by
  cases a with
  | call f x es q p => cases es with
    | nil => simp [isCall0] at h
    | cons e es => simp only [Xp.un, Xp.uns]; rfl
  | callV f x es q p => cases es with
    | nil => simp [isCall0] at h
    | cons e es => simp only [Xp.un, Xp.uns]; rfl
  | bi f x es q p => cases es with
    | nil => simp [isCall0] at h
    | cons e es => simp only [Xp.un, Xp.uns]; rfl
  | _ => first | rfl | (simp only [Xp.un]; rfl)
/-- d.get(k), d.get(k, x) -/
theorem get_dic (C : Ctx F k X) (I : Inv X pins σ H s) {v u : V} {a b : Value} {d : D} {ks vs : List D} (sb : Sub G H) (h1 : Rep F z H v d) (h2 : RepO F z G H u (.dic ks vs)) (r1 : RelV v a) (r2 : RelV u b) (hf : keyFits d ks = true) {Q : Value → Shared → Prop} {E : Value → Shared → Prop}
    (hQ : ∀ w' s', Inv X pins σ H s' → (match look d ks vs with | some e => ∃ x, Rep F z G x e ∧ RelV x w' | none => w' = .none) → Q w' s') : wpAny (model X.prog X.w) X.A (call (.builtin "dict.get") [b, a]) Q E s := by
  obtain ⟨ho, hk⟩ := keyFits_and hf
  obtain ⟨p, rfl, h3⟩ := h2.dic sb
  cases (show b = .ref p from r2)
  rcases hk with ⟨tk, at_⟩ | ⟨⟨kk, fk⟩, at_⟩
  · obtain ⟨nz, xs, hz, ent, dd⟩ := C.dicT I sb h3 at_
    obtain ⟨xs', rfl⟩ := tk
    obtain ⟨bk, rfl⟩ := rep_ref h1
    cases (show a = .ref bk from r1)
    have l := (ent.look ho ⟨xs', rfl⟩).2
    refine call_meetsIn PySem.F.slot_dict_get dd.typeIs PySem.F.entry_dict_get (PySem.F.args_dict_get_2 _ _) (meetsH_dict_get (nestedKind X.prog X.w) p bk nz) ⟨C.roomN, _, xs, C.key I h1 ho, dd, hQ _ _ (I.tok _) ?_⟩
    cases e : look (D.tup xs') ks vs with
    | none => rw [e] at l; simp only at l ⊢; rw [l]; rfl
    | some m =>
      rw [e] at l
      obtain ⟨b', u', v', l1, l2, l3⟩ := l
      simp only [l1]
      exact ⟨v', l2, l3⟩
  · obtain ⟨nz, xs, hz, ent, dd⟩ := C.dicK I h3 at_
    rw [rep_flat h1 fk] at r1
    have l := (ent.look fk).2
    refine call_meetsIn PySem.F.slot_dict_get dd.typeIs PySem.F.entry_dict_get (PySem.F.args_dict_get_2 _ _) (meets_dict_get (mixKind X.prog X.w) p (kV_is r1) nz) ⟨_, dd.mapOf, hQ _ _ (I.tok _) ?_⟩
    cases e : look d ks vs with
    | none => rw [e] at l; simp only at l ⊢; rw [l]; rfl
    | some m =>
      rw [e] at l
      obtain ⟨u', v', l1, l2, l3⟩ := l
      simp only [l1]
      exact ⟨v', l2, l3⟩
theorem get_dic2 (C : Ctx F k X) (I : Inv X pins σ H s) {v u : V} {a b dv : Value} {d : D} {ks vs : List D} (sb : Sub G H) (h1 : Rep F z H v d) (h2 : RepO F z G H u (.dic ks vs)) (r1 : RelV v a) (r2 : RelV u b) (hf : keyFits d ks = true) {Q : Value → Shared → Prop} {E : Value → Shared → Prop}
    (hQ : ∀ w' s', Inv X pins σ H s' → (match look d ks vs with | some e => ∃ x, Rep F z G x e ∧ RelV x w' | none => w' = dv) → Q w' s') : wpAny (model X.prog X.w) X.A (call (.builtin "dict.get") [b, a, dv]) Q E s := by
  obtain ⟨ho, hk⟩ := keyFits_and hf
  obtain ⟨p, rfl, h3⟩ := h2.dic sb
  cases (show b = .ref p from r2)
  rcases hk with ⟨tk, at_⟩ | ⟨⟨kk, fk⟩, at_⟩
  · obtain ⟨nz, xs, hz, ent, dd⟩ := C.dicT I sb h3 at_
    obtain ⟨xs', rfl⟩ := tk
    obtain ⟨bk, rfl⟩ := rep_ref h1
    cases (show a = .ref bk from r1)
    have l := (ent.look ho ⟨xs', rfl⟩).2
    refine call_meetsIn PySem.F.slot_dict_get dd.typeIs PySem.F.entry_dict_get (PySem.F.args_dict_get_3 _ _ _) (meetsH_dict_get_default (nestedKind X.prog X.w) p bk nz dv) ⟨C.roomN, _, xs, C.key I h1 ho, dd, hQ _ _ (I.tok _) ?_⟩
    cases e : look (D.tup xs') ks vs with
    | none => rw [e] at l; simp only at l ⊢; rw [l]; rfl
    | some m =>
      rw [e] at l
      obtain ⟨b', u', v', l1, l2, l3⟩ := l
      simp only [l1]
      exact ⟨v', l2, l3⟩
  · obtain ⟨nz, xs, hz, ent, dd⟩ := C.dicK I h3 at_
    rw [rep_flat h1 fk] at r1
    have l := (ent.look fk).2
    refine call_meetsIn PySem.F.slot_dict_get dd.typeIs PySem.F.entry_dict_get (PySem.F.args_dict_get_3 _ _ _) (meets_dict_get_default (mixKind X.prog X.w) p (kV_is r1) nz dv) ⟨_, dd.mapOf, hQ _ _ (I.tok _) ?_⟩
    cases e : look d ks vs with
    | none => rw [e] at l; simp only at l ⊢; rw [l]; rfl
    | some m =>
      rw [e] at l
      obtain ⟨u', v', l1, l2, l3⟩ := l
      simp only [l1]
      exact ⟨v', l2, l3⟩
theorem idx_idxOf {x : D} : ∀ {xs : List D} {i j : Nat}, idx x i xs = some j → true ∈ xs.map (D.eqb · x) ∧ j = i + (xs.map (D.eqb · x)).idxOf true
  | [], i, j, h => by simp [idx] at h
  | y :: r, i, j, h => by
    rw [idx] at h
    cases e : D.eqb y x with
    | true => rw [e] at h; simp only [Option.some.injEq] at h; simp [e, h]
    | false =>
      rw [e] at h
      obtain ⟨h1, h2⟩ := idx_idxOf h
      refine ⟨by simp only [List.map_cons]; exact List.mem_cons_of_mem _ h1, ?_⟩
      have e2 : ((y :: r).map (D.eqb · x)).idxOf true = (r.map (D.eqb · x)).idxOf true + 1 := by simp [List.idxOf_cons, e]
      rw [e2]
      omega
theorem items_eq {A : Around} {x : D} {v : Value} {as : List Addr} {n : Nat} (hu : A.units + n < cLine) (hx : D.dp x n = true) (rx : Reads s.heap v x.toP as) : ∀ {xs : List D} {vs : List Value} {bs : List Addr}, D.dps xs n = true → ReadsAll s.heap vs (D.toPs xs) bs → ItemsEq A s vs (xs.map (D.eqb · x)) v true
  | [], vs, bs, _, r => by
    rw [D.toPs] at r
    cases r
    exact ⟨rfl, fun j h => absurd h (Nat.not_lt_zero _)⟩
  | y :: r, vs, bs, hp, rd => by
    obtain ⟨h1, h2⟩ := dps_cons hp
    rw [D.toPs] at rd
    cases rd with
    | cons r1 r2 =>
      obtain ⟨l, at_⟩ := items_eq hu hx rx h2 r2
      refine ⟨by simp [l], fun j j1 j2 => ?_⟩
      cases j with
      | zero =>
        have := eqAt_D h1 hx r1 rx hu
        simpa using this
      | succ j => exact at_ j (by simpa using j1) (by simpa using j2)
def meW (L : Lc) (m : Me) (x : Str) (a : Xp) (es : List Xp) (q p : Pos) : Bool := (match m with
  | .get => strEqB x "get"
  | .index => strEqB x "index"
  | .count => false) && (!isCall0 a && (noStar es && (Nat.beq q.endLine p.line && (match es with | [_] => true | [_, _] => true | _ => false))))
theorem few_ok {es : List Xp} {p : Pos} {env : Env} (h1 : noStar es = true) (h2 : es.length ≤ 2) : ((backTo p (starEach (Xp.uns es) env)).all (fun x => !x.1) && (backToKw p (keywordEach [] env)).all (fun x => x.1.isSome)
    && decide ((Xp.uns es).length + ([] : List Keyword).length + (if ([] : List Keyword).isEmpty then 0 else 1) < 30)) = true := by
  have a := star_none p env h1
  have b : (backTo p (starEach (Xp.uns es) env)).all (fun x => !x.1) = true := by
    rw [List.all_eq_true]
    intro x hx
    rw [List.any_eq_false] at a
    have := a x hx
    simpa using this
  have l : (Xp.uns es).length = es.length := by
    clear h1 h2 a b
    induction es with
    | nil => rfl
    | cons e r ih => simp [Xp.uns, ih]
  rw [b, l]
  simp [keywordEach, backToKw]
  omega
theorem uns_len : ∀ es : List Xp, (Xp.uns es).length = es.length
  | [] => rfl
  | e :: r => by simp [Xp.uns, uns_len r]
/-- what comes of an expression, and something more about it -/
def OutP (F : Fx) (P : V → D → Prop) (z : List Addr) (G H : Hp) (r : Rs D) (Q : V → Hp → Prop) (W : XK) : Prop := match r with
  | .ok d g' => ∀ v z' G' H', Grow z G H z' G' H' → RngAt F z' g' H' → RepO F z' G' H' v d → P v d → Q v H'
  | .ex cl fs g' => ∀ da z' G' H', Grow z G H z' G' H' → RngAt F z' g' H' → ExcAt F z' G' H' cl fs da → W (.ref (F.ca cl)) da H'
  | .no => False
def tXP (F : Fx) (Pt : Prv) (ρ : List Sl) (P : V → D → Prop) (r : Gs → Rs D) (W : WX) : TE := fun σ H Q =>
  ∃ z G g, Rel F Pt z ρ σ G H ∧ RngAt F z g H ∧ OutP F P z G H (r g) Q fun cl d H' => W cl d σ H'
/-- a constant's value -/
def KTup (F : Fx) (v : V) (d : D) : Prop := ∀ a xs, v = .ref a → d = .tup xs → ∃ o, F.K.lookup a = some o ∧ o.cls = .type "tuple" ∧ o.dict = none
theorem gc_P (GO : GnOk F M) (C : Ctx F k X) (O : LcOk L X) {j : Nat} {x : Str} {p : Pos} (hw : gcOk M F.T L j x = true) (hr : ∀ g, r.e ρ g (.gc j x p) = Rs.of F.T.cons[j]? g ∨ r.e ρ g (.gc j x p) = .no) : PE X (Xp.gc j x p).un (tXP F Pt ρ (KTup F) (fun g => r.e ρ g (.gc j x p)) W) := by
  obtain ⟨h1, h2⟩ := and2 hw
  have h1 := of_decide_eq_true h1
  rw [← O.sc] at h2
  obtain ⟨g1, g2⟩ := glB_ok h2
  cases e : F.T.cons[j]? with
  | none =>
    refine ⟨fun pins s σ H Q I hw => ?_⟩
    obtain ⟨z, G, g, rel, rng, out⟩ := hw
    dsimp only at out
    rcases hr g with q | q
    · rw [q, e] at out; exact out.elim
    · rw [q] at out; exact out.elim
  | some d =>
    obtain ⟨v, u, hm, rv, rp, kt⟩ := GO.cons j x d h1 e
    refine PE.imp (pe_glob g1 (by rw [C.mg]; exact hm) rv g2) ?_
    rintro σ H Q ⟨z, G, g, rel, rng, out⟩
    dsimp only at out
    rcases hr g with q | q
    · rw [q, e] at out
      exact out v z G H (.refl rel.sub rel.zG) rng (.inl (rp z G)) kt
    · rw [q] at out; exact out.elim
theorem any_P {e : Expr} {f : Gs → Rs D} (h : PE X e (tX F Pt ρ false f W)) : PE X e (tXP F Pt ρ (fun _ _ => True) f W) := by
  refine PE.imp h ?_
  rintro σ H Q ⟨z, G, g, rel, rng, out⟩
  refine ⟨z, G, g, rel, rng, ?_⟩
  cases e : f g with
  | ok d g' => rw [e] at out; exact fun v z' G' H' gr rn rp => out v z' G' H' gr rn rp trivial
  | ex cl fs g' => rw [e] at out; exact out
  | no => rw [e] at out; exact out
theorem snd_meth (GO : GnOk F M) (C : Ctx F k X) (O : LcOk L X) {m : Me} {x : Str} {a : Xp} {es : List Xp} {q p : Pos} (hw : meW L m x a es q p = true) {P : V → D → Prop} (hP : isGc a = true → ∀ v d, P v d → KTup F v d) (ha : PE X a.un (tXP F Pt ρ P (fun g => r.e ρ g a) W)) (hs : ∀ e ∈ es, SndI F X W Pt ρ r true e) :
    PE X (Xp.meth m x a es q p).un (tX F Pt ρ c (fun g => stepE F.T r ρ g (.meth m x a es q p)) W) := by
  obtain ⟨h1, hw⟩ := and2 hw
  obtain ⟨h2, hw⟩ := and2 hw
  obtain ⟨h3, hw⟩ := and2 hw
  obtain ⟨h4, h5⟩ := and2 hw
  have hl : es.length ≤ 2 := by
    split at h5
    · simp
    · simp
    · cases h5
  obtain ⟨e0, es', rfl⟩ : ∃ e0 es', es = e0 :: es' := by
    cases es with
    | nil => cases h5
    | cons e0 es' => exact ⟨e0, es', rfl⟩
  have hst := star_cons (not_of (and2 h3).1) es' X.env
  refine ⟨fun pins s σ H Q I hw => ?_⟩
  obtain ⟨z, G, g, rel, rng, out⟩ := hw
  have eu : (Xp.meth m x a (e0 :: es') q p).un = .Call (.Attribute a.un x q) (Xp.uns (e0 :: es')) [] p := by simp only [Xp.un]
  rw [eu]
  refine wpAny_Call_method_late (base_ok (not_of h2) x X.env _) (few_ok h3 hl) (by rw [Nat.eq_of_beq_eq_true h4]; simp) rfl (thn (ha.run pins s σ H (fun v H1 => ∃ d g1 z1 G1, P v d ∧ Grow z G H z1 G1 H1 ∧ RngAt F z1 g1 H1 ∧ RepO F z1 G1 H1 v d ∧
    Out F c z1 G1 H1 (match meOk (isGc a) m d with
      | true => (evL r ρ g1 (e0 :: es')).bind fun ds g => Rs.of (methOf (isGc a) m d ds) g
      | false => .no) Q fun cl d H' => W cl d σ H') I ⟨z, G, g, rel, rng, ?_⟩) fun u s1 hu => ?_)
  · have out : Out F c z G H ((r.e ρ g a).bind fun x g => match meOk (isGc a) m x with
      | true => (evL r ρ g (e0 :: es')).bind fun ds g => Rs.of (methOf (isGc a) m x ds) g
      | false => .no) Q fun cl d H' => W cl d σ H' := out
    dsimp only
    cases e : r.e ρ g a with
    | no => rw [e] at out; exact out
    | ex cl fs g' => rw [e] at out; exact out
    | ok d g1 =>
      rw [e] at out
      intro v z1 G1 H1 gr rn rp pp
      exact ⟨d, g1, z1, G1, pp, gr, rn, rp, out.grow gr⟩
  · obtain ⟨v, H1, I1, r1, d, g1, z1, G1, pv, gr, rn, rp, out⟩ := hu
    have out := out
    cases hm : meOk (isGc a) m d with
    | false => rw [hm] at out; exact out.elim
    | true =>
      rw [hm] at out
      simp only at out
      /- the arguments -/
      have args : ∀ (id : String), (∀ s2 vs us H2 z2 G2 g2 ds mm, Inv X pins σ H2 s2 → Vals vs us → Grow z1 G1 H1 z2 G2 H2 → RngAt F z2 g2 H2 → RepAll F z2 G2 vs ds → methOf (isGc a) m d ds = some mm →
          (∀ v' z' G' H', Grow z2 G2 H2 z' G' H' → RngAt F z' g2 H' → RepB F c z' G' H' v' mm → Q v' H') → wpAny (model X.prog X.w) X.A (call (.builtin id) (u :: us)) (EP X pins σ Q) X.xe s2) →
          wpAny (model X.prog X.w) X.A (callWith p (.builtin id) [u] (backTo p (starEach (Xp.uns (e0 :: es')) X.env)) []) (EP X pins σ Q) X.xe s1 := by
        intro id hk
        have hA := (snd_L C hs).run p pins s1 σ H1 (fun vs H2 => ∃ ds g2 z2 G2, Grow z1 G1 H1 z2 G2 H2 ∧ RngAt F z2 g2 H2 ∧ RepAll F z2 G2 vs ds ∧ Out F c z2 G2 H2 (Rs.of (methOf (isGc a) m d ds) g2) Q fun cl d H' => W cl d σ H') I1
          ⟨z1, G1, g1, rel.grow gr, rn, outL_bind out fun ds g2 vs z2 G2 H2 gr2 rn2 rp2 out => ⟨ds, g2, z2, G2, gr2, rn2, rp2.all, out⟩⟩
        have h6 := star_none p X.env h3
        rw [hst] at hA h6 ⊢
        refine Calls.callWith_builtin h6 (Calls.evalArgs_plain ?_)
        refine thn hA fun us s2 ⟨vs, H2, I2, r2, ds, g2, z2, G2, gr2, rn2, rp2, out⟩ => ?_
        obtain ⟨mm, e, qq⟩ := out_of out
        exact hk s2 vs us H2 z2 G2 g2 ds mm I2 r2 gr2 rn2 rp2 e qq
      match m, d, hm with
      | .get, .dic ks ws, _ =>
        have hx := strEqB_eq h1
        subst hx
        have ty : s1.TypeIs u "dict" ∧ ∀ b, u = .ref b → ∃ ob, s1.heap.get? b = some ob ∧ ob.dict = none := by
          obtain ⟨pp, rfl, hh⟩ := rp.dic gr.sub'
          cases r1
          rcases dic_kind hh with at_ | at_
          · obtain ⟨_, xs, _, _, dd⟩ := C.dicT I1 gr.sub' hh at_
            exact ⟨dd.typeIs, fun b e => by cases e; obtain ⟨ob, _, _, e1, e2, _⟩ := dd; exact ⟨ob, e1, e2.2.1⟩⟩
          · obtain ⟨_, xs, _, _, dd⟩ := C.dicK I1 hh at_
            exact ⟨dd.typeIs, fun b e => by cases e; obtain ⟨ob, _, _, e1, e2, _⟩ := dd; exact ⟨ob, e1, e2.2.1⟩⟩
        refine ⟨"dict", _, PySem.F.plainAttrs_dict, PySem.F.slot_dict_get, PySem.F.type_dict_get, ty.1, ty.2, args _ ?_⟩
        intro s2 vs us H2 z2 G2 g2 ds mm I2 rv gr2 rn2 rp2 hmm qq
        have rpo := rp.grow gr2
        match ds, hmm with
        | [kd], hmm =>
          cases rp2 with
          | cons p1 p2 =>
            cases p2
            obtain ⟨w1, rfl, rw1⟩ := vals1 rv
            simp only [methOf] at hmm
            cases hf : keyFits kd ks with
            | false => rw [hf] at hmm; cases hmm
            | true =>
              rw [hf] at hmm
              have e2 := Option.some.inj hmm
              refine get_dic C I2 gr2.sub' (p1.mono (.refl z2) gr2.sub') rpo rw1 r1 hf fun w' s3 I3 hh => ?_
              cases el : look kd ks ws with
              | none =>
                rw [el] at hh e2
                simp only at hh e2
                subst hh e2
                exact ⟨.non, H2, I3, rfl, qq .non z2 G2 H2 (.refl gr2.sub' gr2.zG) rn2 (.of .non)⟩
              | some e =>
                rw [el] at hh e2
                simp only at hh e2
                subst e2
                obtain ⟨xv, x1, x2⟩ := hh
                exact ⟨xv, H2, I3, x2, qq xv z2 G2 H2 (.refl gr2.sub' gr2.zG) rn2 (.of x1)⟩
        | [kd, dd], hmm =>
          cases rp2 with
          | cons p1 p2 =>
            cases p2 with
            | cons p2 p3 =>
              cases p3
              obtain ⟨w1, w2, rfl, rw1, rw2⟩ := vals2 rv
              simp only [methOf] at hmm
              cases hf : keyFits kd ks with
              | false => rw [hf] at hmm; cases hmm
              | true =>
                rw [hf] at hmm
                have e2 := Option.some.inj hmm
                refine get_dic2 C I2 gr2.sub' (p1.mono (.refl z2) gr2.sub') rpo rw1 r1 hf fun w' s3 I3 hh => ?_
                cases el : look kd ks ws with
                | none =>
                  rw [el] at hh e2
                  simp only at hh e2
                  subst hh e2
                  exact ⟨_, H2, I3, rw2, qq _ z2 G2 H2 (.refl gr2.sub' gr2.zG) rn2 (.of p2)⟩
                | some e =>
                  rw [el] at hh e2
                  simp only at hh e2
                  subst e2
                  obtain ⟨xv, x1, x2⟩ := hh
                  exact ⟨xv, H2, I3, x2, qq xv z2 G2 H2 (.refl gr2.sub' gr2.zG) rn2 (.of x1)⟩
      | .index, .lst xs, _ =>
        have hx := strEqB_eq h1
        subst hx
        obtain ⟨pp, ys, rfl, l1, l2⟩ := rp.lst gr.sub'
        cases r1
        obtain ⟨its, rvl, hll, hzl⟩ := I1.list (X := X) (SqL.of (K := X.K) l1)
        obtain ⟨_, _, nn, _, el⟩ := (show ObjOk X.prog X.w H1 s1.heap pp (.lst ys) from I1.hok pp _ l1)
        refine ⟨"list", _, PySem.F.plainAttrs_list, PySem.F.slot_list_index, PySem.F.type_list_index, hll.isList.typeIs, (fun b e => by cases e; exact ⟨_, el, rfl⟩), args _ ?_⟩
        intro s2 vs us H2 z2 G2 g2 ds mm I2 rv gr2 rn2 rp2 hmm qq
        have rpo := rp.grow gr2
        match ds, hmm with
        | [kd], hmm =>
          cases rp2 with
          | cons p1 p2 =>
            cases p2
            obtain ⟨w1, rfl, rw1⟩ := vals1 rv
            simp only [methOf] at hmm
            cases hf : (D.dp kd 40 && D.dps xs 40) with
            | false => rw [hf] at hmm; cases hmm
            | true =>
              rw [hf] at hmm
              simp only at hmm
              obtain ⟨d1, d2⟩ := and2 hf
              cases hi : idx kd 0 xs with
              | none => rw [hi] at hmm; cases hmm
              | some j =>
                rw [hi] at hmm
                have e2 := Option.some.inj hmm
                subst e2
                obtain ⟨pp', ys', e3, l3, l4⟩ := rpo.lst gr2.sub'
                cases e3
                obtain ⟨as, ra⟩ := C.reads I2 (p1.mono (.refl z2) gr2.sub') rw1 d1
                obtain ⟨its2, rv2, hl2, hz2⟩ := I2.list (X := X) (SqL.of (K := X.K) l3)
                obtain ⟨bs, rb⟩ := C.reads (n := 41) I2 (rpo.full gr2.sub') (show RelV (.ref pp) (.ref pp) from rfl) (by simpa [D.dp] using d2)
                rw [D.toP] at rb
                cases rb with
                | list b1 b2 b3 b4 =>
                  have un := C.un
                  have ie := items_eq (A := X.A.in1) (s := s2) (n := 40) (by show X.A.units + 1 + 40 < cLine; omega) d1 ra d2 b4
                  obtain ⟨i1, i2⟩ := idx_idxOf hi
                  refine PySem.SeqAt.call_list_index ⟨_, b1, b2, _, b3⟩ ie (by rw [List.length_map, ← l4.length]; exact (by have := hz2; omega)) i1 ?_
                  rw [Nat.zero_add] at i2
                  rw [← i2]
                  exact ⟨.int j, H2, I2.tok _, ⟨_, rfl⟩, qq _ z2 G2 H2 (.refl gr2.sub' gr2.zG) rn2 (.of (.int _))⟩
      | .index, .tup xs, hm =>
        have hx := strEqB_eq h1
        subst hx
        have hm : isGc a = true := hm
        have kt := hP hm v _ pv
        obtain ⟨pp, ys, rfl, l1, l2⟩ := rp.tup gr.sub'
        cases r1
        obtain ⟨o, k1, k2, k3⟩ := kt pp xs rfl rfl
        rw [← C.K] at l1 k1
        obtain ⟨its, rvl, hll, hzl⟩ := I1.tuple l1
        refine ⟨"tuple", _, PySem.F.plainAttrs_tuple, PySem.F.slot_tuple_index, PySem.F.type_tuple_index, hll.typeIs, (fun b e => by cases e; exact ⟨o, I1.kIn pp o k1, k3⟩), args _ ?_⟩
        intro s2 vs us H2 z2 G2 g2 ds mm I2 rv gr2 rn2 rp2 hmm qq
        have rpo := rp.grow gr2
        match ds, hmm with
        | [kd], hmm =>
          cases rp2 with
          | cons p1 p2 =>
            cases p2
            obtain ⟨w1, rfl, rw1⟩ := vals1 rv
            simp only [methOf] at hmm
            cases hf : (isGc a && (D.dp kd 40 && D.dps xs 40)) with
            | false => rw [hf] at hmm; cases hmm
            | true =>
              rw [hf] at hmm
              simp only at hmm
              obtain ⟨d1, d2⟩ := and2 (and2 hf).2
              cases hi : idx kd 0 xs with
              | none => rw [hi] at hmm; cases hmm
              | some j =>
                rw [hi] at hmm
                have e2 := Option.some.inj hmm
                subst e2
                obtain ⟨as, ra⟩ := C.reads I2 (p1.mono (.refl z2) gr2.sub') rw1 d1
                obtain ⟨bs, rb⟩ := C.reads (n := 41) I2 (rpo.full gr2.sub') (show RelV (.ref pp) (.ref pp) from rfl) (by simpa [D.dp] using d2)
                rw [D.toP] at rb
                cases rb with
                | tuple b1 b2 b3 b4 =>
                  have un := C.un
                  have ie := items_eq (A := X.A.in1) (s := s2) (n := 40) (by show X.A.units + 1 + 40 < cLine; omega) d1 ra d2 b4
                  obtain ⟨i1, i2⟩ := idx_idxOf hi
                  refine PySem.SeqAt.call_tuple_index ⟨_, b1, b2, _, b3⟩ ie i1 ?_
                  rw [Nat.zero_add] at i2
                  rw [← i2]
                  exact ⟨.int j, H2, I2.tok _, ⟨_, rfl⟩, qq _ z2 G2 H2 (.refl gr2.sub' gr2.zG) rn2 (.of (.int _))⟩
end
end Fp
end
section
set_option Elab.async false
set_option linter.all false
set_option maxRecDepth 100000
set_option autoImplicit false
set_option maxHeartbeats 1000000
/-! Calls of defs. -/
namespace Fp
open PySem PySem.Spec PyProof.Rows L2

/-- what a def promises -/
def spF (F : Fx) (call : List D → Gs → Rs D) : Sp := fun vs H Q E => ∃ z G g ds, Sub G H ∧ (∀ a ∈ z, G a = none) ∧ RngAt F z g H ∧ RepAll F z G vs ds ∧ Out F true z G H (call ds g) Q E
/-- all defs, with room for n calls -/
def FnsOk (F : Fx) (M : Gn) (n : Nat) : Prop := ∀ f, f < M.fns.length → ∃ (fd : FuncData) (ps : List Str), PySem.W.keepIn F.K (.ref (F.fa f)) = true ∧ Binds F.K fd ps [] ∧ FnOk F.P F.w F.K F.mg F.base (CX F.P F.w) (2 * n + 2) (F.fa f) fd ps (spF F fun ds g => (ev F.T n).call f ds g)
section
variable {F : Fx} {n k : Nat} {X : Cx} {W : WX} {L : Lc} {Pt : Prv} {ρ : List Sl} {r : Ev} {c : Bool} {M : Gn}
/-- the callee runs; what it raises goes to W -/
theorem run_W (C : Ctx F k X) (tk : Takes X W) {f : Addr} {fd : FuncData} {ps : List Str} {sp : Sp} (fn : FnOk F.P F.w F.K F.mg F.base (CX F.P F.w) n f fd ps sp) (hn : n ≤ k) (hb : Binds F.K fd ps []) {pins : List (Addr × Obj)} {σ : L2.St} {H : Hp} {s : Shared} {Q : VK} {us : List Value} {vs : List V}
    (I : Inv X pins σ H s) (rv : Vals vs us) (h : sp vs H Q fun cl d H' => W cl d σ H') : wpAny (model X.prog X.w) X.A (call (.ref f) us) (EP X pins σ Q) X.xe s := by
  have len : us.length = ps.length := by rw [← rv.length]; exact fn.len _ _ _ _ h
  have rm : Room n X.A := C.room.mono hn
  have env0 := I.env0
  have kin := I.kIn
  rw [C.prog, C.w, C.K, C.mg, C.base] at env0
  rw [C.K] at kin
  have bt := hb s us kin (by rw [List.append_nil]; exact len)
  rw [List.append_nil] at bt
  rw [C.prog, C.w]
  refine wpAny_call (codeAny_mono (fn.run X.A X.stack s H ⟨us, []⟩ us vs Q _ rm env0 bt rv h) fun res s' hq => ?_)
  rw [← C.prog, ← C.w] at hq
  match res, hq with
  | .error e, hq => exact tk e s' (XE.of_call I (fun _ _ _ w => w) hq)
  | .ok (.ret u), hq => exact I.after hq

/-- f(..) by a name that holds it -/
theorem snd_fn (C : Ctx F k X) (tk : Takes X W) {f : Addr} {fd : FuncData} {ps : List Str} {call : List D → Gs → Rs D} (fn : FnOk F.P F.w F.K F.mg F.base (CX F.P F.w) n f fd ps (spF F call)) (hn : n ≤ k) (hb : Binds F.K fd ps []) (hk : PySem.W.keepIn F.K (.ref f) = true) {x : Str} {p pos : Pos} {t0 : TE}
    (hx : PE X (.Name x p) t0) (h0 : ∀ σ H, (∃ z G g, Rel F Pt z ρ σ G H ∧ RngAt F z g H) → t0 σ H fun v H1 => v = .ref f ∧ H1 = H) {es : List Xp} (hs : noStar es = true) (h : ∀ e ∈ es, SndI F X W Pt ρ r true e) :
    PE X (.Call (.Name x p) (Xp.uns es) [] pos) (tX F Pt ρ c (fun g => (evL r ρ g es).bind fun ds g => call ds g) W) := by
  refine ⟨fun pins s σ H Q I hw => ?_⟩
  obtain ⟨z, G, g, rel, rng, out⟩ := hw
  refine wpAny_Call_Name_kw (thn (hx.run pins s σ H _ I (h0 σ H ⟨z, G, g, rel, rng⟩)) fun u s1 ⟨v, H1, I1, r1, ev, eh⟩ => ?_)
  subst ev eh
  cases r1
  rw [← C.K] at hk
  have clean : ∀ {z1 : List Addr} {G1 H1 : Hp} {rs : Rs D}, Out F c z1 G1 H1 rs Q (fun cl d H' => W cl d σ H') → Out F true z1 G1 H1 rs Q fun cl d H' => W cl d σ H' := by
    intro z1 G1 H1 rs o
    cases rs with
    | ok d g' => exact fun v z' G' H' gr rn rp => o v z' G' H' gr rn (.of rp)
    | ex cl fs g' => exact o
    | no => exact o
  cases es with
  | nil =>
    refine PySem.W.callWith_K0 I1.kIn hk ?_
    refine run_W C tk fn hn hb (us := []) (vs := []) I1 .nil ⟨z, G, g, [], rel.sub, rel.zG, rng, .nil, clean out⟩
  | cons e es =>
    obtain ⟨s1', s2'⟩ := and2 hs
    have hA := (snd_L C h).run pos pins s1 σ H1 (fun vs H2 => spF F call vs H2 Q fun cl d H' => W cl d σ H') I1
      ⟨z, G, g, rel, rng, outL_bind out fun ds g2 vs z2 G2 H2 gr2 rn2 rp2 out => ⟨z2, G2, g2, ds, gr2.sub', gr2.zG, rn2, rp2.all, clean out⟩⟩
    refine PySem.W.callWith_K (e := e.un) (rest := Xp.uns es) (h₀ := X.base) I.ok.mod.kin hk (thn hA fun us s2 ⟨vs, H2, I2, rv, q⟩ => ⟨I2.kIn, ?_⟩) (star_cons (not_of s1') es X.env) (star_none pos X.env s2')
    exact run_W C tk fn hn hb I2 rv q
def callW (M : Gn) (L : Lc) (f : Nat) (x : Str) (es : List Xp) : Bool := gfOk M L f x && noStar es
theorem snd_call (GO : GnOk F M) (FO : FnsOk F M n) (C : Ctx F (2 * n + 4) X) (O : LcOk L X) (tk : Takes X W) {f : Nat} {x : Str} {es : List Xp} {q p : Pos} (hw : callW M L f x es = true) (h : ∀ e ∈ es, SndI F X W Pt ρ (ev F.T n) true e) :
    PE X (Xp.call f x es q p).un (tX F Pt ρ c (fun g => stepE F.T (ev F.T n) ρ g (.call f x es q p)) W) := by
  obtain ⟨h1, h2⟩ := and2 hw
  obtain ⟨h3, h4⟩ := and2 h1
  have h3 := of_decide_eq_true h3
  rw [← O.sc] at h4
  obtain ⟨g1, g2⟩ := glB_ok h4
  obtain ⟨fd, ps, hk, hb, fn⟩ := FO f (List.getElem?_eq_some_iff.mp h3).1
  have e : (Xp.call f x es q p).un = .Call (.Name x q) (Xp.uns es) [] p := by simp only [Xp.un]
  rw [e]
  exact snd_fn C tk fn (show 2 * n + 2 ≤ 2 * n + 4 by omega) hb hk (pe_glob (v := .ref (F.fa f)) g1 (by rw [C.mg]; exact GO.fns f x h3) rfl g2) (fun _ _ _ => ⟨rfl, rfl⟩) h2 h
/-- f(..), f a local name -/
def callVW (L : Lc) (i : Nat) (x : Str) (es : List Xp) : Bool := nameOk L i x && noStar es
theorem snd_callV (FO : FnsOk F M n) (hM : F.T.nf ≤ M.fns.length) (C : Ctx F (2 * n + 4) X) (O : LcOk L X) (tk : Takes X W) {i : Nat} {x : Str} {es : List Xp} {q p : Pos} (hw : callVW L i x es = true) (h : ∀ e ∈ es, SndI F X W Pt ρ (ev F.T n) true e) :
    PE X (Xp.callV i x es q p).un (tX F Pt ρ c (fun g => stepE F.T (ev F.T n) ρ g (.callV i x es q p)) W) := by
  obtain ⟨h1, h2⟩ := and2 hw
  obtain ⟨k1, h1⟩ := and2 h1
  obtain ⟨k2, h1⟩ := and2 h1
  obtain ⟨k3, k4⟩ := and2 h1
  have e : (Xp.callV i x es q p).un = .Call (.Name x q) (Xp.uns es) [] p := by simp only [Xp.un]
  rw [e]
  have stuck : (∀ g, stepE F.T (ev F.T n) ρ g (.callV i x es q p) = .no) → PE X (.Call (.Name x q) (Xp.uns es) [] p) (tX F Pt ρ c (fun g => stepE F.T (ev F.T n) ρ g (.callV i x es q p)) W) := by
    intro no
    refine ⟨fun pins s σ H Q I hw => ?_⟩
    obtain ⟨z, G, g, rel, rng, out⟩ := hw
    dsimp only at out
    rw [no] at out
    exact out.elim
  match hρ : ρ[i]? with
  | none => exact stuck fun g => by simp only [stepE, hρ]
  | some .un => exact stuck fun g => by simp only [stepE, hρ]
  | some (.ow d) => exact stuck fun g => by simp only [stepE, hρ]
  | some (.xc c fs) => exact stuck fun g => by simp only [stepE, hρ]
  | some (.sh d) =>
    match d, hρ with
    | .fn f, hρ =>
      cases hf : Nat.blt f F.T.nf with
      | false => exact stuck fun g => by simp only [stepE, hρ, hf]
      | true =>
        have eq : ∀ g, stepE F.T (ev F.T n) ρ g (.callV i x es q p) = (evL (ev F.T n) ρ g es).bind fun ds g => (ev F.T n).call f ds g := fun g => by simp only [stepE, hρ, hf]
        refine tX_eq ?_ eq
        have hf : f < F.T.nf := Nat.le_of_ble_eq_true hf
        obtain ⟨fd, ps, hk, hb, fn⟩ := FO f (by omega)
        refine snd_fn C tk fn (show 2 * n + 2 ≤ 2 * n + 4 by omega) hb hk (pe_var (i := i) (by rw [O.N]; exact of_decide_eq_true k1) (by rw [O.sc]; exact visB_ok k2) (by simpa using k3) (by simpa using k4)) ?_ h2 h
        rintro σ H ⟨z, G, g, rel, rng⟩
        obtain ⟨v, hv, rp⟩ := rel.sh i _ hρ
        cases rp
        exact ⟨_, hv, rfl, rfl⟩
    | .non, hρ => exact stuck fun g => by simp only [stepE, hρ]
    | .bl _, hρ => exact stuck fun g => by simp only [stepE, hρ]
    | .int _, hρ => exact stuck fun g => by simp only [stepE, hρ]
    | .str _, hρ => exact stuck fun g => by simp only [stepE, hρ]
    | .tup _, hρ => exact stuck fun g => by simp only [stepE, hρ]
    | .lst _, hρ => exact stuck fun g => by simp only [stepE, hρ]
    | .dic _ _, hρ => exact stuck fun g => by simp only [stepE, hρ]
    | .exc _ _, hρ => exact stuck fun g => by simp only [stepE, hρ]
    | .tok, hρ => exact stuck fun g => by simp only [stepE, hρ]
    | .scr _, hρ => exact stuck fun g => by simp only [stepE, hρ]
end
end Fp
end
section
set_option Elab.async false
set_option linter.all false
set_option maxRecDepth 100000
set_option autoImplicit false
set_option maxHeartbeats 1000000
/-! enumerate(t), t a tuple. -/
namespace Fp
open PySem PySem.Spec PyProof.Rows L2
open AutoSeq1 (wpAny_loadPart')

theorem enumNewT (l : Addr) (items : Array Value) (n : Nat) (dct : Option Addr) (sl : Array (Option Value)) :
    Meets (Builtin.«enumerate.__new__» ⟨[.type "enumerate", .ref l], []⟩) (fun _ R s => s.heap.get? l = some { cls := .type "tuple", dict := dct, data := .seq items n, slots := sl } ∧
      R (.ok (.ret (.ref (s.heap.push { cls := .type "tuple_iterator", data := .fields #[.ref l, .int 0 0] }).objs.size)))
        { s with heap := (s.heap.push { cls := .type "tuple_iterator", data := .fields #[.ref l, .int 0 0] }).push { cls := .type "enumerate", data := .fields #[.none, .bool false, .ref s.heap.objs.size, rawInt 0, .none, .none] } }) :=
  .of_wp fun prog w A R s h => by
    obtain ⟨hp, g, d, tk, os⟩ := s
    obtain ⟨hl, h⟩ := h
    have hsub := sub_enumerate
    have tup : Heap.IsTuple (Shared.heap ⟨hp, g, d, tk, os⟩) l items := ⟨_, hl, rfl, n, rfl⟩
    wp_walk using wpAny_loadPart' hl
    refine wpAny_stack_any fun st => wpAny_pure ?_
    split
    · rename_i c _ _ _ _ _
      cases (c == Value.type "enumerate")
      · wp_walk using wpAny_loadPart' hl, wpAny_pyIter_tuple tup
        exact ⟨_, rfl, h⟩
      · wp_walk using wpAny_loadPart' hl, wpAny_pyIter_tuple tup
        exact ⟨_, rfl, h⟩
    · wp_walk using wpAny_loadPart' hl, wpAny_pyIter_tuple tup
      exact ⟨_, rfl, h⟩
section
variable {prog : Program} {w : World} {A : Around} {E : Value → Shared → Prop} {s : Shared}
theorem callEnumT {l : Addr} {items : Array Value} {Q : Value → Shared → Prop} (ht : s.heap.IsTuple l items)
    (h : ∀ h', IsEnum h' (s.heap.objs.size + 1) s.heap.objs.size 0 .none → h'.IsTupleIter s.heap.objs.size l 0 → h'.objs.size = s.heap.objs.size + 2 → (∀ b o, s.heap.get? b = some o → h'.get? b = some o) → Q (.ref (s.heap.objs.size + 1)) { s with heap := h' }) :
    wpAny (model prog w) A (call (.type "enumerate") [.ref l]) Q E s := by
  obtain ⟨⟨c, dct, dt, sl⟩, hl, hc, n, hd⟩ := ht
  replace hc : c = .type "tuple" := hc
  replace hd : dt = .seq items n := hd
  subst hc hd
  refine callType_new F.called_enumerate (by decide) (F.typeCall_enumerate_1 _) (F.newCall_enumerate_1 _) (fun obj => F.args_object_init_2 obj _) F.entry_enumerate_new (enumNewT l items n dct sl) ⟨hl, ?_⟩
  have size1 : (s.heap.push { cls := .type "tuple_iterator", data := .fields #[.ref l, .int 0 0] }).objs.size = s.heap.objs.size + 1 := Heap.size_push ..
  show _ ∧ _
  rw [size1]
  have he : IsEnum ((s.heap.push { cls := .type "tuple_iterator", data := .fields #[.ref l, .int 0 0] }).push { cls := .type "enumerate", data := .fields #[.none, .bool false, .ref s.heap.objs.size, rawInt 0, .none, .none] }) (s.heap.objs.size + 1) s.heap.objs.size 0 .none := by
    have at1 := Heap.get?_push_size (s.heap.push { cls := .type "tuple_iterator", data := .fields #[.ref l, .int 0 0] }) (o := { cls := .type "enumerate", data := .fields #[.none, .bool false, .ref s.heap.objs.size, rawInt 0, .none, .none] }) rfl
    rw [size1] at at1
    exact at1
  exact ⟨⟨_, he, rfl⟩, h _ he ⟨_, Heap.get?_push_of_some _ (Heap.get?_push_size _ rfl), rfl, rfl⟩ (by rw [Heap.size_push, size1]) fun b o y => Heap.get?_push_of_some _ (Heap.get?_push_of_some _ y)⟩
end
/-- the tuple at a, each item in a new pair -/
def IteT (K : PySem.W.Frag) (a : Addr) : It :=
  ⟨fun i H => ∃ (xs : List V) (x : V), SqT K H a xs ∧ xs[i]? = some x, fun i H v H' => ∃ T x, v = .ref T ∧ H T = none ∧ H' = upd H T (.tup [.int (i : Nat), x]) ∧ ∀ xs, SqT K H a xs → xs[i]? = some x, fun i H => ∃ xs : List V, SqT K H a xs ∧ xs.length = i⟩
theorem turnEnumT {P : Program} {w : World} {K : PySem.W.Frag} {elts : List Expr} {kk : Nat} {tpos : Pos} (a e it : Addr) :
    Turn P w K (.Tuple elts kk tpos) (IteT K a) [e, it] e (fun i h => (∃ old, IsEnum h e it ((i : Nat) : Int) old) ∧ h.IsTupleIter it a i ∧ e ≠ it ∧ e ≠ a ∧ a ≠ it) where
  mem := by simp
  obj := fun i h st b hb => by
    obtain ⟨⟨old, he⟩, ⟨o, ho, hc, hd⟩, _⟩ := st
    simp only [List.mem_cons, List.not_mem_nil, or_false] at hb
    rcases hb with rfl | rfl
    · exact ⟨_, he, fun v q => nomatch q⟩
    · exact ⟨o, ho, fun v q => by rw [hd] at q; cases q⟩
  keep := fun i h h' st k => by
    obtain ⟨⟨old, he⟩, hi, hne⟩ := st
    exact ⟨⟨old, k e (by simp) _ he⟩, hi.at fun o q => k it (by simp) o q, hne⟩
  item := by
    intro X hP hw hK hc i pins s σ H E I hf st hg
    subst hP hw hK
    obtain ⟨⟨old, he⟩, hit, hne, hea, hai⟩ := st
    obtain ⟨xs, x, hq, hx⟩ := hg
    obtain ⟨its, rv, p, hz⟩ := I.tuple hq
    obtain ⟨u, hu, ru⟩ := rv.get hx
    have lte : e < s.heap.objs.size := Heap.lt_size he
    have lti : it < s.heap.objs.size := by obtain ⟨_, q, _⟩ := hit; exact Heap.lt_size q
    have li : i < its.toArray.size := by rw [List.size_toArray]; exact (List.getElem?_eq_some_iff.mp hu).1
    refine wpAny_pyNext_enum_itemD (Draws.tuple (A := X.A.in1) (I.ok.hd hc) it a hai its.toArray) he ⟨hit, p⟩ li hne (by simp [hne, hea]) fun y h' tk hy ho hit' hT hsz hk => ?_
    have yu : y = u := by
      have h1 : its[i]? = some y := by simpa using hy
      rw [hu] at h1
      exact (Option.some.inj h1).symm
    subst yu
    refine ⟨_, rfl, wpAny_letOwnedTupleGo_enum (s := { s with heap := h', toks := tk + 1 }) ho fun h'' he' sb => ?_⟩
    have at2 : h''.get? s.heap.objs.size = some { cls := .type "tuple", data := .seq #[.int i tk, y] } := (sb.2 _ (Nat.ne_of_gt lte)).trans hT
    have new : ObjOk X.prog X.w (upd H s.heap.objs.size (.tup [.int (i : Nat), x])) h'' s.heap.objs.size (.tup [.int (i : Nat), x]) :=
      ⟨by show 2 ≤ sizeLine; decide, [.int i tk, y], .cons ⟨_, rfl⟩ (.cons ru .nil), ⟨_, at2, rfl, _, rfl⟩⟩
    have I1 : Inv X pins σ (upd H s.heap.objs.size (.tup [.int (i : Nat), x])) { s with heap := h'', toks := tk + 1 } :=
      I.turnedNew (ch := [e, it]) (fun b ob hb q => by
        simp only [List.mem_cons, List.not_mem_nil, or_false, not_or] at hb
        exact (sb.2 b hb.1).trans (hk b ob hb.1 hb.2 q)) hf (Nat.le_refl _) new
    refine ⟨.ref s.heap.objs.size, _, I1, rfl, ⟨_, x, rfl, I.hok.fresh (Nat.le_refl _), rfl, fun ys hy => ?_⟩, ⟨⟨y, ?_⟩, hit'.1.at fun o q => (sb.2 it (Ne.symm hne)).trans q, hne, hea, hai⟩, fun b hb => ?_⟩
    · obtain ⟨its2, rv2, p2, _⟩ := I.tuple hy
      rw [I.tuple_inj hy hq]
      exact hx
    · rw [show ((i + 1 : Nat) : Int) = (i : Int) + 1 by omega]
      exact he'
    · simp only [List.mem_cons, List.not_mem_nil, or_false] at hb
      have lb : b < s.heap.objs.size := by
        rcases hb with rfl | rfl
        · exact lte
        · exact lti
      rw [upd_ne (Nat.ne_of_lt lb)]
      exact (hf b (by simp [hb])).1
  done := by
    intro X hP hw hK hc i pins s σ H E I hf st hg
    subst hP hw hK
    obtain ⟨⟨old, he⟩, hit, hne, hea, hai⟩ := st
    obtain ⟨xs, hq, hx⟩ := hg
    obtain ⟨its, rv, p, hz⟩ := I.tuple hq
    obtain ⟨f0, f1, f2, f3, f4, f5⟩ := hf it (by simp)
    have ls : its.toArray.size = i := by rw [List.size_toArray, ← rv.length]; exact hx
    exact wpAny_pyNext_enum_endD (Draws.tuple (A := X.A.in1) (I.ok.hd hc) it a hai its.toArray) he (by rw [ls]; exact ⟨hit, p⟩) fun h' eb => ⟨rfl, I.turned (t' := s.toks) (fun b o hb q => eb b o hb q) f0 f1 f3 f4 f5⟩
  self := fun A i s Q E st h => by
    obtain ⟨⟨_, he⟩, _⟩ := st
    exact wpAny_pyIter_enum he h
end Fp
end
section
set_option Elab.async false
set_option linter.all false
set_option maxRecDepth 100000
set_option autoImplicit false
set_option maxHeartbeats 1000000
/-! What is iterated. -/
namespace Fp
open PySem PySem.Spec PyProof.Rows L2

/-- what stays while a source is walked: what is shared (c); all that stood -/
def KpB (c : Bool) (z0 : List Addr) (G0 H0 : Hp) (z : List Addr) (G H : Hp) : Prop := match c with
  | true => Zl z0 z ∧ Sub G0 G
  | false => Grow z0 G0 H0 z G H
/-- an iterator tells ds -/
def IterAt (F : Fx) (Kp : List Addr → Hp → Hp → Prop) (J : It) (ds : List D) : Prop := ∀ z G H g i, Kp z G H → Sub G H → (∀ a ∈ z, G a = none) → RngAt F z g H →
  (ds.length = i → J.stop i H) ∧ ∀ d, ds[i]? = some d → J.go i H ∧ ∀ x H', J.yld i H x H' → ∃ G', Grow z G H z G' H' ∧ RngAt F z g H' ∧ Rep F z G' x d
def OutI (F : Fx) (c : Bool) (z : List Addr) (G H : Hp) (r : Rs (List D)) (R : It → Hp → Prop) (W : XK) : Prop := match r with
  | .ok ds g' => ∀ J z' G' H', Grow z G H z' G' H' → RngAt F z' g' H' → IterAt F (KpB c z' G' H') J ds → R J H'
  | .ex cl fs g' => ∀ da z' G' H', Grow z G H z' G' H' → RngAt F z' g' H' → ExcAt F z' G' H' cl fs da → W (.ref (F.ca cl)) da H'
  | .no => False
def tI (F : Fx) (Pt : Prv) (ρ : List Sl) (c : Bool) (r : Gs → Rs (List D)) (W : WX) : TI := fun σ H R =>
  ∃ z G g, Rel F Pt z ρ σ G H ∧ RngAt F z g H ∧ OutI F c z G H (r g) R fun cl d H' => W cl d σ H'
theorem PI.imp {X : Cx} {tg e : Expr} {t t' : TI} (h : PI X tg e t') (k : ∀ σ H R, t σ H R → t' σ H R) : PI X tg e t := ⟨fun pins s σ H R I hw => h.run pins s σ H R I (k σ H R hw)⟩
section
variable {F : Fx} {n k : Nat} {X : Cx} {W : WX} {L : Lc} {Pt : Prv} {ρ : List Sl} {r : Ev} {c : Bool} {M : Gn}
theorem OutI.grow {z z1 : List Addr} {G H G1 H1 : Hp} {r : Rs (List D)} {R : It → Hp → Prop} {W : XK} (h : OutI F c z G H r R W) (g : Grow z G H z1 G1 H1) : OutI F c z1 G1 H1 r R W := by
  cases r with
  | ok d g' => exact fun v z' G' H' gr rn rp => h v z' G' H' (g.trans gr) rn rp
  | ex cl fs g' => exact fun da z' G' H' gr rn rp => h da z' G' H' (g.trans gr) rn rp
  | no => exact h
/-- a sequence that stays -/
theorem KpB.lst {z0 z : List Addr} {G0 H0 G H : Hp} {v : V} {ds : List D} (kp : KpB c z0 G0 H0 z G H) (s0 : Sub G0 H0) (sb : Sub G H) (h : RepB F c z0 G0 H0 v (.lst ds)) : ∃ a vs, v = .ref a ∧ H0 a = some (.lst vs) ∧ H a = some (.lst vs) ∧ RepAll F z G vs ds := by
  cases c with
  | true =>
    obtain ⟨k1, k2⟩ := kp
    cases h with
    | lst h1 h2 => exact ⟨_, _, rfl, s0 _ _ h1, sb _ _ (k2 _ _ h1), h2.mono k1 k2⟩
  | false =>
    have kp : Grow z0 G0 H0 z G H := kp
    rcases h with h | ⟨a, rfl, nz, h⟩
    · cases h with
      | lst h1 h2 => exact ⟨_, _, rfl, s0 _ _ h1, sb _ _ (kp.sub _ _ h1), h2.mono kp.zl kp.sub⟩
    · obtain ⟨vs, h1, h2⟩ := h
      exact ⟨a, vs, rfl, h1, kp.same _ _ h1 nz, h2.mono kp.zl kp.sub⟩
theorem KpB.tup {z0 z : List Addr} {G0 H0 G H : Hp} {v : V} {ds : List D} (kp : KpB c z0 G0 H0 z G H) (s0 : Sub G0 H0) (sb : Sub G H) (h : RepB F c z0 G0 H0 v (.tup ds)) : ∃ a vs, v = .ref a ∧ SqT F.K H0 a vs ∧ SqT F.K H a vs ∧ RepAll F z G vs ds := by
  have fin : Rep F z0 G0 v (.tup ds) → Zl z0 z → Sub G0 G → ∃ a vs, v = .ref a ∧ SqT F.K H0 a vs ∧ SqT F.K H a vs ∧ RepAll F z G vs ds := by
    intro h k1 k2
    cases h with
    | tup h1 h2 => exact ⟨_, _, rfl, sqTSub s0 h1, sqTSub sb (sqTSub k2 h1), h2.mono k1 k2⟩
  cases c with
  | true => exact fin h kp.1 kp.2
  | false =>
    have kp : Grow z0 G0 H0 z G H := kp
    rcases h with h | ⟨_, _, _, h⟩
    · exact fin h kp.zl kp.sub
    · exact h.elim
theorem KpB.self {z0 : List Addr} {G0 H0 : Hp} (s0 : Sub G0 H0) (hz : ∀ a ∈ z0, G0 a = none) : KpB c z0 G0 H0 z0 G0 H0 := by
  cases c with
  | true => exact ⟨.refl _, .refl _⟩
  | false => exact .refl s0 hz
theorem lstV {z : List Addr} {G H : Hp} {v : V} {ds : List D} (s0 : Sub G H) (hz : ∀ a ∈ z, G a = none) (h : RepB F c z G H v (.lst ds)) : ∃ a vs, v = .ref a ∧ H a = some (.lst vs) := by
  obtain ⟨a, vs, e, h1, _⟩ := KpB.lst (KpB.self s0 hz) s0 s0 h
  exact ⟨a, vs, e, h1⟩
theorem tupV {z : List Addr} {G H : Hp} {v : V} {ds : List D} (s0 : Sub G H) (hz : ∀ a ∈ z, G a = none) (h : RepB F c z G H v (.tup ds)) : ∃ a vs, v = .ref a ∧ SqT F.K H a vs := by
  obtain ⟨a, vs, e, h1, _⟩ := KpB.tup (KpB.self s0 hz) s0 s0 h
  exact ⟨a, vs, e, h1⟩
/-- a list walked -/
theorem iter_lst {z0 : List Addr} {G0 H0 : Hp} {a : Addr} {ds : List D} (s0 : Sub G0 H0) (h : RepB F c z0 G0 H0 (.ref a) (.lst ds)) : IterAt F (KpB c z0 G0 H0) (Itl F.K a) ds := by
  intro z G H g i kp sb hz hg
  obtain ⟨_, vs, e, h0, h1, h2⟩ := kp.lst s0 sb h
  cases e
  refine ⟨fun e => ⟨vs, .of h1, by rw [h2.length, e]; exact Nat.le_refl _⟩, fun d hd => ?_⟩
  obtain ⟨v, v1, v2⟩ := h2.get hd
  refine ⟨⟨vs, v, .of h1, v1⟩, fun x H' y => ?_⟩
  obtain ⟨rfl, y⟩ := y
  have := y vs (.of h1)
  rw [v1] at this
  cases this
  exact ⟨G, .refl sb hz, hg, v2⟩
theorem iter_tup {z0 : List Addr} {G0 H0 : Hp} {a : Addr} {ds : List D} (s0 : Sub G0 H0) (h : RepB F c z0 G0 H0 (.ref a) (.tup ds)) : IterAt F (KpB c z0 G0 H0) (Itt F.K a) ds := by
  intro z G H g i kp sb hz hg
  obtain ⟨_, vs, e, h0, h1, h2⟩ := kp.tup s0 sb h
  cases e
  refine ⟨fun e => ⟨vs, h1, by rw [h2.length, e]; exact Nat.le_refl _⟩, fun d hd => ?_⟩
  obtain ⟨v, v1, v2⟩ := h2.get hd
  refine ⟨⟨vs, v, h1, v1⟩, fun x H' y => ?_⟩
  obtain ⟨rfl, y⟩ := y
  have := y vs h1
  rw [v1] at this
  cases this
  exact ⟨G, .refl sb hz, hg, v2⟩
/-- the script -/
theorem KpB.scr {z0 z : List Addr} {G0 H0 G H : Hp} {v : V} {ns : List Int} (kp : KpB c z0 G0 H0 z G H) (s0 : Sub G0 H0) (sb : Sub G H) (h : RepB F c z0 G0 H0 v (.scr ns)) : ∃ a, v = .ref a ∧ SqL F.K H0 a (ns.map V.int) ∧ SqL F.K H a (ns.map V.int) := by
  have fin : Rep F z0 G0 v (.scr ns) → Sub G0 G → ∃ a, v = .ref a ∧ SqL F.K H0 a (ns.map V.int) ∧ SqL F.K H a (ns.map V.int) := by
    intro h k2
    cases h with
    | scr h1 => exact ⟨_, rfl, sqLSub s0 h1, sqLSub sb (sqLSub k2 h1)⟩
  cases c with
  | true => exact fin h kp.2
  | false =>
    have kp : Grow z0 G0 H0 z G H := kp
    rcases h with h | ⟨_, _, _, h⟩
    · exact fin h kp.sub
    · exact h.elim
theorem scrV {z : List Addr} {G H : Hp} {v : V} {ns : List Int} (s0 : Sub G H) (hz : ∀ a ∈ z, G a = none) (h : RepB F c z G H v (.scr ns)) : ∃ a, v = .ref a ∧ SqL F.K H a (ns.map V.int) := by
  obtain ⟨a, e, h1, _⟩ := KpB.scr (KpB.self s0 hz) s0 s0 h
  exact ⟨a, e, h1⟩
theorem ints_all {z : List Addr} {G : Hp} : ∀ ns : List Int, RepAll F z G (ns.map V.int) (ns.map D.int)
  | [] => .nil
  | n :: ns => .cons (.int n) (ints_all ns)
theorem iter_scr {z0 : List Addr} {G0 H0 : Hp} {a : Addr} {ns : List Int} (s0 : Sub G0 H0) (h : RepB F c z0 G0 H0 (.ref a) (.scr ns)) : IterAt F (KpB c z0 G0 H0) (Itl F.K a) (ns.map D.int) := by
  intro z G H g i kp sb hz hg
  obtain ⟨_, e, h0, h1⟩ := kp.scr s0 sb h
  cases e
  have h2 : RepAll F z G (ns.map V.int) (ns.map D.int) := ints_all ns
  refine ⟨fun e => ⟨_, h1, by rw [h2.length, e]; exact Nat.le_refl _⟩, fun d hd => ?_⟩
  obtain ⟨v, v1, v2⟩ := h2.get hd
  refine ⟨⟨_, v, h1, v1⟩, fun x H' y => ?_⟩
  obtain ⟨rfl, y⟩ := y
  have := y _ h1
  rw [v1] at this
  cases this
  exact ⟨G, .refl sb hz, hg, v2⟩
theorem rngList_get : ∀ (m : Nat) (lo : Int) (i : Nat), (rngList lo m)[i]? = if i < m then some (.int (lo + i)) else none
  | 0, lo, i => by simp [rngList]
  | m + 1, lo, 0 => by simp [rngList]
  | m + 1, lo, i + 1 => by
    rw [rngList, List.getElem?_cons_succ, rngList_get m (lo + 1) i]
    by_cases h : i < m
    · rw [if_pos h, if_pos (by omega)]
      congr 2
      omega
    · rw [if_neg h, if_neg (by omega)]
theorem rngList_len : ∀ (m : Nat) (lo : Int), (rngList lo m).length = m
  | 0, _ => rfl
  | m + 1, lo => by simp [rngList, rngList_len m]
theorem iter_rng {Kp : List Addr → Hp → Hp → Prop} (lo : Int) (m : Nat) : IterAt F Kp (Itr lo m) (rngList lo m) := by
  intro z G H g i _ sb hz hg
  rw [rngList_len]
  refine ⟨fun e => Nat.le_of_eq e, fun d hd => ?_⟩
  rw [rngList_get] at hd
  by_cases h : i < m
  · rw [if_pos h] at hd
    refine ⟨h, fun x H' y => ?_⟩
    obtain ⟨rfl, rfl⟩ := y
    rw [← Option.some.inj hd]
    exact ⟨G, .refl sb hz, hg, .int _⟩
  · rw [if_neg h] at hd
    cases hd
theorem enumD_get : ∀ (xs : List D) (n : Int) (i : Nat), (enumD n xs)[i]? = (xs[i]?).map fun x => .tup [.int (n + i), x]
  | [], n, i => by simp [enumD]
  | x :: r, n, 0 => by simp [enumD]
  | x :: r, n, i + 1 => by
    rw [enumD, List.getElem?_cons_succ, enumD_get r (n + 1) i, List.getElem?_cons_succ]
    have : n + 1 + (i : Int) = n + ((i + 1 : Nat) : Int) := by omega
    rw [this]
theorem enumD_len : ∀ (xs : List D) (n : Int), (enumD n xs).length = xs.length
  | [], _ => rfl
  | x :: r, n => by simp [enumD, enumD_len r]
/-- a new pair -/
theorem new_pair {z : List Addr} {G H : Hp} {g : Gs} {T : Addr} {v w : V} {d e : D} (sb : Sub G H) (hz : ∀ a ∈ z, G a = none) (hg : RngAt F z g H) (n : H T = none) (h1 : Rep F z G v d) (h2 : Rep F z G w e) :
    ∃ G', Grow z G H z G' (upd H T (.tup [v, w])) ∧ RngAt F z g (upd H T (.tup [v, w])) ∧ Rep F z G' (.ref T) (.tup [d, e]) := by
  obtain ⟨g1, g2⟩ := laid_rep (o := .tup [v, w]) sb hz hg n
  exact ⟨_, g1, g2, .tup (.of upd_same) (.cons (h1.mono (.refl z) g1.sub) (.cons (h2.mono (.refl z) g1.sub) .nil))⟩
theorem iter_enumL {z0 : List Addr} {G0 H0 : Hp} {a : Addr} {ds : List D} (s0 : Sub G0 H0) (h : RepB F c z0 G0 H0 (.ref a) (.lst ds)) : IterAt F (KpB c z0 G0 H0) (Ite F.K a) (enumD 0 ds) := by
  intro z G H g i kp sb hz hg
  obtain ⟨_, vs, e, h0, h1, h2⟩ := kp.lst s0 sb h
  cases e
  rw [enumD_len]
  refine ⟨fun e => ⟨vs, .of h1, by rw [h2.length, e]; exact Nat.le_refl _⟩, fun d hd => ?_⟩
  rw [enumD_get] at hd
  cases hx : ds[i]? with
  | none => rw [hx] at hd; cases hd
  | some d0 =>
    rw [hx] at hd
    have hd : D.tup [.int (0 + (i : Int)), d0] = d := Option.some.inj hd
    obtain ⟨v, v1, v2⟩ := h2.get hx
    refine ⟨⟨vs, v, .of h1, v1⟩, fun x H' y => ?_⟩
    obtain ⟨T, x0, rfl, nT, rfl, y⟩ := y
    have := y vs (.of h1)
    rw [v1] at this
    cases this
    rw [← hd, Int.zero_add]
    exact new_pair sb hz hg nT (.int _) v2
theorem iter_enumS {z0 : List Addr} {G0 H0 : Hp} {a : Addr} {ns : List Int} (s0 : Sub G0 H0) (h : RepB F c z0 G0 H0 (.ref a) (.scr ns)) : IterAt F (KpB c z0 G0 H0) (Ite F.K a) (enumD 0 (ns.map D.int)) := by
  intro z G H g i kp sb hz hg
  obtain ⟨_, e, h0, h1⟩ := kp.scr s0 sb h
  cases e
  have h2 : RepAll F z G (ns.map V.int) (ns.map D.int) := ints_all ns
  rw [enumD_len]
  refine ⟨fun e => ⟨_, h1, by rw [h2.length, e]; exact Nat.le_refl _⟩, fun d hd => ?_⟩
  rw [enumD_get] at hd
  cases hx : (ns.map D.int)[i]? with
  | none => rw [hx] at hd; cases hd
  | some d0 =>
    rw [hx] at hd
    have hd : D.tup [.int (0 + (i : Int)), d0] = d := Option.some.inj hd
    obtain ⟨v, v1, v2⟩ := h2.get hx
    refine ⟨⟨_, v, h1, v1⟩, fun x H' y => ?_⟩
    obtain ⟨T, x0, rfl, nT, rfl, y⟩ := y
    have := y _ h1
    rw [v1] at this
    cases this
    rw [← hd, Int.zero_add]
    exact new_pair sb hz hg nT (.int _) v2
theorem iter_enumT {z0 : List Addr} {G0 H0 : Hp} {a : Addr} {ds : List D} (s0 : Sub G0 H0) (h : RepB F c z0 G0 H0 (.ref a) (.tup ds)) : IterAt F (KpB c z0 G0 H0) (IteT F.K a) (enumD 0 ds) := by
  intro z G H g i kp sb hz hg
  obtain ⟨_, vs, e, h0, h1, h2⟩ := kp.tup s0 sb h
  cases e
  rw [enumD_len]
  refine ⟨fun e => ⟨vs, h1, by rw [h2.length, e]⟩, fun d hd => ?_⟩
  rw [enumD_get] at hd
  cases hx : ds[i]? with
  | none => rw [hx] at hd; cases hd
  | some d0 =>
    rw [hx] at hd
    have hd : D.tup [.int (0 + (i : Int)), d0] = d := Option.some.inj hd
    obtain ⟨v, v1, v2⟩ := h2.get hx
    refine ⟨⟨vs, v, h1, v1⟩, fun x H' y => ?_⟩
    obtain ⟨T, x0, rfl, nT, rfl, y⟩ := y
    have := y vs h1
    rw [v1] at this
    cases this
    rw [← hd, Int.zero_add]
    exact new_pair sb hz hg nT (.int _) v2

/-! ### zip -/
theorem zipD_get : ∀ (xs ys : List D) (i : Nat) (d : D), (zipD xs ys)[i]? = some d → ∃ x y, xs[i]? = some x ∧ ys[i]? = some y ∧ d = .tup [x, y]
  | [], ys, i, d, h => by cases ys <;> simp [zipD] at h
  | x :: r, [], i, d, h => by simp [zipD] at h
  | x :: r, y :: s, 0, d, h => by simp [zipD] at h; exact ⟨x, y, rfl, rfl, h.symm⟩
  | x :: r, y :: s, i + 1, d, h => by
    simp only [zipD, List.getElem?_cons_succ] at h ⊢
    exact zipD_get r s i d h
theorem zipD_len : ∀ (xs ys : List D), (zipD xs ys).length = min xs.length ys.length
  | [], ys => by cases ys <;> simp [zipD]
  | x :: r, [] => by simp [zipD]
  | x :: r, y :: s => by simp [zipD, zipD_len r s]
theorem iter_zipL {z0 : List Addr} {G0 H0 : Hp} {a b : Addr} {xs ys : List D} (s0 : Sub G0 H0) (h : RepB F c z0 G0 H0 (.ref a) (.lst xs)) (h' : RepB F c z0 G0 H0 (.ref b) (.lst ys)) : IterAt F (KpB c z0 G0 H0) (Itz F.K a b) (zipD xs ys) := by
  intro z G H g i kp sb hz hg
  obtain ⟨_, vs, e, h0, h1, h2⟩ := kp.lst s0 sb h
  cases e
  obtain ⟨_, us, e, k0, k1, k2⟩ := kp.lst s0 sb h'
  cases e
  have l1 := h2.length
  have l2 := k2.length
  rw [zipD_len]
  refine ⟨fun e => ⟨vs, us, .of h1, .of k1, by omega⟩, fun d hd => ?_⟩
  obtain ⟨x, y, hx, hy, rfl⟩ := zipD_get xs ys i d hd
  obtain ⟨v, v1, v2⟩ := h2.get hx
  obtain ⟨u, u1, u2⟩ := k2.get hy
  refine ⟨⟨vs, us, v, u, .of h1, .of k1, v1, u1⟩, fun x H' y => ?_⟩
  obtain ⟨T, x0, y0, rfl, nT, rfl, y1, y2⟩ := y
  have e1 := y1 vs (.of h1)
  rw [v1] at e1
  cases e1
  have e2 := y2 us (.of k1)
  rw [u1] at e2
  cases e2
  exact new_pair sb hz hg nT v2 u2
theorem iter_zipT {z0 : List Addr} {G0 H0 : Hp} {a b : Addr} {xs ys : List D} (s0 : Sub G0 H0) (h : RepB F c z0 G0 H0 (.ref a) (.tup xs)) (h' : RepB F c z0 G0 H0 (.ref b) (.tup ys)) : IterAt F (KpB c z0 G0 H0) (RZ.ItzT F.K a b) (zipD xs ys) := by
  intro z G H g i kp sb hz hg
  obtain ⟨_, vs, e, h0, h1, h2⟩ := kp.tup s0 sb h
  cases e
  obtain ⟨_, us, e, k0, k1, k2⟩ := kp.tup s0 sb h'
  cases e
  have l1 := h2.length
  have l2 := k2.length
  rw [zipD_len]
  refine ⟨fun e => ⟨vs, us, h1, k1, by omega⟩, fun d hd => ?_⟩
  obtain ⟨x, y, hx, hy, rfl⟩ := zipD_get xs ys i d hd
  obtain ⟨v, v1, v2⟩ := h2.get hx
  obtain ⟨u, u1, u2⟩ := k2.get hy
  refine ⟨⟨vs, us, v, u, h1, k1, v1, u1⟩, fun x H' y => ?_⟩
  obtain ⟨T, x0, y0, rfl, nT, rfl, y1, y2⟩ := y
  have e1 := y1 vs h1
  rw [v1] at e1
  cases e1
  have e2 := y2 us k1
  rw [u1] at e2
  cases e2
  exact new_pair sb hz hg nT v2 u2

/-! ### sources -/
/-- a list first, then what is walked -/
theorem outL_bindI {z : List Addr} {G H : Hp} {r : Rs (List D)} {f : List D → Gs → Rs (List D)} {R : It → Hp → Prop} {Q1 : List V → Hp → Prop} {W : XK} {c' : Bool} (h : OutI F c z G H (r.bind f) R W)
    (k : ∀ ds g1 vs z1 G1 H1, r = .ok ds g1 → Grow z G H z1 G1 H1 → RngAt F z1 g1 H1 → Reps F c' z1 G1 H1 vs ds → OutI F c z1 G1 H1 (f ds g1) R W → Q1 vs H1) : OutL F c' z G H r Q1 W := by
  cases r with
  | ok d g' => exact fun v z' G' H' gr rn rp => k d g' v z' G' H' rfl gr rn rp (OutI.grow (show OutI F c z G H (f d g') R W from h) gr)
  | ex cl fs g' => exact h
  | no => exact h
theorem outI_of {o : Option (List D)} {g : Gs} {z : List Addr} {G H : Hp} {R : It → Hp → Prop} {W : XK} (h : OutI F c z G H (Rs.of o g) R W) : ∃ ds, o = some ds ∧ ∀ J z' G' H', Grow z G H z' G' H' → RngAt F z' g H' → IterAt F (KpB c z' G' H') J ds → R J H' := by
  cases o with
  | none => exact h.elim
  | some ds => exact ⟨ds, rfl, h⟩
theorem repsB1 {z : List Addr} {G H : Hp} {vs : List V} {d : D} (h : Reps F c z G H vs [d]) : ∃ v, vs = [v] ∧ RepB F c z G H v d := by
  cases h with
  | cons h1 h2 => cases h2; exact ⟨_, rfl, h1⟩
theorem repsB2 {z : List Addr} {G H : Hp} {vs : List V} {d e : D} (h : Reps F c z G H vs [d, e]) : ∃ v u, vs = [v, u] ∧ RepB F c z G H v d ∧ RepB F c z G H u e := by
  cases h with
  | cons h1 h2 => cases h2 with
    | cons h2 h3 => cases h3; exact ⟨_, _, rfl, h1, h2⟩
theorem RepB.int {z : List Addr} {G H : Hp} {v : V} {i : Int} (h : RepB F c z G H v (.int i)) : v = .int i := h.o.int
theorem evL_len : ∀ {es : List Xp} {g g' : Gs} {ds : List D}, noStar es = true → evL r ρ g es = .ok ds g' → ds.length = es.length
  | [], g, g', ds, _, h => by simp only [evL, Rs.ok.injEq] at h; rw [← h.1]; rfl
  | e :: es, g, g', ds, hs, h => by
    obtain ⟨s1, s2⟩ := and2 hs
    have s1 := not_of s1
    have ev1 : evL r ρ g (e :: es) = (r.e ρ g e).bind fun d g => (evL r ρ g es).bind fun ds g => .ok (d :: ds) g := by
      cases e <;> first | rfl | simp [isStar] at s1
    rw [ev1] at h
    cases q : r.e ρ g e with
    | no => rw [q] at h; cases h
    | ex cl fs g1 => rw [q] at h; cases h
    | ok d g1 =>
      rw [q] at h
      simp only [Rs.bind] at h
      cases q2 : evL r ρ g1 es with
      | no => rw [q2] at h; cases h
      | ex cl fs g1 => rw [q2] at h; cases h
      | ok ds2 g2 =>
        rw [q2] at h
        simp only [Rs.ok.injEq] at h
        rw [← h.1]
        simp [evL_len s2 q2]
/-- a sequence walked as it is -/
theorem snd_src (C : Ctx F k X) {tg e : Expr} {f : Gs → Rs D} (he : PE X e (tX F Pt ρ c f W)) : PI X tg e (tI F Pt ρ c (fun g => (f g).bind fun d g => Rs.of (items d) g) W) := by
  refine ⟨fun pins s σ H R I hw => ?_⟩
  obtain ⟨z, G, g, rel, rng, out⟩ := hw
  dsimp only at out
  cases q : f g with
  | no => rw [q] at out; exact out.elim
  | ex cl fs g' =>
    rw [q] at out
    refine (pi_list (tg := tg) he).run pins s σ H R I ⟨z, G, g, rel, rng, ?_⟩
    rw [q]; exact out
  | ok d g1 =>
    rw [q] at out
    cases d with
    | lst ds =>
      refine (pi_list (tg := tg) he).run pins s σ H R I ⟨z, G, g, rel, rng, ?_⟩
      rw [q]
      intro v z1 G1 H1 gr rn rp
      obtain ⟨a, vs, rfl, h1⟩ := lstV gr.sub' gr.zG rp
      refine ⟨a, rfl, ⟨vs, .of h1⟩, ?_⟩
      rw [C.K]
      exact out (Itl F.K a) z1 G1 H1 gr rn (iter_lst gr.sub' rp)
    | tup ds =>
      refine (pi_tup (tg := tg) he).run pins s σ H R I ⟨z, G, g, rel, rng, ?_⟩
      rw [q]
      intro v z1 G1 H1 gr rn rp
      obtain ⟨a, vs, rfl, h1⟩ := tupV gr.sub' gr.zG rp
      refine ⟨a, rfl, ⟨vs, by rw [C.K]; exact h1⟩, ?_⟩
      rw [C.K]
      exact out (Itt F.K a) z1 G1 H1 gr rn (iter_tup gr.sub' rp)
    | scr ns =>
      refine (pi_list (tg := tg) he).run pins s σ H R I ⟨z, G, g, rel, rng, ?_⟩
      rw [q]
      intro v z1 G1 H1 gr rn rp
      obtain ⟨a, rfl, h1⟩ := scrV gr.sub' gr.zG rp
      refine ⟨a, rfl, ⟨_, by rw [C.K]; exact h1⟩, ?_⟩
      rw [C.K]
      exact out (Itl F.K a) z1 G1 H1 gr rn (iter_scr gr.sub' rp)
    | _ => exact out.elim
theorem rgB_ok {i : Int} (h : rgB i = true) : -16777000 ≤ i ∧ i ≤ 16777000 := by
  have : i.natAbs ≤ 16777000 := Nat.le_of_ble_eq_true h
  omega
def oneTwo : List Xp → Bool
  | [_] => true
  | [_, _] => true
  | _ => false
def srcW (M : Gn) (L : Lc) : Tg → Src → Bool
  | _, .src _ => true
  | _, .rng x es _ _ => strEqB x "range" && (freeB M L x && (noStar es && oneTwo es))
  | .tp .., .enum x e _ _ => strEqB x "enumerate" && (freeB M L x && noStar [e])
  | .tp .., .zip x a b _ _ => strEqB x "zip" && (freeB M L x && noStar [a, b])
  | _, _ => false
theorem snd_rng (GO : GnOk F M) (C : Ctx F k X) (O : LcOk L X) {tg : Tg} {x : Str} {es : List Xp} {q p : Pos} (hw : srcW M L tg (.rng x es q p) = true) (h : ∀ e ∈ es, SndI F X W Pt ρ r false e) : PI X tg.un (Src.rng x es q p).un (tI F Pt ρ c (fun g => evI r ρ g (.rng x es q p)) W) := by
  have hw : (strEqB x "range" && (freeB M L x && (noStar es && oneTwo es))) = true := by cases tg <;> exact hw
  obtain ⟨h1, hw⟩ := and2 hw
  obtain ⟨h2, hw⟩ := and2 hw
  obtain ⟨h3, h4⟩ := and2 hw
  have hx := strEqB_eq h1
  subst hx
  obtain ⟨f1, f2, f3, f4⟩ := freeB_ok GO C O h2
  have eu : (Src.rng "range" es q p).un = .Call (.Name "range" q) (Xp.uns es) [] p := by simp only [Src.un]
  rw [eu]
  clear h1 h2 eu hw
  rcases es with _ | ⟨a, _ | ⟨b, _ | ⟨b2, es⟩⟩⟩
  · cases h4
  · have hs := star_cons (not_of (and2 h3).1) [] X.env
    refine PI.imp (pi_range1 f1 f3 (snd_L C h) hs) ?_
    rintro σ H R ⟨z, G, g, rel, rng, out⟩
    refine ⟨z, G, g, rel, rng, outL_bindI out ?_⟩
    intro ds g1 vs z1 G1 H1 eq gr rn rp out
    obtain ⟨xs, e, qq⟩ := outI_of out
    have len := evL_len h3 eq
    match ds, e, len with
    | [.int m], e, _ =>
      obtain ⟨v, rfl, rv⟩ := repsB1 rp
      have := rv.int
      subst this
      simp only [rngOf] at e
      cases hb : rgB m with
      | false => rw [hb] at e; cases e
      | true =>
        rw [hb] at e
        have hb := rgB_ok hb
        have e := Option.some.inj e
        subst e
        exact ⟨m, rfl, by omega, by omega, qq _ z1 G1 H1 (.refl gr.sub' gr.zG) rn (iter_rng 0 m.toNat)⟩
    | [.int _, .int _], _, len => simp at len
  · have hs := star_cons (not_of (and2 h3).1) [b] X.env
    have hs2 := star_cons (not_of (and2 (and2 h3).2).1) [] X.env
    refine PI.imp (pi_range2 f1 f3 (snd_L C h) (hs.trans (by rw [hs2]; rfl)) hs2) ?_
    rintro σ H R ⟨z, G, g, rel, rng, out⟩
    refine ⟨z, G, g, rel, rng, outL_bindI out ?_⟩
    intro ds g1 vs z1 G1 H1 eq gr rn rp out
    obtain ⟨xs, e, qq⟩ := outI_of out
    have len := evL_len h3 eq
    match ds, e, len with
    | [.int m], _, len => simp at len
    | [.int i, .int j], e, _ =>
      obtain ⟨v, u, rfl, rv, ru⟩ := repsB2 rp
      have e1 := rv.int
      have e2 := ru.int
      subst e1 e2
      simp only [rngOf] at e
      cases hb : (rgB i && (rgB j && fits (j - i).toNat)) with
      | false => rw [hb] at e; cases e
      | true =>
        rw [hb] at e
        obtain ⟨b1, b2⟩ := and2 hb
        have b1 := rgB_ok b1
        have b2 := rgB_ok (and2 b2).1
        have e := Option.some.inj e
        subst e
        exact ⟨i, j, rfl, ⟨by omega, by omega, by omega, by omega⟩, qq _ z1 G1 H1 (.refl gr.sub' gr.zG) rn (iter_rng i (j - i).toNat)⟩
  · cases h4
def iEnumT (K : PySem.W.Frag) (ta : TA) : TI := fun σ H R => ta σ H fun vs H1 => ∃ a xs, vs = [.ref a] ∧ ((SqL K H1 a xs ∧ R (Ite K a) H1) ∨ (SqT K H1 a xs ∧ R (IteT K a) H1))
theorem pi_enumA {e : Expr} {ta : TA} {p pos tpos : Pos} {elts : List Expr} {kk : Nat} (hg : Gl X "enumerate") (hm : X.mg "enumerate" = none) (ha : PA X [e] ta) (hs : starEach [e] X.env = [(false, eval e X.env)]) :
    PI X (.Tuple elts kk tpos) (.Call (.Name "enumerate" p) [e] [] pos) (iEnumT X.K ta) := by
  refine ⟨fun pins s σ H R I h => ?_⟩
  refine Call_ (ld_blt I hg hm boot_enumerate (PyProof.Rows.callWith_type1 (thn (ha.run pos pins s σ H _ I h) fun us s1 ⟨vs, H1, I1, r1, q1⟩ => ?_) hs rfl))
  obtain ⟨a, xs, ex, q1⟩ := q1
  subst ex
  obtain ⟨u, rfl, rx⟩ := vals1 r1
  cases rx
  have fresh : ∀ b ∈ [s1.heap.objs.size + 1, s1.heap.objs.size], FpOk X pins H1 b := fun b hb => by
    simp only [List.mem_cons, List.not_mem_nil, or_false] at hb
    have hle : s1.heap.objs.size ≤ b := by omega
    exact I1.fpOk hle (I1.hok.fresh hle)
  rcases q1 with ⟨hq, q⟩ | ⟨hq, q⟩
  · obtain ⟨its, rv, pl, hz⟩ := I1.list hq
    refine call_enumerate_list pl.isList fun h' he hit hsz hk => wpAny_pyIter_enum he ?_
    exact ⟨s1.heap.objs.size + 1, [s1.heap.objs.size + 1, s1.heap.objs.size], _, _, H1, rfl, I1.kept (t' := s1.toks) hk, turn_enum a (s1.heap.objs.size + 1) s1.heap.objs.size, ⟨⟨.none, he⟩, hit, Nat.succ_ne_self _⟩, fresh, q⟩
  · obtain ⟨its, rv, pl, hz⟩ := I1.tuple hq
    have lta : a < s1.heap.objs.size := by obtain ⟨_, e, _⟩ := id pl; exact Heap.lt_size e
    refine callEnumT pl fun h' he hit hsz hk => wpAny_pyIter_enum he ?_
    exact ⟨s1.heap.objs.size + 1, [s1.heap.objs.size + 1, s1.heap.objs.size], _, _, H1, rfl, I1.kept (t' := s1.toks) hk, turnEnumT a (s1.heap.objs.size + 1) s1.heap.objs.size, ⟨⟨.none, he⟩, hit, Nat.succ_ne_self _, Nat.ne_of_gt (Nat.lt_succ_of_lt lta), Nat.ne_of_lt lta⟩, fresh, q⟩
theorem snd_enum (GO : GnOk F M) (C : Ctx F k X) (O : LcOk L X) {tg : Tg} {x : Str} {a : Xp} {q p : Pos} (hw : srcW M L tg (.enum x a q p) = true) (h : SndI F X W Pt ρ r c a) : PI X tg.un (Src.enum x a q p).un (tI F Pt ρ c (fun g => evI r ρ g (.enum x a q p)) W) := by
  cases tg with
  | nm => cases hw
  | tp ts kk tp =>
    obtain ⟨h1, hw⟩ := and2 hw
    obtain ⟨h2, h3⟩ := and2 hw
    have hx := strEqB_eq h1
    subst hx
    obtain ⟨f1, f2, f3, f4⟩ := freeB_ok GO C O h2
    have eu : (Src.enum "enumerate" a q p).un = .Call (.Name "enumerate" q) (Xp.uns [a]) [] p := by simp only [Src.un, Xp.uns]
    have et : (Tg.tp ts kk tp).un = .Tuple (Tg.uns ts) kk tp := by simp only [Tg.un]
    rw [eu, et]
    have hs := star_cons (not_of (and2 h3).1) [] X.env
    refine PI.imp (pi_enumA f1 f3 (snd_L C (es := [a]) fun e he => by rw [List.mem_singleton.mp he]; exact h) hs) ?_
    rintro σ H R ⟨z, G, g, rel, rng, out⟩
    refine ⟨z, G, g, rel, rng, outL_bindI out ?_⟩
    intro ds g1 vs z1 G1 H1 eq gr rn rp out
    obtain ⟨xs, e, qq⟩ := outI_of out
    match ds, e with
    | [.lst ys], e =>
      obtain ⟨v, rfl, rv⟩ := repsB1 rp
      have e := Option.some.inj e
      subst e
      obtain ⟨a, us, rfl, l1⟩ := lstV gr.sub' gr.zG rv
      refine ⟨a, us, rfl, .inl ⟨.of l1, ?_⟩⟩
      rw [C.K]
      exact qq _ z1 G1 H1 (.refl gr.sub' gr.zG) rn (iter_enumL gr.sub' rv)
    | [.tup ys], e =>
      obtain ⟨v, rfl, rv⟩ := repsB1 rp
      have e := Option.some.inj e
      subst e
      obtain ⟨a, us, rfl, l1⟩ := tupV gr.sub' gr.zG rv
      rw [C.K]
      exact ⟨a, us, rfl, .inr ⟨l1, qq _ z1 G1 H1 (.refl gr.sub' gr.zG) rn (iter_enumT gr.sub' rv)⟩⟩
    | [.scr ns], e =>
      obtain ⟨v, rfl, rv⟩ := repsB1 rp
      have e := Option.some.inj e
      subst e
      obtain ⟨a, rfl, l1⟩ := scrV gr.sub' gr.zG rv
      rw [C.K]
      exact ⟨a, _, rfl, .inl ⟨l1, qq _ z1 G1 H1 (.refl gr.sub' gr.zG) rn (iter_enumS gr.sub' rv)⟩⟩
theorem snd_zip (GO : GnOk F M) (C : Ctx F k X) (O : LcOk L X) {tg : Tg} {x : Str} {a b : Xp} {q p : Pos} (hw : srcW M L tg (.zip x a b q p) = true) (h : SndI F X W Pt ρ r c a) (h' : SndI F X W Pt ρ r c b) : PI X tg.un (Src.zip x a b q p).un (tI F Pt ρ c (fun g => evI r ρ g (.zip x a b q p)) W) := by
  cases tg with
  | nm => cases hw
  | tp ts kk tp =>
    obtain ⟨h1, hw⟩ := and2 hw
    obtain ⟨h2, h3⟩ := and2 hw
    have hx := strEqB_eq h1
    subst hx
    obtain ⟨f1, f2, f3, f4⟩ := freeB_ok GO C O h2
    have eu : (Src.zip "zip" a b q p).un = .Call (.Name "zip" q) (Xp.uns [a, b]) [] p := by simp only [Src.un, Xp.uns]
    have et : (Tg.tp ts kk tp).un = .Tuple (Tg.uns ts) kk tp := by simp only [Tg.un]
    rw [eu, et]
    have hs := star_cons (not_of (and2 h3).1) [b] X.env
    refine PI.imp (RZ.pi_zipA f1 f3 (snd_L C (es := [a, b]) fun e he => by
      simp only [List.mem_cons, List.not_mem_nil, or_false] at he
      rcases he with rfl | rfl
      · exact h
      · exact h') hs (star_none p X.env (and2 h3).2)) ?_
    rintro σ H R ⟨z, G, g, rel, rng, out⟩
    refine ⟨z, G, g, rel, rng, outL_bindI out ?_⟩
    intro ds g1 vs z1 G1 H1 eq gr rn rp out
    obtain ⟨xs, e, qq⟩ := outI_of out
    match ds, e with
    | [.lst ys, .lst ws], e =>
      obtain ⟨v, u, rfl, rv, ru⟩ := repsB2 rp
      have e := Option.some.inj e
      subst e
      obtain ⟨a, us, rfl, l1⟩ := lstV gr.sub' gr.zG rv
      obtain ⟨b, us2, rfl, l2⟩ := lstV gr.sub' gr.zG ru
      refine ⟨a, b, us, us2, rfl, .inl ⟨.of l1, .of l2, ?_⟩⟩
      rw [C.K]
      exact qq _ z1 G1 H1 (.refl gr.sub' gr.zG) rn (iter_zipL gr.sub' rv ru)
    | [.tup ys, .tup ws], e =>
      obtain ⟨v, u, rfl, rv, ru⟩ := repsB2 rp
      have e := Option.some.inj e
      subst e
      obtain ⟨a, us, rfl, l1⟩ := tupV gr.sub' gr.zG rv
      obtain ⟨b, us2, rfl, l2⟩ := tupV gr.sub' gr.zG ru
      rw [C.K]
      exact ⟨a, b, us, us2, rfl, .inr ⟨l1, l2, qq _ z1 G1 H1 (.refl gr.sub' gr.zG) rn (iter_zipT gr.sub' rv ru)⟩⟩
end
end Fp
end
section
set_option Elab.async false
set_option linter.all false
set_option maxRecDepth 100000
set_option autoImplicit false
set_option maxHeartbeats 1000000
/-! Targets. -/
namespace Fp
open PySem PySem.Spec PyProof.Rows L2

abbrev Tg.slots := tg1
abbrev Tg.slotss := tgs
/-- slots of ρ change at is alone -/
def Only (is : List Nat) (σ σ' : L2.St) : Prop := σ'.length = σ.length ∧ ∀ j, j ∉ is → σ'[j]? = σ[j]?
section
variable {F : Fx} {Pt : Prv} {z : List Addr} {ρ : List Sl} {σ : L2.St} {G H : Hp}
theorem getSet {α : Type} (l : List α) (i j : Nat) (x : α) : (l.set i x)[j]? = if i = j ∧ i < l.length then some x else l[j]? := by
  by_cases e : i = j
  · subst e
    by_cases h : i < l.length
    · rw [List.getElem?_set_self h, if_pos ⟨rfl, h⟩]
    · rw [List.set_eq_of_length_le (by omega), if_neg (by omega)]
  · rw [List.getElem?_set_ne e, if_neg (by simp [e])]
/-- a slot gets something shared -/
theorem Rel.setSh (r : Rel F Pt z ρ σ G H) {i : Nat} {v : V} {d : D} (h : Rep F z G v d) : Rel F Pt z (ρ.set i (.sh d)) (σ.set i (some v)) G H where
  sub := r.sub
  zG := r.zG
  len := by rw [List.length_set, List.length_set]; exact r.len
  sh := fun j e hj => by
    rw [getSet] at hj ⊢
    rw [← r.len]
    by_cases c : i = j ∧ i < ρ.length
    · rw [if_pos c] at hj ⊢
      cases hj
      exact ⟨v, rfl, h⟩
    · rw [if_neg c] at hj ⊢
      exact r.sh j e hj
  ow := fun j e hj => by
    rw [getSet] at hj ⊢
    rw [← r.len]
    by_cases c : i = j ∧ i < ρ.length
    · rw [if_pos c] at hj
      cases hj
    · rw [if_neg c] at hj ⊢
      exact r.ow j e hj
  inj := fun j k e f a h1 h2 h3 h4 => by
    rw [getSet] at h1 h2 h3 h4
    rw [← r.len] at h3 h4
    by_cases c : i = j ∧ i < ρ.length
    · rw [if_pos c] at h1; cases h1
    · by_cases c2 : i = k ∧ i < ρ.length
      · rw [if_pos c2] at h2; cases h2
      · rw [if_neg c] at h1 h3
        rw [if_neg c2] at h2 h4
        exact r.inj j k e f a h1 h2 h3 h4
  pt := r.pt
  xc := fun j c fs hj => by
    rw [getSet] at hj ⊢
    rw [← r.len]
    by_cases q : i = j ∧ i < ρ.length
    · rw [if_pos q] at hj; cases hj
    · rw [if_neg q] at hj ⊢
      exact r.xc j c fs hj
theorem Only.set {i : Nat} {v : Option V} : Only [i] σ (σ.set i v) := ⟨List.length_set, fun j hj => by rw [List.getElem?_set_ne (fun e => hj (by simp [e]))]⟩
theorem Only.refl (is : List Nat) : Only is σ σ := ⟨rfl, fun _ _ => rfl⟩
theorem Only.trans {is js : List Nat} {σ1 σ2 : L2.St} (a : Only is σ σ1) (b : Only js σ1 σ2) : Only (is ++ js) σ σ2 :=
  ⟨b.1.trans a.1, fun j hj => by
    simp only [List.mem_append, not_or] at hj
    rw [b.2 j hj.2, a.2 j hj.1]⟩
end
/-- a target's reading -/
def tG (F : Fx) (Pt : Prv) (ρ : List Sl) (tg : Tg) : TG := fun v σ H Q => ∃ z G d ρ', Rel F Pt z ρ σ G H ∧ Rep F z G v d ∧ bindT tg d ρ = some ρ' ∧ ∀ σ', Rel F Pt z ρ' σ' G H → Only tg.slots σ σ' → Q σ' H
def tGs (F : Fx) (Pt : Prv) (ρ : List Sl) (ts : List Tg) : TGs := fun vs σ H Q => ∃ z G ds ρ', Rel F Pt z ρ σ G H ∧ RepAll F z G vs ds ∧ bindTs ts ds ρ = some ρ' ∧ ∀ σ', Rel F Pt z ρ' σ' G H → Only (Tg.slotss ts) σ σ' → Q σ' H
def locB (L : Lc) (x : Str) : Bool := match L.sc.names.lookup x with
  | some .local => true
  | some .cell => L.fn x
  | _ => false
def nmW (L : Lc) (i : Nat) (x : Str) : Bool := decide (L.N[i]? = some x) && locB L x
mutual
def Tg.w (L : Lc) : Tg → Bool
  | .nm i x _ => nmW L i x
  | .tp ts _ _ => L.calm && Tg.ws L ts
def Tg.ws (L : Lc) : List Tg → Bool
  | [] => true
  | t :: ts => t.w L && Tg.ws L ts
end
section
variable {F : Fx} {n k : Nat} {X : Cx} {W : WX} {L : Lc} {Pt : Prv} {ρ : List Sl} {r : Ev} {c : Bool} {M : Gn}
theorem locB_ok (O : LcOk L X) {x : Str} (h : locB L x = true) : Loc X.env.scope x ∧ (X.fn x = true ∨ X.env.scope.names.lookup x = some .local) := by
  unfold locB at h
  rw [← O.sc] at h
  split at h
  · rename_i e; exact ⟨.inl e, .inr e⟩
  · rename_i e; exact ⟨.inr e, .inl (by rw [O.fn]; exact h)⟩
  · cases h
theorem each_len (env : Env) : ∀ ts : List Tg, (assignEach (Tg.uns ts) env).length = ts.length
  | [] => rfl
  | .nm .. :: r => by simp only [Tg.uns, Tg.un, assignEach, List.length_cons, each_len env r]
  | .tp .. :: r => by simp only [Tg.uns, Tg.un, assignEach, List.length_cons, each_len env r]
theorem each_star (env : Env) : ∀ ts : List Tg, (assignEach (Tg.uns ts) env).findIdx? (·.1) = none
  | [] => rfl
  | .nm .. :: r => by
    have := each_star env r
    simp only [Tg.uns, Tg.un, assignEach, List.findIdx?_cons, Bool.false_eq_true, if_false, this, Option.map_none]
  | .tp .. :: r => by
    have := each_star env r
    simp only [Tg.uns, Tg.un, assignEach, List.findIdx?_cons, Bool.false_eq_true, if_false, this, Option.map_none]
theorem bindTs_len : ∀ {ts : List Tg} {ds : List D} {ρ ρ' : List Sl}, bindTs ts ds ρ = some ρ' → ds.length = ts.length
  | [], [], _, _, _ => rfl
  | [], _ :: _, _, _, h => by simp [bindTs] at h
  | _ :: _, [], _, _, h => by simp [bindTs] at h
  | t :: ts, d :: ds, ρ, ρ', h => by
    rw [bindTs] at h
    cases e : bindT t d ρ with
    | none => rw [e] at h; cases h
    | some ρ1 => rw [e] at h; simp [bindTs_len h]
mutual
theorem snd_T (C : Ctx F k X) (O : LcOk L X) : ∀ {tg : Tg} {ρ : List Sl}, tg.w L = true → PG X tg.un (tG F Pt ρ tg)
  | .nm i x p, ρ, hw => by
    obtain ⟨h1, h2⟩ := and2 hw
    obtain ⟨l1, l2⟩ := locB_ok O h2
    refine ⟨fun pins s σ H v u Q I rv h => (pg_name (i := i) C.nd (by rw [O.N]; exact of_decide_eq_true h1) l1 l2).run pins s σ H v u Q I rv ?_⟩
    obtain ⟨z, G, d, ρ', rel, rp, hb, q⟩ := h
    simp only [bindT, Option.some.injEq] at hb
    subst hb
    exact q _ (rel.setSh rp) .set
  | .tp ts kk p, ρ, hw => by
    obtain ⟨h1, h2⟩ := and2 hw
    have hc : X.calm = true := by rw [O.calm]; exact h1
    have et : (Tg.tp ts kk p).un = .Tuple (Tg.uns ts) kk p := by simp only [Tg.un]
    rw [et]
    refine ⟨fun pins s σ H v u Q I rv h => ?_⟩
    obtain ⟨z, G, d, ρ', rel, rp, hb, q⟩ := h
    cases d with
    | tup ds =>
      simp only [bindT] at hb
      cases rp with
      | @tup a vs _ h3 h4 =>
        exact (pg_tup hc (snd_Ts C O (ts := ts) (ρ := ρ) h2) (each_len X.env ts) (each_star X.env ts)).run pins s σ H _ u Q I rv ⟨a, vs, rfl, by rw [C.K]; exact sqTSub rel.sub h3, by rw [h4.length]; exact bindTs_len hb, z, G, ds, ρ', rel, h4, hb, q⟩
    | lst ds =>
      simp only [bindT] at hb
      cases rp with
      | @lst a vs _ h3 h4 =>
        exact (pg_unl hc (snd_Ts C O (ts := ts) (ρ := ρ) h2) (each_len X.env ts) (each_star X.env ts)).run pins s σ H _ u Q I rv ⟨a, vs, rfl, .of (rel.sub _ _ h3), by rw [h4.length]; exact bindTs_len hb, z, G, ds, ρ', rel, h4, hb, q⟩
    | _ => simp [bindT] at hb
theorem snd_Ts (C : Ctx F k X) (O : LcOk L X) : ∀ {ts : List Tg} {ρ : List Sl}, Tg.ws L ts = true → PGs X (Tg.uns ts) (tGs F Pt ρ ts)
  | [], ρ, hw => by
    refine ⟨fun pins s σ H vs us Q I rv h => pgs_nil.run pins s σ H vs us Q I rv ?_⟩
    obtain ⟨z, G, ds, ρ', rel, rp, hb, q⟩ := h
    cases ds with
    | nil =>
      cases rp
      simp only [bindTs, Option.some.injEq] at hb
      subst hb
      exact ⟨rfl, q σ rel (.refl _)⟩
    | cons => simp [bindTs] at hb
  | t :: ts, ρ, hw => by
    obtain ⟨h1, h2⟩ := and2 hw
    refine ⟨fun pins s σ H vs us Q I rv h => ?_⟩
    obtain ⟨z, G, ds, ρ', rel, rp, hb, q⟩ := h
    cases rp with
    | nil => simp [bindTs] at hb
    | @cons v vs d ds h3 h4 =>
      rw [bindTs] at hb
      cases e : bindT t d ρ with
      | none => rw [e] at hb; cases hb
      | some ρ1 =>
        rw [e] at hb
        refine (pgs_cons (snd_T C O (tg := t) (ρ := ρ) h1) (snd_Ts C O (ts := ts) (ρ := ρ1) h2) ?_).run pins s σ H _ us Q I rv ⟨v, vs, rfl, z, G, d, ρ1, rel, h3, e, fun σ1 rel1 o1 => ⟨z, G, ds, ρ', rel1, h4, hb, fun σ2 rel2 o2 => q σ2 rel2 (o1.trans o2)⟩⟩
        cases t <;> rfl
end
end
end Fp
end
section
set_option Elab.async false
set_option linter.all false
set_option maxRecDepth 100000
set_option autoImplicit false
set_option maxHeartbeats 1000000
/-! List comprehensions. -/
namespace Fp
open PySem PySem.Spec PyProof.Rows L2

/-- a name of a block: what is free there and a cell around is a cell -/
def relN (sc : Scope) (y : Str × NameKind) : Str × NameKind := match y.2 with
  | .free => (match sc.kind, sc.names.lookup y.1 with
    | .function, some .cell => (y.1, .cell)
    | _, _ => y)
  | _ => y
def relSc (scope sc : Scope) : Scope := { scope with names := scope.names.map (relN sc) }
theorem relSc_is (scope : Scope) (env : Env) : relabel scope env = relSc scope env.scope := by
  unfold relabel relSc
  congr 1
  refine List.map_congr_left fun y _ => ?_
  obtain ⟨n, k⟩ := y
  show (if (k == .free && env.scope.kind == .function && env.scope.names.lookup n == some .cell) then (n, NameKind.cell) else (n, k)) = relN env.scope (n, k)
  unfold relN
  cases k <;> first
    | rfl
    | (simp only
       cases env.scope.kind <;> first
         | rfl
         | (cases env.scope.names.lookup n with
            | none => rfl
            | some q => cases q <;> rfl))
def blkL (L : Lc) (scope : Scope) : Lc := ⟨L.N, relSc scope L.sc, fun x => scope.names.lookup x == some .cell, L.calm⟩
def blkB (L : Lc) (scope : Scope) (own : List (Str × Nat)) : Bool :=
  isK' scope && (scope.names.all (fun y => decide (scope.names.lookup y.1 = some y.2)) && (own.all (fun p => decide (L.N[p.2]? = some p.1)) &&
    (scope.names.all (fun y => !decide (y.2 = .free) || (decide (L.sc.names.lookup y.1 = some .cell) || decide (L.sc.names.lookup y.1 = some .free))) &&
      scope.names.all (fun y => !(decide (y.2 = .local) || decide (y.2 = .cell)) || ((own.map (·.1)).contains y.1 || !L.N.contains y.1)))))
where isK' (scope : Scope) : Bool := decide (scope.kind = .function)
section
variable {F : Fx} {n k : Nat} {X : Cx} {W : WX} {L : Lc} {Pt : Prv} {ρ : List Sl} {r : Ev} {c : Bool} {M : Gn}
theorem blkB_ok (O : LcOk L X) {scope : Scope} {own : List (Str × Nat)} (h : blkB L scope own = true) : BlkOk X.N X.env.scope scope own := by
  unfold blkB at h
  obtain ⟨h1, h⟩ := and2 h
  obtain ⟨h2, h⟩ := and2 h
  obtain ⟨h3, h⟩ := and2 h
  obtain ⟨h4, h5⟩ := and2 h
  rw [O.N, O.sc]
  refine ⟨of_decide_eq_true h1, fun y hy => of_decide_eq_true (List.all_eq_true.mp h2 y hy), fun p hp => of_decide_eq_true (List.all_eq_true.mp h3 p hp), fun y hy e => ?_, fun y hy e => ?_⟩
  · have := List.all_eq_true.mp h4 y hy
    rw [decide_eq_true e] at this
    simp only [Bool.not_true, Bool.false_or, Bool.or_eq_true, decide_eq_true_eq] at this
    exact this
  · have := List.all_eq_true.mp h5 y hy
    have e' : (decide (y.2 = .local) || decide (y.2 = .cell)) = true := by
      rcases e with e | e
      · simp [e]
      · simp [e]
    rw [e'] at this
    simp only [Bool.not_true, Bool.false_or, Bool.or_eq_true, Bool.not_eq_true'] at this
    rcases this with q | q
    · exact .inl (by simpa using q)
    · exact .inr (by simpa using q)
theorem LcOk.blk (O : LcOk L X) (s : Shared) (H : Hp) (scope : Scope) (cl : List (Str × Addr)) (Ca : Addr) (fp : List Addr) : LcOk (blkL L scope) (X.blk s H scope (compEnvC scope cl Ca X.env) fp) where
  N := O.N
  sc := by show relabel scope X.env = relSc scope L.sc; rw [relSc_is, O.sc]
  fn := rfl
  calm := O.calm
theorem Ctx.blk (C : Ctx F k X) (s : Shared) (H : Hp) (scope : Scope) (env : Env) (fp : List Addr) : Ctx F k (X.blk s H scope env fp) := ⟨C.prog, C.w, C.K, C.mg, C.base, C.nd, C.room⟩

/-! ### the block's slots -/
variable {z : List Addr} {σ : L2.St} {G H : Hp}
theorem Rel.setUn (r : Rel F Pt z ρ σ G H) (i : Nat) : Rel F Pt z (ρ.set i .un) (σ.set i none) G H where
  sub := r.sub
  zG := r.zG
  len := by rw [List.length_set, List.length_set]; exact r.len
  sh := fun j e hj => by
    rw [getSet] at hj ⊢
    rw [← r.len]
    by_cases c : i = j ∧ i < ρ.length
    · rw [if_pos c] at hj; cases hj
    · rw [if_neg c] at hj ⊢
      exact r.sh j e hj
  ow := fun j e hj => by
    rw [getSet] at hj ⊢
    rw [← r.len]
    by_cases c : i = j ∧ i < ρ.length
    · rw [if_pos c] at hj; cases hj
    · rw [if_neg c] at hj ⊢
      exact r.ow j e hj
  inj := fun j k e f a h1 h2 h3 h4 => by
    rw [getSet] at h1 h2 h3 h4
    rw [← r.len] at h3 h4
    by_cases c : i = j ∧ i < ρ.length
    · rw [if_pos c] at h1; cases h1
    · by_cases c2 : i = k ∧ i < ρ.length
      · rw [if_pos c2] at h2; cases h2
      · rw [if_neg c] at h1 h3
        rw [if_neg c2] at h2 h4
        exact r.inj j k e f a h1 h2 h3 h4
  pt := r.pt
  xc := fun j c fs hj => by
    rw [getSet] at hj ⊢
    rw [← r.len]
    by_cases q : i = j ∧ i < ρ.length
    · rw [if_pos q] at hj; cases hj
    · rw [if_neg q] at hj ⊢
      exact r.xc j c fs hj
theorem Rel.wipe (r : Rel F Pt z ρ σ G H) : ∀ own : List (Str × Nat), Rel F Pt z (wipeS ρ own) (L2.wipe σ (own.map (·.2))) G H
  | [] => r
  | (x, v) :: vs => (Rel.wipe r vs).setUn v
theorem wipe_get : ∀ (vs : List Nat) (σ : L2.St) (j : Nat), (L2.wipe σ vs)[j]? = if j ∈ vs ∧ j < σ.length then some none else σ[j]?
  | [], σ, j => by simp [L2.wipe]
  | v :: vs, σ, j => by
    rw [L2.wipe, getSet, wipe_get vs σ j, wipe_length]
    by_cases e : v = j
    · subst e
      by_cases h : v < σ.length
      · simp [h]
      · simp [h]
    · have e' : ¬ j = v := fun q => e q.symm
      simp [e, e']
theorem wipe_only {vs is : List Nat} {σ σ' : L2.St} (o : Only is (L2.wipe σ vs) σ') (h : ∀ i ∈ is, i ∈ vs) : L2.wipe σ' vs = L2.wipe σ vs := by
  have len : σ'.length = σ.length := by rw [o.1, wipe_length]
  apply List.ext_getElem?
  intro j
  rw [wipe_get, wipe_get, len]
  by_cases c : j ∈ vs
  · by_cases l : j < σ.length
    · simp [c, l]
    · have h1 : σ'[j]? = none := List.getElem?_eq_none (by omega)
      have h2 : σ[j]? = none := List.getElem?_eq_none (by omega)
      simp [c, l, h1, h2]
  · simp only [c, false_and, if_false]
    rw [o.2 j fun m => c (h j m), wipe_get]
    simp [c]
/-- something private is written -/
theorem Grow.write {z0 z : List Addr} {G0 H0 G H : Hp} {p : Addr} {o : HO} (g : Grow z0 G0 H0 z G H) (h0 : H0 p = none) (hG : G p = none) : Grow z0 G0 H0 z G (upd H p o) where
  zl := g.zl
  same := fun a u h n => by rw [upd_ne (ne_of_none h h0)]; exact g.same a u h n
  sub' := fun a u h => by
    rw [upd_ne (fun e => by subst e; rw [hG] at h; cases h)]
    exact g.sub' a u h
  sub := g.sub
  new := g.new
  zG := g.zG
  zn := g.zn
/-- something private is shared -/
theorem Grow.share {z0 z : List Addr} {G0 H0 G H : Hp} {p : Addr} {o : HO} (g : Grow z0 G0 H0 z G H) (h0 : H0 p = none) (hG : G p = none) (hp : H p = some o) (nz : p ∉ z) : Grow z0 G0 H0 z (upd G p o) H where
  zl := g.zl
  same := g.same
  sub' := fun a u h => by
    by_cases e : a = p
    · subst e; rw [upd_same] at h; rw [hp]; exact h
    · rw [upd_ne e] at h; exact g.sub' a u h
  sub := fun a u h => by
    by_cases e : a = p
    · subst e
      have := g.sub a u h
      rw [hG] at this; cases this
    · rw [upd_ne e]; exact g.sub a u h
  new := fun a h => by
    by_cases e : a = p
    · subst e; exact .inr h0
    · rw [upd_ne e] at h; exact g.new a h
  zG := fun a m => by
    rw [upd_ne (fun e => nz (by rw [← e]; exact m))]
    exact g.zG a m
  zn := g.zn
theorem RngAt.write {z : List Addr} {g : Gs} {H : Hp} {p : Addr} {o : HO} (h : RngAt F z g H) (n : p ∉ z) : RngAt F z g (upd H p o) := by
  rcases h with h | ⟨m, c, r, e, n1, n2, n3, h1, h2, h3⟩
  · exact .inl h
  · rw [e] at n
    simp only [List.mem_cons, List.not_mem_nil, or_false, not_or] at n
    exact .inr ⟨m, c, r, e, n1, n2, n3, by rw [upd_ne (fun q => n.1 q.symm)]; exact h1, by rw [upd_ne (fun q => n.2.1 q.symm)]; exact h2, by rw [upd_ne (fun q => n.2.2 q.symm)]; exact h3⟩
/-- a private address stays out of the drawing state -/
theorem Grow.notin {z z' : List Addr} {G H G' H' : Hp} {p : Addr} {o : HO} (g : Grow z G H z' G' H') (hp : H p = some o) (n : p ∉ z) : p ∉ z' := by
  intro m
  rcases g.zl with e | e
  · have := g.zn e p m; rw [hp] at this; cases this
  · rw [e] at m; exact n m
/-- a private address stays private -/
theorem Grow.priv {z z' : List Addr} {G H G' H' : Hp} {p : Addr} {o : HO} (g : Grow z G H z' G' H') (hp : H p = some o) (hG : G p = none) : G' p = none := by
  cases q : G' p with
  | none => rfl
  | some x =>
    rcases g.new p (by rw [q]; simp) with y | y
    · exact absurd hG y
    · rw [hp] at y; cases y
/-- tests of a comprehension -/
def tBs (F : Fx) (Pt : Prv) (r : Ev) (ifs : List Xp) : TT := fun σ H Q => ∃ ρ, tB F Pt ρ (fun g => evAll r ρ g ifs) (fun _ _ _ _ => False) σ H Q
theorem snd_ifs {ifs : List Xp} (hl : ifs.length ≤ 1) (h : ∀ ρ, ∀ e ∈ ifs, PT X e.un (tB F Pt ρ (fun g => evB r ρ g e) fun _ _ _ _ => False)) : PTs X (Xp.uns ifs) (tBs F Pt r ifs) := by
  rcases ifs with _ | ⟨e, _ | ⟨e2, es⟩⟩
  · refine ⟨fun pins s σ H Q I hw => pts_nil.run pins s σ H Q I ?_⟩
    obtain ⟨ρ, z, G, g, rel, rng, out⟩ := hw
    exact out z G H (.refl rel.sub rel.zG) rng
  · refine ⟨fun pins s σ H Q I hw => ?_⟩
    obtain ⟨ρ, z, G, g, rel, rng, out⟩ := hw
    refine (pts_one (h ρ e (by simp))).run pins s σ H Q I ⟨z, G, g, rel, rng, ?_⟩
    simp only [evAll] at out
    dsimp only
    cases q : evB r ρ g e with
    | no => rw [q] at out; exact out
    | ex cl fs g' => rw [q] at out; exact out
    | ok b g' =>
      rw [q] at out
      cases b
      · exact out
      · exact out
  · simp at hl
end
end Fp
end
section
set_option Elab.async false
set_option linter.all false
set_option maxRecDepth 100000
set_option autoImplicit false
set_option maxHeartbeats 1000000
/-! What is made anew and held by no one. -/
namespace Fp
open PySem PySem.Spec PyProof.Rows L2
section
variable {F : Fx} {z z1 : List Addr} {G H G1 H1 : Hp} {W : XK}
/-- an owned dict is shared -/
theorem OwnAt.rep {a : Addr} {d : D} (h : OwnAt F z G H a d) (gA : G a = none) : ∃ o, H a = some o ∧ Rep F z (upd G a o) (.ref a) d := by
  have sub : ∀ o, Sub G (upd G a o) := fun o b u e => by
    rw [upd_ne (fun q => by subst q; rw [gA] at e; cases e)]
    exact e
  cases d with
  | lst ds =>
    obtain ⟨vs, h1, h2⟩ := h
    exact ⟨_, h1, .lst upd_same (h2.mono (.refl z) (sub _))⟩
  | dic ks vs =>
    rcases h with ⟨e, h1, h2, h3⟩ | ⟨e, h1, h2, h3⟩
    · exact ⟨_, h1, .dicT upd_same (h2.mono (.refl z) (sub _)) (h3.mono (.refl z) (sub _))⟩
    · exact ⟨_, h1, .dicK upd_same h2 (h3.mono (.refl z) (sub _))⟩
  | _ => exact h.elim

/-- what is free behind was free ahead -/
theorem Grow.back (g : Grow z G H z1 G1 H1) {p : Addr} (n : H1 p = none) (nz : p ∉ z1) : H p = none := by
  cases e : H p with
  | none => rfl
  | some o =>
    by_cases m : p ∈ z
    · rcases g.zl with q | q
      · rw [q] at m; cases m
      · rw [q] at nz; exact absurd m nz
    · have := g.same p o e m
      rw [n] at this; cases this
/-- a new list or dict, held by no one; other data as ever -/
def OutN (F : Fx) (z : List Addr) (G H : Hp) (r : Rs D) (Q : V → Hp → Prop) (W : XK) : Prop := match r with
  | .ok d g' => (isMut d = false → ∀ v z' G' H', Grow z G H z' G' H' → RngAt F z' g' H' → Rep F z' G' v d → Q v H') ∧
      ∀ a z' G' H', Grow z G H z' G' H' → RngAt F z' g' H' → H a = none → G' a = none → a ∉ z' → OwnAt F z' G' H' a d → Q (.ref a) H'
  | .ex cl fs g' => ∀ da z' G' H', Grow z G H z' G' H' → RngAt F z' g' H' → ExcAt F z' G' H' cl fs da → W (.ref (F.ca cl)) da H'
  | .no => False
theorem OutN.grow {r : Rs D} {Q : V → Hp → Prop} (h : OutN F z G H r Q W) (g : Grow z G H z1 G1 H1) : OutN F z1 G1 H1 r Q W := by
  cases r with
  | ok d g' =>
    refine ⟨fun m v z' G' H' gr rn rp => h.1 m v z' G' H' (g.trans gr) rn rp, fun a z' G' H' gr rn n gA nz oa => h.2 a z' G' H' (g.trans gr) rn (g.back n fun m => ?_) gA nz oa⟩
    rcases gr.zl with q | q
    · rw [q] at m; cases m
    · rw [q] at nz; exact nz m
  | ex cl fs g' => exact fun da z' G' H' gr rn rp => h da z' G' H' (g.trans gr) rn rp
  | no => exact h
theorem Out.toN {c : Bool} {r : Rs D} {Q : V → Hp → Prop} (h : Out F c z G H r Q W) : OutN F z G H r Q W := by
  cases r with
  | ok d g' =>
    refine ⟨fun _ v z' G' H' gr rn rp => h v z' G' H' gr rn (.of rp), fun a z' G' H' gr rn n gA nz oa => ?_⟩
    obtain ⟨o, at_, rp⟩ := oa.rep gA
    exact h (.ref a) z' _ H' (gr.share n gA at_ nz) rn (.of rp)
  | ex cl fs g' => exact h
  | no => exact h
/-- a new list -/
theorem OutN.lst {ds : List D} {g g1 : Gs} {Q : V → Hp → Prop} {vs : List V} {p : Addr} (h : OutN F z1 G1 H1 (.ok (.lst ds) g1) Q W) (sb : Sub G1 H1) (hz : ∀ a ∈ z1, G1 a = none) (rn : RngAt F z1 g1 H1) (n : H1 p = none) (rp : RepAll F z1 G1 vs ds) : Q (.ref p) (upd H1 p (.lst vs)) := by
  refine h.2 p z1 G1 _ (.aside sb hz n) (rn.keep fun a o e => by rw [upd_ne (ne_of_none e n)]; exact e) n ?_ (rn.there n) ⟨vs, upd_same, rp⟩
  cases e : G1 p with
  | none => rfl
  | some o => have := sb p o e; rw [n] at this; cases this
end
def tN (F : Fx) (Pt : Prv) (ρ : List Sl) (r : Gs → Rs D) (W : WX) : TE := fun σ H Q =>
  ∃ z G g, Rel F Pt z ρ σ G H ∧ RngAt F z g H ∧ OutN F z G H (r g) Q fun cl d H' => W cl d σ H'
theorem tX_tN {F : Fx} {Pt : Prv} {ρ : List Sl} {c : Bool} {r : Gs → Rs D} {W : WX} {σ : L2.St} {H : Hp} {Q : VK} (h : tX F Pt ρ c r W σ H Q) : tN F Pt ρ r W σ H Q := by
  obtain ⟨z, G, g, rel, rng, out⟩ := h
  exact ⟨z, G, g, rel, rng, out.toN⟩
theorem PE.ofN {F : Fx} {Pt : Prv} {ρ : List Sl} {c : Bool} {r : Gs → Rs D} {W : WX} {X : Cx} {e : Expr} (h : PE X e (tN F Pt ρ r W)) : PE X e (tX F Pt ρ c r W) := PE.imp h fun _ _ _ => tX_tN
theorem outL_bindN {F : Fx} {c : Bool} {z : List Addr} {G H : Hp} {r : Rs (List D)} {f : List D → Gs → Rs D} {Q : V → Hp → Prop} {Q1 : List V → Hp → Prop} {W : XK} (h : OutN F z G H (r.bind f) Q W)
    (k : ∀ ds g1 vs z1 G1 H1, Grow z G H z1 G1 H1 → RngAt F z1 g1 H1 → Reps F c z1 G1 H1 vs ds → OutN F z1 G1 H1 (f ds g1) Q W → Q1 vs H1) : OutL F c z G H r Q1 W := by
  cases r with
  | ok d g' => exact fun v z' G' H' gr rn rp => k d g' v z' G' H' gr rn rp (OutN.grow (show OutN F z G H (f d g') Q W from h) gr)
  | ex cl fs g' => exact h
  | no => exact h
theorem out_bindN {F : Fx} {c : Bool} {z : List Addr} {G H : Hp} {r : Rs D} {f : D → Gs → Rs D} {Q : V → Hp → Prop} {Q1 : V → Hp → Prop} {W : XK} (h : OutN F z G H (r.bind f) Q W)
    (k : ∀ d g1 v z1 G1 H1, Grow z G H z1 G1 H1 → RngAt F z1 g1 H1 → RepB F c z1 G1 H1 v d → OutN F z1 G1 H1 (f d g1) Q W → Q1 v H1) : Out F c z G H r Q1 W := by
  cases r with
  | ok d g' => exact fun v z' G' H' gr rn rp => k d g' v z' G' H' gr rn rp (OutN.grow (show OutN F z G H (f d g') Q W from h) gr)
  | ex cl fs g' => exact h
  | no => exact h
section
variable {F : Fx} {n k : Nat} {X : Cx} {W : WX} {L : Lc} {Pt : Prv} {ρ : List Sl} {r : Ev}
theorem snd_lstN (C : Ctx F k X) {es : List Xp} {p : Pos} (h : ∀ e ∈ es, SndI F X W Pt ρ r true e) : PE X (Xp.lst es p).un (tN F Pt ρ (fun g => stepE F.T r ρ g (.lst es p)) W) := by
  refine PE.imp (pe_lst (snd_L C h)) ?_
  rintro σ H Q ⟨z, G, g, rel, rng, out⟩
  refine ⟨z, G, g, rel, rng, outL_bindN out ?_⟩
  intro ds g1 vs z1 G1 H1 gr rn rp out
  cases t : fits ds.length with
  | false => rw [t] at out; exact out.elim
  | true =>
    rw [t] at out
    exact ⟨by rw [rp.len]; exact fits_size t, fun a n => OutN.lst (g := g) out gr.sub' gr.zG rn n rp.all⟩
/-- an operator that makes something anew -/
def rN (F : Fx) (f : D → D → Option D) : R2 := fun x y H Q => ∃ z G g d e r, Sub G H ∧ (∀ a ∈ z, G a = none) ∧ RngAt F z g H ∧ RepO F z G H x d ∧ RepO F z G H y e ∧ f d e = some r ∧
  OutN F z G H (.ok r g) Q fun _ _ _ => True
theorem bop_mut {op : Operator} {d e r : D} (h : bop op d e = some r) : isMut r = false ∨ ∃ ds es, op = .Add ∧ d = .lst ds ∧ e = .lst es ∧ fits (ds.length + es.length) = true ∧ r = .lst (ds ++ es) := by
  unfold bop at h
  split at h
  all_goals first
    | (cases h; left; rfl)
    | cases h
    | skip
  · rename_i a b
    cases c : fits (a.length + b.length) with
    | false => rw [c] at h; cases h
    | true => rw [c] at h; cases h; exact .inr ⟨a, b, rfl, rfl, rfl, c, rfl⟩
  all_goals (split at h <;> first | (cases h; left; rfl) | cases h)
theorem bopN_ok (C : Ctx F k X) (op : Operator) : OpR X (binaryOp op) (rN F (bop op)) := by
  intro pins s σ H x y v u Q I rx ry h
  obtain ⟨z, G, g, d, e, r, sb, hz, hg, hx, hy, hb, out⟩ := h
  rcases bop_mut hb with m | ⟨ds, es, rfl, rfl, rfl, c, rfl⟩
  · exact bop_ok C op pins s σ H x y v u Q I rx ry ⟨z, G, g, d, e, r, sb, hz, hg, hx, hy, hb, fun v' G' H' g' r' rp' => out.1 m v' z G' H' g' r' rp'⟩
  · obtain ⟨a, vs, rfl, h1, h2⟩ := hx.lst sb
    obtain ⟨b, us, rfl, h3, h4⟩ := hy.lst sb
    have l1 := h2.length
    have l2 := h4.length
    exact op_cat pins s σ H _ _ v u Q I rx ry ⟨a, b, vs, us, rfl, rfl, h1, h3, by rw [l1, l2]; exact fits_size c, fun p n => OutN.lst (g := g) out sb hz hg n (h2.append h4)⟩
theorem snd_binN (C : Ctx F k X) {a b : Xp} {op : Operator} {p : Pos} (ha : PE X a.un (tX F Pt ρ false (fun g => r.e ρ g a) W)) (hb : PE X b.un (tX F Pt ρ false (fun g => r.e ρ g b) W)) :
    PE X (Xp.bin a op b p).un (tN F Pt ρ (fun g => stepE F.T r ρ g (.bin a op b p)) W) := by
  refine PE.imp (pe_op (bopN_ok C op) ha hb) ?_
  rintro σ H Q ⟨z, G, g, rel, rng, out⟩
  refine ⟨z, G, g, rel, rng, out_bindN out ?_⟩
  intro d g1 v z1 G1 H1 gr rn rp out
  refine ⟨z1, G1, g1, rel.grow gr, rn, out_bindN out ?_⟩
  intro e g2 u z2 G2 H2 gr2 rn2 rp2 out
  cases hm : bop op d e with
  | none => rw [hm] at out; exact out.elim
  | some m =>
    rw [hm] at out
    exact ⟨z2, G2, g2, d, e, m, gr2.sub', gr2.zG, rn2, RepO.grow rp gr2, rp2, hm, out⟩
end
end Fp
end
section
set_option Elab.async false
set_option linter.all false
set_option maxRecDepth 100000
set_option autoImplicit false
set_option maxHeartbeats 1000000
/-! List comprehensions. -/
namespace Fp
open PySem PySem.Spec PyProof.Rows L2
abbrev W0 : WX := fun _ _ _ _ => False
section
variable {F : Fx} {n k : Nat} {X : Cx} {W : WX} {L : Lc} {Pt : Prv} {ρ : List Sl} {r : Ev} {c : Bool} {M : Gn}
theorem takes_blk (s : Shared) (H : Hp) (scope : Scope) (env : Env) (fp : List Addr) : Takes (X.blk s H scope env fp) W0 := fun u s' ⟨_, _, _, _, _, _, _, _, _, _, _, _, _, _, _, _, w⟩ => w
theorem fold_ok (it : Src) (env : Env) (x : Value) : foldedSetIterable it.un env x = pure x := by
  cases it with
  | src e => cases e <;> first | rfl | (simp only [Src.un, Xp.un]; rfl)
  | _ => first | rfl | (simp only [Src.un]; rfl)
def subN (is vs : List Nat) : Bool := is.all fun i => vs.contains i
theorem subN_ok {is vs : List Nat} (h : subN is vs = true) : ∀ i ∈ is, i ∈ vs := fun i hi => by
  have := List.all_eq_true.mp h i hi
  simpa using this
/-- the element's reading -/
def tEs (F : Fx) (Pt : Prv) (r : Ev) (e : Xp) : TE := fun σ H Q => ∃ ρ', tX F Pt ρ' true (fun g => r.e ρ' g e) W0 σ H Q
def lcW (L : Lc) (tg : Tg) (ifs : List Xp) (own : List (Str × Nat)) (sc : Scope) : Bool := L.calm && (blkB L sc own && (tg.w (blkL L sc) && (subN tg.slots (own.map (·.2)) && Nat.ble ifs.length 1)))
theorem lc_reads (C : Ctx F k X) (O : LcOk L X) {e : Xp} {tg : Tg} {it : Src} {ifs : List Xp} {own : List (Str × Nat)} {sc : Scope} {p : Pos} (hw : lcW L tg ifs own sc = true)
    :
    ∀ σ H Q, tN F Pt ρ (fun g => stepE F.T r ρ g (.lc e tg it ifs own sc p)) W σ H Q → tLc (tI F Pt ρ false (fun g => evI r ρ g it) W) (tG F Pt (wipeS ρ own) tg) (tBs F Pt r ifs) (tEs F Pt r e) (own.map (·.2)) σ H Q := by
  obtain ⟨h1, hw⟩ := and2 hw
  obtain ⟨h2, hw⟩ := and2 hw
  obtain ⟨h3, hw⟩ := and2 hw
  obtain ⟨h4, h5⟩ := and2 hw
  have h4 := subN_ok h4
  rintro σ H Q ⟨z, G, g, rel, rng, out⟩
  refine ⟨z, G, g, rel, rng, ?_⟩
  have out : OutN F z G H ((evI r ρ g it).bind fun ds g => match fits ds.length with
    | true => (lcGo r (wipeS ρ own) e tg ifs g ds).bind fun ys g => .ok (.lst ys) g
    | false => .no) Q fun cl d H' => W cl d σ H' := out
  dsimp only
  cases q : evI r ρ g it with
  | no => rw [q] at out; exact out
  | ex cl fs g' => rw [q] at out; exact out
  | ok ds g1 =>
    rw [q] at out
    intro J z1 G1 H1 gr1 rn1 itr D nD
    have out := out.grow gr1
    simp only [Rs.bind] at out
    cases hf : fits ds.length with
    | false => rw [hf] at out; exact out.elim
    | true =>
      rw [hf] at out
      simp only at out
      have hsz := fits_size hf
      have rel1 := rel.grow gr1
      refine ⟨fun i m H => m = ds.length - i ∧ i ≤ ds.length ∧ ∃ z2 G2 g2 acc accD, Grow z1 G1 H1 z2 G2 H ∧ RngAt F z2 g2 H ∧ H D = some (.lst acc) ∧ G2 D = none ∧ D ∉ z2 ∧ RepAll F z2 G2 acc accD ∧ acc.length ≤ i ∧
        OutN F z1 G1 H1 ((lcGo r (wipeS ρ own) e tg ifs g2 (ds.drop i)).bind fun ys g => .ok (.lst (accD ++ ys)) g) Q fun cl d H' => W cl d σ H',
        ⟨ds.length, by simp, Nat.zero_le _, z1, G1, g1, [], [], ?_, ?_, upd_same, ?_, rn1.there nD, .nil, Nat.le_refl _, out⟩, ?_⟩
      · exact Grow.aside gr1.sub' gr1.zG nD
      · exact rn1.keep fun a o h => by rw [upd_ne (ne_of_none h nD)]; exact h
      · cases e : G1 D with
        | none => rfl
        | some o => have := gr1.sub' D o e; rw [nD] at this; cases this
      · rintro i m H2 ⟨rfl, hile, z2, G2, g2, acc, accD, gr2, rn2, hD, gD, nz, racc, lacc, out2⟩
        obtain ⟨st, go⟩ := itr z2 G2 H2 g2 i gr2 gr2.sub' gr2.zG rn2
        by_cases hlt : i < ds.length
        · have hd : ds[i]? = some ds[i] := List.getElem?_eq_getElem hlt
          obtain ⟨g3, yl⟩ := go _ hd
          refine .inr ⟨g3, fun H' => ∃ z2 G2 g2 acc accD, Grow z1 G1 H1 z2 G2 H' ∧ RngAt F z2 g2 H' ∧ H' D = some (.lst acc) ∧ G2 D = none ∧ D ∉ z2 ∧ RepAll F z2 G2 acc accD ∧ acc.length ≤ i + 1 ∧
            OutN F z1 G1 H1 ((lcGo r (wipeS ρ own) e tg ifs g2 (ds.drop (i + 1))).bind fun ys g => .ok (.lst (accD ++ ys)) g) Q fun cl d H' => W cl d σ H', fun H' nx => ⟨ds.length - (i + 1), by omega, rfl, hlt, nx⟩, ?_⟩
          intro x H3 hy
          obtain ⟨G3, gr3, rn3, rpx⟩ := yl x H3 hy
          have grA := gr2.trans gr3
          have dropd : ds.drop i = ds[i] :: ds.drop (i + 1) := List.drop_eq_getElem_cons hlt
          rw [dropd, lcGo] at out2
          cases hb : bindT tg ds[i] (wipeS ρ own) with
          | none => rw [hb] at out2; exact out2.elim
          | some ρ' =>
            rw [hb] at out2
            simp only at out2
            have relB : Rel F Pt z2 (wipeS ρ own) (L2.wipe σ (own.map (·.2))) G3 H3 := (rel1.grow grA).wipe own
            have hD3 := gr3.same D _ hD nz
            have gD3 := gr3.priv hD gD
            refine ⟨z2, G3, ds[i], ρ', relB, rpx, hb, fun σ2 rel2 only => ⟨wipe_only only h4, ρ', z2, G3, g2, rel2, rn3, ?_⟩⟩
            dsimp only
            cases ha : evAll r ρ' g2 ifs with
            | no => rw [ha] at out2; exact out2.elim
            | ex cl fs g' => rw [ha] at out2; exact out2.elim
            | ok b g3 =>
              rw [ha] at out2
              intro z4 G4 H4 gr4 rn4
              have grB := grA.trans gr4
              have hD4 := gr4.same D _ hD3 nz
              have gD4 := gr4.priv hD3 gD3
              have nz4 := gr4.notin hD3 nz
              have racc4 := (racc.mono gr3.zl gr3.sub).mono gr4.zl gr4.sub
              cases b with
              | false =>
                (try dsimp only)
                rw [if_neg Bool.false_ne_true]
                exact ⟨z4, G4, g3, acc, accD, grB, rn4, hD4, gD4, nz4, racc4, by omega, out2⟩
              | true =>
                (try dsimp only)
                rw [if_pos rfl]
                simp only at out2
                refine ⟨ρ', z4, G4, g3, rel2.grow gr4, rn4, ?_⟩
                dsimp only
                cases hv : r.e ρ' g3 e with
                | no => rw [hv] at out2; exact out2.elim
                | ex cl fs g' => rw [hv] at out2; exact out2.elim
                | ok y g5 =>
                  rw [hv] at out2
                  intro v z5 G5 H5 gr5 rn5 rpv
                  have grC := grB.trans gr5
                  have hD5 := gr5.same D _ hD4 nz4
                  have gD5 := gr5.priv hD4 gD4
                  have nz5 := gr5.notin hD4 nz4
                  have racc5 := racc4.mono gr5.zl gr5.sub
                  have rpv : Rep F z5 G5 v y := rpv
                  refine ⟨acc, hD5, by omega, z5, G5, g5, acc ++ [v], accD ++ [y], grC.write nD gD5, rn5.write nz5, upd_same, gD5, nz5, racc5.append (.cons rpv .nil), by simp; omega, ?_⟩
                  simp only at out2
                  have eqq : ((lcGo r (wipeS ρ own) e tg ifs g5 (ds.drop (i + 1))).bind fun ys g => .ok (y :: ys) g).bind (fun ys g => Rs.ok (Fp.D.lst (accD ++ ys)) g) = (lcGo r (wipeS ρ own) e tg ifs g5 (ds.drop (i + 1))).bind fun ys g => Rs.ok (Fp.D.lst (accD ++ [y] ++ ys)) g := by
                    cases lcGo r (wipeS ρ own) e tg ifs g5 (ds.drop (i + 1)) with
                    | no => rfl
                    | ex cl fs g' => rfl
                    | ok ys g' => simp [Rs.bind]
                  rw [← eqq]
                  exact out2
        · have ei : ds.length = i := by omega
          have dn : ds.drop i = [] := List.drop_eq_nil_of_le (by omega)
          rw [dn, lcGo] at out2
          simp only [Rs.bind, List.append_nil] at out2
          exact .inl ⟨st ei, out2.2 D z2 G2 H2 gr2 rn2 nD gD nz ⟨acc, hD, racc⟩⟩
/-- what is asked of the parts of a comprehension -/
structure LcParts (F : Fx) (k : Nat) (X : Cx) (L : Lc) (Pt : Prv) (ρ : List Sl) (r : Ev) (W : WX) (tg : Tg) (it : Src) (ifs : List Xp) (sc : Scope) : Prop where
  hi : PI X tg.un it.un (tI F Pt ρ false (fun g => evI r ρ g it) W)
  ht : ∀ X', LcOk (blkL L sc) X' → Ctx F k X' → Takes X' W0 → ∀ ρ, ∀ e ∈ ifs, PT X' e.un (tB F Pt ρ (fun g => evB r ρ g e) W0)
theorem any_blk (C : Ctx F k X) (O : LcOk L X) {sc : Scope} (x : Xp) (hx : ∀ X', LcOk (blkL L sc) X' → Ctx F k X' → Takes X' W0 → ∀ ρ, PE X' x.un (tX F Pt ρ true (fun g => r.e ρ g x) W0)) : ∀ s H Ca cl fp, PE (X.blk s H sc (compEnvC sc cl Ca X.env) fp) x.un (tEs F Pt r x) := by
  intro s H Ca cl fp
  refine ⟨fun pins s2 σ H2 Q I hh => ?_⟩
  obtain ⟨ρ', hh⟩ := hh
  exact (hx _ (O.blk s H sc cl Ca fp) (C.blk s H sc _ fp) (takes_blk s H sc _ fp) ρ').run pins s2 σ H2 Q I hh
theorem snd_lcN (C : Ctx F k X) (O : LcOk L X) {e : Xp} {tg : Tg} {it : Src} {ifs : List Xp} {own : List (Str × Nat)} {sc : Scope} {p : Pos} (hw : lcW L tg ifs own sc = true) (P : LcParts F k X L Pt ρ r W tg it ifs sc)
    (he : ∀ X', LcOk (blkL L sc) X' → Ctx F k X' → Takes X' W0 → ∀ ρ, PE X' e.un (tX F Pt ρ true (fun g => r.e ρ g e) W0)) :
    PE X (Xp.lc e tg it ifs own sc p).un (tN F Pt ρ (fun g => stepE F.T r ρ g (.lc e tg it ifs own sc p)) W) := by
  have hw' := hw
  obtain ⟨h1, hw⟩ := and2 hw
  obtain ⟨h2, hw⟩ := and2 hw
  obtain ⟨h3, hw⟩ := and2 hw
  obtain ⟨h4, h5⟩ := and2 hw
  have eu : (Xp.lc e tg it ifs own sc p).un = .ListComp e.un [⟨tg.un, it.un, Xp.uns ifs, 0⟩] sc p := by simp only [Xp.un]
  rw [eu]
  exact PE.imp (pe_lc (by rw [O.calm]; exact h1) C.nd P.hi (blkB_ok O h2) (fun s H Ca cl fp => snd_T (Pt := Pt) (ρ := wipeS ρ own) (C.blk s H sc _ fp) (O.blk s H sc cl Ca fp) h3)
    (fun s H Ca cl fp => snd_ifs (Nat.le_of_ble_eq_true h5) (P.ht _ (O.blk s H sc cl Ca fp) (C.blk s H sc _ fp) (takes_blk s H sc _ fp))) (any_blk C O e he)
    (fun x => fold_ok it X.env x)) (lc_reads C O hw')
/-- x = [..] on one line -/
theorem snd_setLc (C : Ctx F k X) (O : LcOk L X) {e : Xp} {tg : Tg} {it : Src} {ifs : List Xp} {own : List (Str × Nat)} {sc : Scope} {p : Pos} (hw : lcW L tg ifs own sc = true) (P : LcParts F k X L Pt ρ r W tg it ifs sc)
    (he : ∀ X', LcOk (blkL L sc) X' → Ctx F k X' → Takes X' W0 → ∀ ρ, PE X' e.un (tX F Pt ρ true (fun g => r.e ρ g e) W0))
    {i : Nat} {y : Str} {py spos : Pos} (hy : X.N[i]? = some y) (hyl : X.env.scope.names.lookup y = some .local) (hsw : swapsWith (Xp.lc e tg it ifs own sc p).un (some (.Name y py)) spos.line X.env = pure true) :
    PS X (.Assign [.Name y py] (Xp.lc e tg it ifs own sc p).un spos) (tAsg (tN F Pt ρ (fun g => stepE F.T r ρ g (.lc e tg it ifs own sc p)) W) (gName i)) := by
  have hw' := hw
  obtain ⟨h1, hw⟩ := and2 hw
  obtain ⟨h2, hw⟩ := and2 hw
  obtain ⟨h3, hw⟩ := and2 hw
  obtain ⟨h4, h5⟩ := and2 hw
  have eu : (Xp.lc e tg it ifs own sc p).un = .ListComp e.un [⟨tg.un, it.un, Xp.uns ifs, 0⟩] sc p := by simp only [Xp.un]
  rw [eu] at hsw ⊢
  have ps := ps_setLc (by rw [O.calm]; exact h1) C.nd hy hyl hsw P.hi (blkB_ok O h2) (fun s H Ca cl fp => snd_T (Pt := Pt) (ρ := wipeS ρ own) (C.blk s H sc _ fp) (O.blk s H sc cl Ca fp) h3)
    (fun s H Ca cl fp => snd_ifs (Nat.le_of_ble_eq_true h5) (P.ht _ (O.blk s H sc cl Ca fp) (C.blk s H sc _ fp) (takes_blk s H sc _ fp))) (any_blk C O e he)
    (fun x => fold_ok it X.env x)
  exact ⟨fun pins s σ H D I hh => ps.run pins s σ H D I (lc_reads C O hw' σ H _ hh)⟩
end
end Fp
end
section
set_option Elab.async false
set_option linter.all false
set_option maxRecDepth 100000
set_option autoImplicit false
set_option maxHeartbeats 1000000
/-! A pair is put into a dict that is owned. -/
namespace Fp
open PySem PySem.Spec PyProof.Rows L2

section
variable {F : Fx} {z : List Addr} {G : Hp}
theorem EntT.keys : ∀ {ks ds : List D} {xs : List (NestedKey × Addr × Value)}, EntT F z G ks ds xs → xs.map (·.1) = ks.map D.nk
  | _, _, _, .nil => rfl
  | _, _, _, .cons _ _ _ _ r => by simp [r.keys]
theorem putAt_none {k : NestedKey} {u : Value} : ∀ {xs : List (NestedKey × Addr × Value)}, k ∉ xs.map (·.1) → xs.map (putAt k u) = xs
  | [], _ => rfl
  | x :: r, h => by
    simp only [List.map_cons, List.mem_cons, not_or] at h
    rw [List.map_cons, putAt_none h.2]
    have : putAt k u x = x := by unfold putAt; rw [if_neg fun e => h.1 e.symm]
    rw [this]
theorem putV_new {k d : D} : ∀ {ks vs : List D}, vs.length = ks.length → inD k ks = false → putV k d ks vs = vs ++ [d]
  | [], [], _, _ => rfl
  | [], _ :: _, h, _ => by simp at h
  | _ :: _, [], h, _ => by simp at h
  | y :: ks, w :: vs, h, e => by
    rw [inD] at e
    cases c : D.eqb y k with
    | true => rw [c] at e; cases e
    | false =>
      rw [c] at e
      rw [putV, c]
      simp only [List.cons_append]
      rw [putV_new (by simpa using h) e]
/-- the entry is there -/
theorem EntT.old {k d : D} {w : V} {u : Value} (hk : keyOk k = true) (tk : ∃ xs, k = .tup xs) (hw : Rep F z G w d) (rw' : RelV w u) : ∀ {ks ds : List D} {xs : List (NestedKey × Addr × Value)}, EntT F z G ks ds xs → (xs.map (·.1)).Nodup → inD k ks = true → EntT F z G ks (putV k d ks ds) (xs.map (putAt k.nk u))
  | _, _, _, .nil, _, h => by simp [inD] at h
  | _, _, _, .cons (k := k0) (d := d0) (b := b0) (u := u0) (v := v0) (ks := ks0) (ds := ds0) (xs := xs0) h e hv rv r, nd, hin => by
    rw [List.map_cons, List.nodup_cons] at nd
    have q := nk_dec e hk (rep_tup h e) tk
    by_cases c : k0.nk = k.nk
    · have c' : D.eqb k0 k = true := by rw [q]; exact decide_eq_true c
      rw [putV, c']
      have p1 : putAt k.nk u (k0.nk, b0, u0) = (k0.nk, b0, u) := by unfold putAt; rw [if_pos c]
      rw [List.map_cons, p1, putAt_none (by rw [← c]; exact nd.1)]
      exact .cons h e hw rw' r
    · have c' : D.eqb k0 k = false := by rw [q]; exact decide_eq_false c
      rw [inD, c'] at hin
      rw [putV, c']
      have p1 : putAt k.nk u (k0.nk, b0, u0) = (k0.nk, b0, u0) := by unfold putAt; rw [if_neg c]
      rw [List.map_cons, p1]
      exact .cons h e hv rv (EntT.old hk tk hw rw' r nd.2 hin)
theorem EntT.new {k d : D} {b : Addr} {w : V} {u : Value} (hb : Rep F z G (.ref b) k) (hk : keyOk k = true) (hw : Rep F z G w d) (rw' : RelV w u) : ∀ {ks ds : List D} {xs : List (NestedKey × Addr × Value)}, EntT F z G ks ds xs → EntT F z G (ks ++ [k]) (ds ++ [d]) (xs ++ [(k.nk, b, u)])
  | _, _, _, .nil => .cons hb hk hw rw' .nil
  | _, _, _, .cons h e hv rv r => .cons h e hv rv (EntT.new hb hk hw rw' r)
theorem EntT.put {k d : D} {b : Addr} {w : V} {u : Value} (hb : Rep F z G (.ref b) k) (hk : keyOk k = true) (tk : ∃ xs, k = .tup xs) (hw : Rep F z G w d) (rw' : RelV w u) {ks ds : List D} {xs : List (NestedKey × Addr × Value)} (h : EntT F z G ks ds xs) (nd : (xs.map (·.1)).Nodup) :
    EntT F z G (putK k ks) (putV k d ks ds) (storedH xs k.nk b u) := by
  have l := (h.look hk tk).1
  unfold putK storedH
  rw [← l]
  cases c : inD k ks with
  | true => rw [if_pos rfl]; exact h.old hk tk hw rw' nd c
  | false => rw [if_neg Bool.false_ne_true, putV_new (h.len.2) c]; exact h.new hb hk hw rw'
theorem entT_back : ∀ {ks ds : List D} {xs : List (NestedKey × Addr × Value)}, EntT F z G ks ds xs → ∃ ents : List (NestedKey × Addr × V), RepKeys F z G ents ks ∧ RepAll F z G (ents.map (·.2.2)) ds ∧
    Paired (fun (p : NestedKey × Addr × V) (q : NestedKey × Addr × Value) => p.1 = q.1 ∧ p.2.1 = q.2.1 ∧ RelV p.2.2 q.2.2) ents xs
  | _, _, _, .nil => ⟨[], .nil, .nil, .nil⟩
  | _, _, _, .cons (k := k0) (b := b0) (v := v0) h e hv rv r => by
    obtain ⟨ents, e1, e2, e3⟩ := entT_back r
    exact ⟨(k0.nk, b0, v0) :: ents, .cons h e e1, .cons hv e2, .cons ⟨rfl, rfl, rv⟩ e3⟩
/-! flat keys -/
theorem flat_eqb {k0 k : D} {kk0 kk : Key} (h0 : flatK k0 = some kk0) (h : flatK k = some kk) : D.eqb k0 k = decide (kk0 = kk) := by
  cases k0 <;> simp [flatK] at h0 <;> cases k <;> simp [flatK] at h <;> subst h0 h
  · rename_i i j
    simp only [D.eqb, intEq_iff, Sum.inl.injEq]
    by_cases e : i = j
    · simp [e]
    · simp [e]
  · simp [D.eqb]
  · simp [D.eqb]
  · rename_i x y
    simp only [D.eqb, Sum.inr.injEq]
    by_cases e : x = y
    · subst e; simp [strEq_refl]
    · rw [decide_eq_false (by simpa using e)]
      cases q : strEq x.cps.toList y.cps.toList with
      | false => rfl
      | true => exact absurd (strEqB_eq q) e
theorem putK_none {kk : Key} {w : V} : ∀ {kvs : List (Key × V)}, kk ∉ kvs.map (·.1) → kvs.map (fun kv => if kv.1 = kk then (kv.1, w) else kv) = kvs
  | [], _ => rfl
  | x :: r, h => by
    simp only [List.map_cons, List.mem_cons, not_or] at h
    rw [List.map_cons, putK_none h.2, if_neg fun e => h.1 e.symm]
/-- flat keys, one by one -/
inductive FlatE (F : Fx) (z : List Addr) (G : Hp) : List (Key × V) → List D → List D → Prop
  | nil : FlatE F z G [] [] []
  | cons {kk : Key} {v : V} {k d : D} {r : List (Key × V)} {ks ds : List D} : flatK k = some kk → Rep F z G v d → FlatE F z G r ks ds → FlatE F z G ((kk, v) :: r) (k :: ks) (d :: ds)
theorem flatE_of : ∀ {kvs : List (Key × V)} {ks ds : List D}, RepFlat kvs ks → RepAll F z G (kvs.map (·.2)) ds → FlatE F z G kvs ks ds
  | _, _, _, .nil, .nil => .nil
  | _, _, _, .int r, .cons h t => .cons rfl h (flatE_of r t)
  | _, _, _, .str r, .cons h t => .cons rfl h (flatE_of r t)
theorem flatE_back : ∀ {kvs : List (Key × V)} {ks ds : List D}, FlatE F z G kvs ks ds → RepFlat kvs ks ∧ RepAll F z G (kvs.map (·.2)) ds
  | _, _, _, .nil => ⟨.nil, .nil⟩
  | _, _, _, .cons (k := k) e h r => by
    obtain ⟨a, b⟩ := flatE_back r
    cases k <;> simp [flatK] at e <;> subst e
    · exact ⟨.int a, .cons h b⟩
    · exact ⟨.str a, .cons h b⟩
theorem FlatE.any {k : D} {kk : Key} (fk : flatK k = some kk) : ∀ {kvs : List (Key × V)} {ks ds : List D}, FlatE F z G kvs ks ds → (kvs.any fun kv => decide (kv.1 = kk)) = inD k ks ∧ ds.length = ks.length
  | _, _, _, .nil => ⟨rfl, rfl⟩
  | _, _, _, .cons e h r => by
    obtain ⟨a, b⟩ := r.any fk
    refine ⟨?_, by simp [b]⟩
    rw [inD, flat_eqb e fk, List.any_cons, a]
    dsimp only
    cases decide (_ = kk) <;> rfl
theorem FlatE.old {k d : D} {kk : Key} {w : V} (fk : flatK k = some kk) (hw : Rep F z G w d) : ∀ {kvs : List (Key × V)} {ks ds : List D}, FlatE F z G kvs ks ds → (kvs.map (·.1)).Nodup → inD k ks = true → FlatE F z G (kvs.map fun kv => if kv.1 = kk then (kv.1, w) else kv) ks (putV k d ks ds)
  | _, _, _, .nil, _, h => by simp [inD] at h
  | _, _, _, .cons (kk := kk0) (v := v0) e h r, nd, hin => by
    rw [List.map_cons, List.nodup_cons] at nd
    rw [inD, flat_eqb e fk] at hin
    rw [putV, flat_eqb e fk, List.map_cons]
    by_cases c : kk0 = kk
    · rw [decide_eq_true c, if_pos c, putK_none (by rw [← c]; exact nd.1)]
      exact .cons e hw r
    · rw [decide_eq_false c] at hin ⊢
      rw [if_neg c]
      exact .cons e h (FlatE.old fk hw r nd.2 hin)
theorem FlatE.new {k d : D} {kk : Key} {w : V} (fk : flatK k = some kk) (hw : Rep F z G w d) : ∀ {kvs : List (Key × V)} {ks ds : List D}, FlatE F z G kvs ks ds → FlatE F z G (kvs ++ [(kk, w)]) (ks ++ [k]) (ds ++ [d])
  | _, _, _, .nil => .cons fk hw .nil
  | _, _, _, .cons e h r => .cons e h (FlatE.new fk hw r)
theorem FlatE.put {k d : D} {kk : Key} {w : V} (fk : flatK k = some kk) (hw : Rep F z G w d) {kvs : List (Key × V)} {ks ds : List D} (h : FlatE F z G kvs ks ds) (nd : (kvs.map (·.1)).Nodup) : FlatE F z G (L2.putK kvs kk w) (Fp.putK k ks) (putV k d ks ds) := by
  obtain ⟨a, l⟩ := h.any fk
  unfold L2.putK Fp.putK
  rw [a]
  cases c : inD k ks with
  | true => rw [if_pos rfl]; exact h.old fk hw nd c
  | false => rw [if_neg Bool.false_ne_true, putV_new l c]; exact h.new fk hw
end
section
variable {F : Fx} {n k : Nat} {X : Cx} {pins : List (Addr × Obj)} {σ : L2.St} {H : Hp} {s : Shared} {z : List Addr} {G : Hp}
theorem dicO_ok {P : Program} {w : World} {H' : Hp} {h : Heap} {a : Addr} {ents : List (NestedKey × Addr × V)} {xs : List (NestedKey × Addr × Value)} (l : ents.length ≤ sizeLine) (na : (a == sysModules) = false)
    (pr : Paired (fun (p : NestedKey × Addr × V) (q : NestedKey × Addr × Value) => p.1 = q.1 ∧ p.2.1 = q.2.1 ∧ RelV p.2.2 q.2.2) ents xs) (dd : h.DictOfH (nestedKind P w) a xs) : ObjOk P w H' h a (DicO w P a ents) := by
  obtain ⟨o, es, ep, q1, q2, q3, q4, _, q5⟩ := dd
  refine ⟨⟨l, na, xs, pr, o, es, ep, q1, q2, q3, q4, q5⟩, ⟨o, q1⟩, ?_⟩
  rintro h1 h2 ⟨l', na', xs', pr', o', es', ep', p1, p2, p3, p4, p5⟩ kp
  exact ⟨l', na', xs', pr', o', es', ep', kp _ p1, p2, p3, p4, p5⟩
theorem storedH_len {xs : List (NestedKey × Addr × Value)} {k : NestedKey} {b : Addr} {u : Value} : (storedH xs k b u).length ≤ xs.length + 1 := by
  unfold storedH
  by_cases c : (atKey xs k).isSome = true
  · rw [if_pos c]; simp
  · rw [if_neg c]; simp
/-- d[k] = v -/
theorem put_own (C : Ctx F n X) (I : Inv X pins σ H s) (sb : Sub G H) {a : Addr} {ks vs : List D} (h : OwnAt F z G H a (.dic ks vs)) {v w : V} {u1 u2 : Value} {kd d : D} (hk : Rep F z G v kd) (hv : Rep F z G w d) (r1 : RelV v u1) (r2 : RelV w u2) (hf : keyFits kd ks = true) (hs : fits ks.length = true) {Q : Unit → Shared → Prop} {E : Value → Shared → Prop}
    (hQ : ∀ s' o, Inv X pins σ (upd H a o) s' → OwnAt F z G (upd H a o) a (.dic (Fp.putK kd ks) (putV kd d ks vs)) → Q () s') :
    wpAny (model X.prog X.w) X.A (dictSet a u1 u2) Q E s ∧ wpAny (model X.prog X.w) X.A (setItem (.ref a) u1 u2) Q E s := by
  obtain ⟨ho, hkk⟩ := keyFits_and hf
  have hle := fits_le hs
  have un := C.un
  have mu : Mut (H a) := by
    rcases h with ⟨ents, h1, _⟩ | ⟨kvs, h1, _⟩
    · rw [h1]; exact True.intro
    · rw [h1]; exact True.intro
  rcases hkk with ⟨tk, at_⟩ | ⟨⟨kk, fk⟩, at_⟩
  · obtain ⟨nz, xs, hz, ent, dd⟩ := C.dicT I sb h at_
    obtain ⟨xs', rfl⟩ := tk
    obtain ⟨bk, rfl⟩ := rep_ref hk
    cases (show u1 = .ref bk from r1)
    have nd : (xs.map (·.1)).Nodup := by obtain ⟨_, _, _, _, _, _, _, _, q⟩ := dd; exact q
    have ent' := ent.put hk ho ⟨xs', rfl⟩ hv r2 nd
    obtain ⟨ents, e1, e2, e3⟩ := entT_back ent'
    have lx : xs.length = ks.length := ent.len.1
    have fin : ∀ h' tk, h'.DictOfH (nestedKind X.prog X.w) a (storedH xs (D.tup xs').nk bk u2) → Heap.SameBut a s.heap h' → Q () { s with heap := h', toks := tk } := by
      intro h' tk dd' sm
      have ok : ObjOk X.prog X.w (upd H a (DicO X.w X.prog a ents)) h' a (DicO X.w X.prog a ents) := dicO_ok (by
        rw [Paired.length e3, sizeLine_eq]
        have := storedH_len (xs := xs) (k := (D.tup xs').nk) (b := bk) (u := u2)
        omega) nz e3 dd'
      refine hQ _ (DicO X.w X.prog a ents) (d_write I mu sm (let ⟨q, _, _, hq, _⟩ := dd'; ⟨q, hq⟩) ok) (.inl ⟨ents, ?_, e1, e2⟩)
      rw [upd_same, C.prog, C.w]
    have hz' : xs.length ≤ sizeLine := hz
    refine ⟨wpAny_dictSet_heap (hsz := hz') ?_ (C.key I (hk.mono (.refl z) sb) ho) dd fun h' dd' sm => fin h' _ dd' sm, wpAny_setItem_heap (hsz := hz') C.roomN (C.key I (hk.mono (.refl z) sb) ho) dd fun h' dd' sm => fin h' _ dd' sm⟩
    show X.A.units + 8 < cLine
    omega
  · rw [rep_flat hk fk] at r1
    have hfl : ∃ kvs, (kvs.map (·.1)).Nodup ∧ FlatE F z G kvs ks vs ∧ (a == sysModules) = false ∧ ∃ xs, xs.length ≤ sizeLine ∧ KV kvs xs ∧ s.heap.DictOf (mixKind X.prog X.w) a xs := by
      rcases h with ⟨ents, h1, h2, h3⟩ | ⟨kvs, h1, h2, h3⟩
      · obtain ⟨nz, xs, hz, ent, dd⟩ := C.dicK I (.inl ⟨ents, h1, h2, h3⟩) at_
        obtain ⟨rfl, rfl⟩ := allFlat_keys at_ h2
        cases h3
        cases ent
        exact ⟨[], by simp, .nil, nz, [], by simp, .nil, dd⟩
      · obtain ⟨z1, z2, ys, kv, dd⟩ := I.hok a _ h1
        have nd : (kvs.map (·.1)).Nodup := by
          rw [KV.keys kv]
          obtain ⟨_, _, _, _, _, _, _, _, q⟩ := dd
          exact q
        exact ⟨kvs, nd, flatE_of h2 h3, z2, ys, by rw [← Paired.length kv]; exact z1, kv, dd⟩
    obtain ⟨kvs, nd, fe, na, xs, lx, kv, dd⟩ := hfl
    obtain ⟨b1, b2⟩ := flatE_back (fe.put fk hv nd)
    have lk : kvs.length = ks.length := by
      have := b1
      clear this
      have go : ∀ {kvs : List (Key × V)} {ks ds : List D}, FlatE F z G kvs ks ds → kvs.length = ks.length := by
        intro kvs ks ds t
        induction t with
        | nil => rfl
        | cons _ _ _ ih => simp [ih]
      exact go fe
    have fin : ∀ h' tk, h'.DictOf (mixKind X.prog X.w) a (stored xs kk u2) → Heap.SameBut a s.heap h' → Q () { s with heap := h', toks := tk } := by
      intro h' tk dd' sm
      have hl : (L2.putK kvs kk w).length ≤ sizeLine := by have := length_putK kvs kk w; rw [sizeLine_eq]; omega
      refine hQ _ (.dK (L2.putK kvs kk w)) (d_write I mu sm (let ⟨q, _, _, hq, _⟩ := dd'; ⟨q, hq⟩) (dk_new hl na (kv.put kk r2) dd')) (.inr ⟨_, upd_same, b1, b2⟩)
    exact ⟨wpAny_dictSet_pairs (hsz := lx) (kV_is r1) dd fun h' dd' sm => fin h' _ dd' sm, wpAny_setItem_pairs (hsz := lx) (kV_is r1) dd fun h' dd' sm => fin h' _ dd' sm⟩
end
end Fp
end
section
set_option Elab.async false
set_option linter.all false
set_option maxRecDepth 100000
set_option autoImplicit false
set_option maxHeartbeats 1000000
/-! Dict comprehensions, keys of any kind. -/
namespace Fp
open PySem PySem.Spec PyProof.Rows L2

/-- a store into the dict at D -/
def DPutOk (F : Fx) (n : Nat) (D : Addr) (y w : V) (H : Hp) (Nx : Hp → Prop) : Prop := ∀ X, Ctx F n X → ∀ (pins : List (Addr × Obj)) (s : Shared) (σ : L2.St) (u1 u2 : Value) (Q : Unit → Shared → Prop) (E : Value → Shared → Prop), Inv X pins σ H s → RelV y u1 → RelV w u2 →
  (∀ s' H', Inv X pins σ H' s' → Nx H' → Q () s') → wpAny (model X.prog X.w) X.A (dictSet D u1 u2) Q E s
def tDcG (F : Fx) (n : Nat) (wi : TI) (g : TG) (tt : TT) (tk tv : TE) (vs : List Nat) : TE := fun σ H Q => wi σ H fun J H1 => ∀ D, H1 D = none → ∃ W : Nat → Nat → Hp → Prop, (∃ m, W 0 m (upd H1 D (.dK []))) ∧ ∀ i m H, W i m H →
  (J.stop i H ∧ Q (.ref D) H) ∨ (J.go i H ∧ ∃ Nx : Hp → Prop, (∀ H', Nx H' → ∃ m', m' < m ∧ W (i + 1) m' H') ∧ ∀ x H', J.yld i H x H' → g x (wipe σ vs) H' fun σ2 H2 => wipe σ2 vs = wipe σ vs ∧ tt σ2 H2 fun b H3 =>
    if b = true then tk σ2 H3 fun y H4 => tv σ2 H4 fun w H5 => DPutOk F n D y w H5 Nx else Nx H3)
section
variable {F : Fx} {n : Nat} {X : Cx}
theorem dcG_core (C : Ctx F n X) {pins : List (Addr × Obj)} {s : Shared} {σ : L2.St} {H : Hp} {Q : VK} {kx vx tg iter : Expr} {ifs : List Expr} {scope : Scope} {own : List (Str × Nat)} {pos pos' : Pos} {wi : TI} {g : TG} {tt : TT} {tk tv : TE} {use : Option (Value → Sem Unit)} {Qf : Value → Shared → Prop}
    (hc : X.calm = true) (I : Inv X pins σ H s) (hi : PI X tg iter wi) (ok : BlkOk X.N X.env.scope scope own)
    (hg : ∀ s H Ca cl fp, PG (X.blk s H scope (compEnvC scope cl Ca X.env) fp) tg g) (ht : ∀ s H Ca cl fp, PTs (X.blk s H scope (compEnvC scope cl Ca X.env) fp) ifs tt)
    (hk : ∀ s H Ca cl fp, PE (X.blk s H scope (compEnvC scope cl Ca X.env) fp) kx tk) (he : ∀ s H Ca cl fp, PE (X.blk s H scope (compEnvC scope cl Ca X.env) fp) vx tv) (hs : ∀ x, foldedSetIterable iter X.env x = pure x)
    (h : tDcG F n wi g tt tk tv (own.map (·.2)) σ H Q)
    (hRR : ∀ D C s' m H', Inv X pins σ H' s' → Q (.ref D) H' → s'.heap.Ns C m → FpOk X pins H' C → compPost (model X.prog X.w) X.A X.xe use Qf (.ref D) C (.ok .next) s') :
    wpAny (model X.prog X.w) X.A (comprehension (.DictComp kx vx [⟨tg, iter, ifs, 0⟩] scope pos) scope X.env pos' newDict false (eval iter X.env) use) Qf X.xe s := by
  have clo : ∀ y ∈ scope.names, y.2 = .free → ∃ c, X.env.cells.lookup y.1 = some c := fun y hy e => I.ok.has _ (ok.free y hy e)
  refine wpAny_comprehension_free (use := use) rfl hs (closure_ok clo) ok.kind (fun y hy e => by rw [ok.uniq y hy, e]) (thn (hi.run pins s σ H _ I h) fun xv s1 hx => thn hx fun itv s2 h2 => ?_)
  obtain ⟨it, fp, tn, J, H2, rfl, I2, T, st2, f2, q⟩ := h2
  refine wpAny_newObj_type (newEnv_comp ?_)
  have nD : H2 s2.heap.objs.size = none := I2.hok.fresh (Nat.le_refl _)
  obtain ⟨W, ⟨m0, w0⟩, turn⟩ := q s2.heap.objs.size nD
  have I3 : Inv X pins σ (upd H2 s2.heap.objs.size (.dK [])) { s2 with heap := s2.heap.push { cls := .type "dict", data := .dict #[] } } :=
    I2.laid (t' := s2.toks) (fun b o e => Heap.get?_push_of_some _ e) (Nat.le_refl _) (dk_empty s2.heap I2.big)
  have low : ∀ b ∈ fp, b < s2.heap.objs.size := fun b hb => by
    obtain ⟨o, e, _⟩ := T.obj _ _ st2 b hb
    exact Heap.lt_size e
  have st3 : tn 0 (s2.heap.push { cls := .type "dict", data := .dict #[] }) := T.keep _ _ _ st2 fun b _ o e => Heap.get?_push_of_some _ e
  have f3 : ∀ b ∈ fp, FpOk X pins (upd H2 s2.heap.objs.size (.dK [])) b ∧ b < (s2.heap.push { cls := .type "dict", data := .dict #[] }).objs.size := fun b hb => by
    refine ⟨⟨?_, (f2 b hb).2⟩, by rw [Heap.size_push]; exact Nat.lt_succ_of_lt (low b hb)⟩
    rw [upd_ne (Nat.ne_of_lt (low b hb))]
    exact (f2 b hb).1
  generalize hD : s2.heap.objs.size = D at I3 f3 w0 turn nD ⊢
  generalize hs3 : ({ s2 with heap := s2.heap.push { cls := .type "dict", data := .dict #[] } } : Shared) = s3 at I3 ⊢
  have e3 : s2.heap.push { cls := .type "dict", data := .dict #[] } = s3.heap := by rw [← hs3]
  rw [e3] at st3 f3
  generalize hH3 : upd H2 D (.dK []) = H3 at I3 f3 w0
  have I4 := block_start I3 ok C.nd f3
  have pg := hg s3 H3 s3.heap.objs.size (cellsFrom (s3.heap.objs.size + 1) scope.names (cloFrom X.env.cells scope.names [])) fp
  have pt := ht s3 H3 s3.heap.objs.size (cellsFrom (s3.heap.objs.size + 1) scope.names (cloFrom X.env.cells scope.names [])) fp
  have pk := hk s3 H3 s3.heap.objs.size (cellsFrom (s3.heap.objs.size + 1) scope.names (cloFrom X.env.cells scope.names [])) fp
  have pv := he s3 H3 s3.heap.objs.size (cellsFrom (s3.heap.objs.size + 1) scope.names (cloFrom X.env.cells scope.names [])) fp
  show codeAny _ _ (.compStart (.DictComp kx vx [⟨tg, iter, ifs, 0⟩] scope pos) 0 (.ref it) (.ref D) (compEnvC scope (cellsFrom (s3.heap.objs.size + 1) scope.names (cloFrom X.env.cells scope.names [])) s3.heap.objs.size X.env))
    (compPost (model X.prog X.w) X.A X.xe use Qf (.ref D) s3.heap.objs.size) { s3 with heap := pushCells (s3.heap.push { cls := .type "dict", data := .dict #[] }) scope.names }
  have st4 : tn 0 (pushCells (s3.heap.push { cls := .type "dict", data := .dict #[] }) scope.names) := T.keep _ _ _ st3 fun b _ o e => pushCells_keeps _ _ _ _ (Heap.get?_push_of_some _ e)
  have CB : Ctx F n (X.blk s3 H3 scope (compEnvC scope (cellsFrom (s3.heap.objs.size + 1) scope.names (cloFrom X.env.cells scope.names [])) s3.heap.objs.size X.env) fp) := C.blk s3 H3 scope _ fp
  generalize hce : compEnvC scope (cellsFrom (s3.heap.objs.size + 1) scope.names (cloFrom X.env.cells scope.names [])) s3.heap.objs.size X.env = ce at I4 pg pt pk pv CB ⊢
  have cL : ce.locals = s3.heap.objs.size := by rw [← hce]; rfl
  have nfp : ∀ b ∈ fp, H3 b = none := fun b hb => (f3 b hb).1.1
  generalize hs4 : ({ s3 with heap := pushCells (s3.heap.push { cls := .type "dict", data := .dict #[] }) scope.names } : Shared) = s4 at I4 ⊢
  have st5 : tn 0 s4.heap := by rw [← hs4]; exact st4
  have free : ∀ {σ' : L2.St} {H' : Hp} {s' : Shared}, Inv (X.blk s3 H3 scope ce fp) [] σ' H' s' → (∀ b ∈ fp, H' b = none) → ∀ b ∈ fp, FpOk (X.blk s3 H3 scope ce fp) [] H' b := fun I' hn b hb =>
    ⟨hn b hb, (I'.ok.exf b hb).1, I'.ok.exfs b hb, .inl hb, fun x c e => (I'.ok.exf b hb).2 x c e, fun p hp => absurd (show p ∈ ([] : List (Addr × Obj)) ++ [] from hp) (by simp)⟩
  have loop : codeAny (model X.prog X.w) X.A (.compLoop (.DictComp kx vx [⟨tg, iter, ifs, 0⟩] scope pos) 0 (.ref it) (.ref D) ce) (compPost (model X.prog X.w) X.A X.xe use Qf (.ref D) s3.heap.objs.size) s4 := by
    refine compLoop_anyD (fun m s' => ∃ i H', Inv (X.blk s3 H3 scope ce fp) [] (wipe σ (own.map (·.2))) H' s' ∧ tn i s'.heap ∧ (∀ b ∈ fp, H' b = none) ∧ W i m H') ?_ m0 ⟨0, H3, I4, st5, nfp, w0⟩
    rintro m s5 ⟨i, H5, I5, t5, n5, w5⟩
    rcases turn i m H5 w5 with ⟨stop, qq⟩ | ⟨go, Nx, hNx, step⟩
    · refine thnF (T.done (X.blk s3 H3 scope ce fp) rfl rfl rfl hc i [] s5 _ H5 (fun _ _ => False) I5 (free I5 n5) t5 stop) fun r s6 ⟨hr, I6⟩ => ?_
      subst hr
      have I7 : Inv X pins σ H5 s6 := I3.call' (ch := fp) I6.os I6.base I6.hok I6.bare fun b hb => ⟨(f3 b hb).1.2.2.2.1, (f3 b hb).1.2.1, (f3 b hb).1.2.2.2.2.1, (f3 b hb).1.2.2.2.2.2⟩
      have nC : H5 s3.heap.objs.size = none := by rw [← cL]; exact I6.free
      obtain ⟨mm, hn, _⟩ := I6.loc
      have hn : s6.heap.Ns ce.locals mm := hn
      rw [cL] at hn
      exact hRR D s3.heap.objs.size s6 mm H5 I7 qq hn (I3.fpOk (Nat.le_refl _) nC)
    · refine thnF (T.item (X.blk s3 H3 scope ce fp) rfl rfl rfl hc i [] s5 _ H5 (fun _ _ => False) I5 (free I5 n5) t5 go) fun r s6 ⟨u, hr, h6⟩ => ?_
      subst hr
      refine thnF h6 fun _ s7 ⟨x, H7, I7, r7, y7, t7, n7⟩ => ?_
      have P7 := I7.pinned (free I7 n7) (T.obj _ _ t7)
      refine thnF (pg.run _ s7 _ H7 x u _ P7 r7 (step x H7 y7)) fun _ s8 ⟨σ8, H8, I8, hw8, q8⟩ => ?_
      refine thnF (pt.run _ s8 σ8 H8 _ I8 q8) fun b s9 ⟨H9, I9, q9⟩ => ?_
      have fin : ∀ s' H', Inv (X.blk s3 H3 scope ce fp) ([] ++ pinsAt fp s7.heap) σ8 H' s' → Nx H' → ∃ m', m' < m ∧ ∃ i H', Inv (X.blk s3 H3 scope ce fp) [] (wipe σ (own.map (·.2))) H' s' ∧ tn i s'.heap ∧ (∀ b ∈ fp, H' b = none) ∧ W i m' H' := by
        intro s' H' I' nx
        obtain ⟨m', hm, w'⟩ := hNx H' nx
        have kept : ∀ b ∈ fp, ∀ o, s7.heap.get? b = some o → s'.heap.get? b = some o ∧ H' b = none := fun b hb o e => by
          have := I'.pin (b, o) (List.mem_append_right _ (List.mem_append_right _ (mem_pinsAt hb e)))
          exact ⟨this.1, this.2.1⟩
        refine ⟨m', hm, i + 1, H', (I'.unpinned (pins := [])).weak (by rw [← hw8, wipe_length]) (fun j v e => by rw [← hw8] at e; exact (wipe_some e).1), T.keep _ _ _ t7 fun b hb o e => (kept b hb o e).1, fun b hb => ?_, w'⟩
        obtain ⟨o, e, _⟩ := T.obj _ _ t7 b hb
        exact (kept b hb o e).2
      cases b with
      | false =>
        simp only [Bool.false_eq_true, if_false] at q9 ⊢
        exact fin _ _ I9 q9
      | true =>
        simp only [if_true] at q9 ⊢
        refine thnF (pk.run _ s9 σ8 H9 _ I9 q9) fun k1 s10 ⟨yk, H10, I10, r10, q10⟩ => ?_
        refine thnF (pv.run _ s10 σ8 H10 _ I10 q10) fun v1 s11 ⟨yv, H11, I11, r11, put⟩ => ?_
        exact put _ CB _ s11 σ8 k1 v1 _ _ I11 r10 r11 fun s12 H12 I12 nx => fin _ _ I12 nx
  exact codeAny_compStart_dict loop (T.self X.A 0 _ _ _ st5 loop)
theorem pe_dcG (C : Ctx F n X) {kx vx tg iter : Expr} {ifs : List Expr} {scope : Scope} {own : List (Str × Nat)} {pos : Pos} {wi : TI} {g : TG} {tt : TT} {tk tv : TE} (hc : X.calm = true) (hi : PI X tg iter wi) (ok : BlkOk X.N X.env.scope scope own)
    (hg : ∀ s H Ca cl fp, PG (X.blk s H scope (compEnvC scope cl Ca X.env) fp) tg g) (ht : ∀ s H Ca cl fp, PTs (X.blk s H scope (compEnvC scope cl Ca X.env) fp) ifs tt)
    (hk : ∀ s H Ca cl fp, PE (X.blk s H scope (compEnvC scope cl Ca X.env) fp) kx tk) (he : ∀ s H Ca cl fp, PE (X.blk s H scope (compEnvC scope cl Ca X.env) fp) vx tv) (hs : ∀ x, foldedSetIterable iter X.env x = pure x) :
    PE X (.DictComp kx vx [⟨tg, iter, ifs, 0⟩] scope pos) (tDcG F n wi g tt tk tv (own.map (·.2))) := by
  refine ⟨fun pins s σ H Q I h => ?_⟩
  rw [arm_eval_DictComp]
  refine dcG_core C hc I hi ok hg ht hk he hs h fun D Ca s' m H' I' q hn f => ⟨m, hn, fun h'' sb => ?_⟩
  obtain ⟨f0, f1, f2, f3, f4, f5⟩ := f
  exact ⟨.ref D, H', I'.turned (t' := s'.toks) (fun b o hb e => (sb.2 b hb).trans e) f0 f1 f3 f4 f5, rfl, q⟩
/-- name = {..} on one line, the name a local -/
theorem ps_setDcG (C : Ctx F n X) {i : Nat} {y : Str} {py spos : Pos} {kx vx tg iter : Expr} {ifs : List Expr} {scope : Scope} {own : List (Str × Nat)} {pos : Pos} {wi : TI} {g : TG} {tt : TT} {tk tv : TE} (hc : X.calm = true) (hy : X.N[i]? = some y) (hyl : X.env.scope.names.lookup y = some .local)
    (hsw : swapsWith (.DictComp kx vx [⟨tg, iter, ifs, 0⟩] scope pos) (some (.Name y py)) spos.line X.env = pure true) (hi : PI X tg iter wi) (ok : BlkOk X.N X.env.scope scope own)
    (hg : ∀ s H Ca cl fp, PG (X.blk s H scope (compEnvC scope cl Ca X.env) fp) tg g) (ht : ∀ s H Ca cl fp, PTs (X.blk s H scope (compEnvC scope cl Ca X.env) fp) ifs tt)
    (hk : ∀ s H Ca cl fp, PE (X.blk s H scope (compEnvC scope cl Ca X.env) fp) kx tk) (he : ∀ s H Ca cl fp, PE (X.blk s H scope (compEnvC scope cl Ca X.env) fp) vx tv) (hs : ∀ x, foldedSetIterable iter X.env x = pure x) :
    PS X (.Assign [.Name y py] (.DictComp kx vx [⟨tg, iter, ifs, 0⟩] scope pos) spos) (tAsg (tDcG F n wi g tt tk tv (own.map (·.2))) (gName i)) := by
  refine ⟨fun pins s σ H D I h => ?_⟩
  rw [exec_Assign_Name_used _ _ _ _ hsw]
  refine wpAny_bind (wpAny_standAt (wpAny_bind ?_))
  show wpAny _ X.A (do let _ ← comprehension (.DictComp kx vx [⟨tg, iter, ifs, 0⟩] scope pos) scope X.env (firstIterPos [⟨tg, iter, ifs, 0⟩] pos) newDict false (eval iter X.env) (some (assign (.Name y py) X.env))) _ _ s
  have h : tDcG F n wi g tt tk tv (own.map (·.2)) σ H (fun x H1 => gName i x σ H1 D.nx) := h
  refine wpAny_bind (thn (dcG_core (Qf := fun _ s' => SP X pins D .next s') C hc I hi ok hg ht hk he hs h fun L Ca s' m H' I' q hn f => ?_) fun _ s' hq => wpAny_pure (wpAny_pure hq))
  show wpAny _ _ (assign (.Name y py) X.env (.ref L)) _ _ _
  refine wpAny_assign_Name (store_ok2 (v := V.ref L) I' C.nd hy (.inl hyl) rfl (fun s2 I2 ⟨a, sb, ha⟩ => ?_) (.inr hyl))
  obtain ⟨f0, f1, f2, f3, f4, f5⟩ := f
  have haC : Ca ≠ a := by
    rcases ha with z | z
    · rw [z]; exact f1
    · exact fun e => f4 y a z e.symm
  refine ⟨m, hn.sameBut sb haC, fun h3 sb3 => ?_⟩
  exact ⟨_, H', I2.turned (t' := s2.toks) (fun b o hb e => (sb3.2 b hb).trans e) f0 f1 f3 f4 f5, q⟩
end
section
variable {F : Fx} {n k : Nat} {X : Cx} {W : WX} {L : Lc} {Pt : Prv} {ρ : List Sl} {r : Ev} {c : Bool} {M : Gn}
theorem putO_some {kd d : D} {ks vs : List D} {m : D} (h : putO kd d ks vs = some m) : keyFits kd ks = true ∧ fits ks.length = true ∧ m = .dic (putK kd ks) (putV kd d ks vs) := by
  unfold putO at h
  cases c : (keyFits kd ks && fits ks.length) with
  | false => rw [c] at h; cases h
  | true =>
    rw [c] at h
    obtain ⟨c1, c2⟩ := and2 c
    exact ⟨c1, c2, (Option.some.inj h).symm⟩
theorem dc_reads (C : Ctx F n X) (O : LcOk L X) {kx e : Xp} {tg : Tg} {it : Src} {ifs : List Xp} {own : List (Str × Nat)} {sc : Scope} {p : Pos} (hw : lcW L tg ifs own sc = true) :
    ∀ σ H Q, tN F Pt ρ (fun g => stepE F.T r ρ g (.dc kx e tg it ifs own sc p)) W σ H Q → tDcG F n (tI F Pt ρ false (fun g => evI r ρ g it) W) (tG F Pt (wipeS ρ own) tg) (tBs F Pt r ifs) (tEs F Pt r kx) (tEs F Pt r e) (own.map (·.2)) σ H Q := by
  obtain ⟨h1, hw⟩ := and2 hw
  obtain ⟨h2, hw⟩ := and2 hw
  obtain ⟨h3, hw⟩ := and2 hw
  obtain ⟨h4, h5⟩ := and2 hw
  have h4 := subN_ok h4
  rintro σ H Q ⟨z, G, g, rel, rng, out⟩
  refine ⟨z, G, g, rel, rng, ?_⟩
  have out : OutN F z G H ((evI r ρ g it).bind fun ds g => dcGo r (wipeS ρ own) kx e tg ifs g ds [] []) Q fun cl d H' => W cl d σ H' := out
  dsimp only
  cases q : evI r ρ g it with
  | no => rw [q] at out; exact out
  | ex cl fs g' => rw [q] at out; exact out
  | ok ds g1 =>
    rw [q] at out
    intro J z1 G1 H1 gr1 rn1 itr D nD
    have out := out.grow gr1
    simp only [Rs.bind] at out
    have rel1 := rel.grow gr1
    refine ⟨fun i m H => m = ds.length - i ∧ i ≤ ds.length ∧ ∃ z2 G2 g2 ks vs, Grow z1 G1 H1 z2 G2 H ∧ RngAt F z2 g2 H ∧ OwnAt F z2 G2 H D (.dic ks vs) ∧ G2 D = none ∧ D ∉ z2 ∧
      OutN F z1 G1 H1 (dcGo r (wipeS ρ own) kx e tg ifs g2 (ds.drop i) ks vs) Q fun cl d H' => W cl d σ H',
      ⟨ds.length, by simp, Nat.zero_le _, z1, G1, g1, [], [], Grow.aside gr1.sub' gr1.zG nD, ?_, .inr ⟨[], upd_same, .nil, .nil⟩, ?_, rn1.there nD, out⟩, ?_⟩
    · exact rn1.keep fun a o h => by rw [upd_ne (ne_of_none h nD)]; exact h
    · cases e : G1 D with
      | none => rfl
      | some o => have := gr1.sub' D o e; rw [nD] at this; cases this
    · rintro i m H2 ⟨rfl, hile, z2, G2, g2, ks, vs, gr2, rn2, own2, gD, nz, out2⟩
      obtain ⟨st, go⟩ := itr z2 G2 H2 g2 i gr2 gr2.sub' gr2.zG rn2
      by_cases hlt : i < ds.length
      · have hd : ds[i]? = some ds[i] := List.getElem?_eq_getElem hlt
        obtain ⟨g3, yl⟩ := go _ hd
        refine .inr ⟨g3, fun H' => ∃ z2 G2 g2 ks vs, Grow z1 G1 H1 z2 G2 H' ∧ RngAt F z2 g2 H' ∧ OwnAt F z2 G2 H' D (.dic ks vs) ∧ G2 D = none ∧ D ∉ z2 ∧
          OutN F z1 G1 H1 (dcGo r (wipeS ρ own) kx e tg ifs g2 (ds.drop (i + 1)) ks vs) Q fun cl d H' => W cl d σ H', fun H' nx => ⟨ds.length - (i + 1), by omega, rfl, hlt, nx⟩, ?_⟩
        intro x H3 hy
        obtain ⟨G3, gr3, rn3, rpx⟩ := yl x H3 hy
        have grA := gr2.trans gr3
        have dropd : ds.drop i = ds[i] :: ds.drop (i + 1) := List.drop_eq_getElem_cons hlt
        rw [dropd, dcGo] at out2
        cases hb : bindT tg ds[i] (wipeS ρ own) with
        | none => rw [hb] at out2; exact out2.elim
        | some ρ' =>
          rw [hb] at out2
          simp only at out2
          have relB : Rel F Pt z2 (wipeS ρ own) (L2.wipe σ (own.map (·.2))) G3 H3 := (rel1.grow grA).wipe own
          obtain ⟨o2, at2⟩ := own2.there
          have at3 := gr3.same D _ at2 nz
          have own3 := own2.grow gr3 nz
          have gD3 := gr3.priv at2 gD
          refine ⟨z2, G3, ds[i], ρ', relB, rpx, hb, fun σ2 rel2 only => ⟨wipe_only only h4, ρ', z2, G3, g2, rel2, rn3, ?_⟩⟩
          dsimp only
          cases ha : evAll r ρ' g2 ifs with
          | no => rw [ha] at out2; exact out2.elim
          | ex cl fs g' => rw [ha] at out2; exact out2.elim
          | ok b g3 =>
            rw [ha] at out2
            intro z4 G4 H4 gr4 rn4
            have grB := grA.trans gr4
            have own4 := own3.grow gr4 nz
            have gD4 := gr4.priv at3 gD3
            have nz4 := gr4.notin at3 nz
            have at4 := gr4.same D _ at3 nz
            cases b with
            | false =>
              (try dsimp only)
              rw [if_neg Bool.false_ne_true]
              exact ⟨z4, G4, g3, ks, vs, grB, rn4, own4, gD4, nz4, out2⟩
            | true =>
              (try dsimp only)
              rw [if_pos rfl]
              simp only at out2
              refine ⟨ρ', z4, G4, g3, rel2.grow gr4, rn4, ?_⟩
              dsimp only
              cases hkv : r.e ρ' g3 kx with
              | no => rw [hkv] at out2; exact out2.elim
              | ex cl fs g' => rw [hkv] at out2; exact out2.elim
              | ok y g5 =>
                rw [hkv] at out2
                simp only at out2
                intro v z5 G5 H5 gr5 rn5 rpv
                refine ⟨ρ', z5, G5, g5, (rel2.grow gr4).grow gr5, rn5, ?_⟩
                have own5 := own4.grow gr5 nz4
                have gD5 := gr5.priv at4 gD4
                have nz5 := gr5.notin at4 nz4
                have at5 := gr5.same D _ at4 nz4
                dsimp only
                cases hvv : r.e ρ' g5 e with
                | no => rw [hvv] at out2; exact out2.elim
                | ex cl fs g' => rw [hvv] at out2; exact out2.elim
                | ok w g6 =>
                  rw [hvv] at out2
                  simp only at out2
                  intro u z6 G6 H6 gr6 rn6 rpu
                  have grC := (grB.trans gr5).trans gr6
                  have own6 := own5.grow gr6 nz5
                  have gD6 := gr6.priv at5 gD5
                  have nz6 := gr6.notin at5 nz5
                  have rpv : Rep F z5 G5 v y := rpv
                  have rpu : Rep F z6 G6 u w := rpu
                  cases hp : putO y w ks vs with
                  | none => rw [hp] at out2; exact out2.elim
                  | some mm =>
                    obtain ⟨p1, p2, rfl⟩ := putO_some hp
                    rw [hp] at out2
                    simp only at out2
                    intro X' C' pins s σ' u1 u2 Q' E I r1 r2 fin
                    refine (put_own C' I gr6.sub' own6 (rpv.mono gr6.zl gr6.sub) rpu r1 r2 p1 p2 fun s' o I' own' => fin s' _ I' ?_).1
                    exact ⟨z6, G6, g6, _, _, grC.write nD gD6, rn6.write nz6, own', gD6, nz6, out2⟩
      · have ei : ds.length = i := by omega
        have dn : ds.drop i = [] := List.drop_eq_nil_of_le (by omega)
        rw [dn, dcGo] at out2
        exact .inl ⟨st ei, out2.2 D z2 G2 H2 gr2 rn2 nD gD nz own2⟩
theorem snd_dcN (C : Ctx F n X) (O : LcOk L X) {kx e : Xp} {tg : Tg} {it : Src} {ifs : List Xp} {own : List (Str × Nat)} {sc : Scope} {p : Pos} (hw : lcW L tg ifs own sc = true) (P : LcParts F n X L Pt ρ r W tg it ifs sc)
    (hk : ∀ X', LcOk (blkL L sc) X' → Ctx F n X' → Takes X' W0 → ∀ ρ, PE X' kx.un (tX F Pt ρ true (fun g => r.e ρ g kx) W0))
    (he : ∀ X', LcOk (blkL L sc) X' → Ctx F n X' → Takes X' W0 → ∀ ρ, PE X' e.un (tX F Pt ρ true (fun g => r.e ρ g e) W0)) :
    PE X (Xp.dc kx e tg it ifs own sc p).un (tN F Pt ρ (fun g => stepE F.T r ρ g (.dc kx e tg it ifs own sc p)) W) := by
  have hw' := hw
  obtain ⟨h1, hw⟩ := and2 hw
  obtain ⟨h2, hw⟩ := and2 hw
  obtain ⟨h3, hw⟩ := and2 hw
  obtain ⟨h4, h5⟩ := and2 hw
  have eu : (Xp.dc kx e tg it ifs own sc p).un = .DictComp kx.un e.un [⟨tg.un, it.un, Xp.uns ifs, 0⟩] sc p := by simp only [Xp.un]
  rw [eu]
  exact PE.imp (pe_dcG C (by rw [O.calm]; exact h1) P.hi (blkB_ok O h2) (fun s H Ca cl fp => snd_T (Pt := Pt) (ρ := wipeS ρ own) (C.blk s H sc _ fp) (O.blk s H sc cl Ca fp) h3)
    (fun s H Ca cl fp => snd_ifs (Nat.le_of_ble_eq_true h5) (P.ht _ (O.blk s H sc cl Ca fp) (C.blk s H sc _ fp) (takes_blk s H sc _ fp))) (any_blk C O kx hk) (any_blk C O e he) (fun x => fold_ok it X.env x)) (dc_reads C O hw')
/-- x = {..} on one line -/
theorem snd_setDc (C : Ctx F n X) (O : LcOk L X) {kx e : Xp} {tg : Tg} {it : Src} {ifs : List Xp} {own : List (Str × Nat)} {sc : Scope} {p : Pos} (hw : lcW L tg ifs own sc = true) (P : LcParts F n X L Pt ρ r W tg it ifs sc)
    (hk : ∀ X', LcOk (blkL L sc) X' → Ctx F n X' → Takes X' W0 → ∀ ρ, PE X' kx.un (tX F Pt ρ true (fun g => r.e ρ g kx) W0))
    (he : ∀ X', LcOk (blkL L sc) X' → Ctx F n X' → Takes X' W0 → ∀ ρ, PE X' e.un (tX F Pt ρ true (fun g => r.e ρ g e) W0))
    {i : Nat} {y : Str} {py spos : Pos} (hy : X.N[i]? = some y) (hyl : X.env.scope.names.lookup y = some .local) (hsw : swapsWith (Xp.dc kx e tg it ifs own sc p).un (some (.Name y py)) spos.line X.env = pure true) :
    PS X (.Assign [.Name y py] (Xp.dc kx e tg it ifs own sc p).un spos) (tAsg (tN F Pt ρ (fun g => stepE F.T r ρ g (.dc kx e tg it ifs own sc p)) W) (gName i)) := by
  have hw' := hw
  obtain ⟨h1, hw⟩ := and2 hw
  obtain ⟨h2, hw⟩ := and2 hw
  obtain ⟨h3, hw⟩ := and2 hw
  obtain ⟨h4, h5⟩ := and2 hw
  have eu : (Xp.dc kx e tg it ifs own sc p).un = .DictComp kx.un e.un [⟨tg.un, it.un, Xp.uns ifs, 0⟩] sc p := by simp only [Xp.un]
  rw [eu] at hsw ⊢
  have ps := ps_setDcG C (by rw [O.calm]; exact h1) hy hyl hsw P.hi (blkB_ok O h2) (fun s H Ca cl fp => snd_T (Pt := Pt) (ρ := wipeS ρ own) (C.blk s H sc _ fp) (O.blk s H sc cl Ca fp) h3)
    (fun s H Ca cl fp => snd_ifs (Nat.le_of_ble_eq_true h5) (P.ht _ (O.blk s H sc cl Ca fp) (C.blk s H sc _ fp) (takes_blk s H sc _ fp))) (any_blk C O kx hk) (any_blk C O e he) (fun x => fold_ok it X.env x)
  exact ⟨fun pins s σ H D I hh => ps.run pins s σ H D I (dc_reads C O hw' σ H _ hh)⟩
end
end Fp
end
section
set_option Elab.async false
set_option linter.all false
set_option maxRecDepth 100000
set_option autoImplicit false
set_option maxHeartbeats 1000000
/-! list(range(..)). -/
namespace Fp
open PySem PySem.Spec PyProof.Rows L2
section
variable {F : Fx} {n k : Nat} {X : Cx} {W : WX} {L : Lc} {Pt : Prv} {ρ : List Sl} {r : Ev} {c : Bool} {M : Gn}
theorem rep_rg {z : List Addr} {G : Hp} : ∀ (m : Nat) (a : Int), RepAll F z G ((List.range m).map fun i => V.int (a + (i : Nat))) (rngList a m)
  | 0, _ => .nil
  | m + 1, a => by
    rw [List.range_succ_eq_map, List.map_cons, List.map_map, rngList]
    refine .cons (by simpa using .int a) ?_
    have e : ((fun i : Nat => V.int (a + (i : Nat))) ∘ Nat.succ) = fun i : Nat => V.int (a + 1 + (i : Nat)) := by
      funext i
      simp only [Function.comp, V.int.injEq]
      omega
    rw [e]
    exact rep_rg m (a + 1)
theorem evL_cons {e : Xp} (h : isStar e = false) (g : Gs) (es : List Xp) : evL r ρ g (e :: es) = (r.e ρ g e).bind fun d g => (evL r ρ g es).bind fun ds g => .ok (d :: ds) g := by
  cases e <;> first | rfl | simp [isStar] at h
def lrngW (M : Gn) (L : Lc) (x y : Str) (es : List Xp) : Bool := L.calm && (strEqB x "list" && (strEqB y "range" && (freeB M L x && (freeB M L y && (noStar es && oneTwo es)))))
theorem snd_lrng (GO : GnOk F M) (C : Ctx F k X) (O : LcOk L X) {x y : Str} {es : List Xp} {q1 q2 q p : Pos} (hw : lrngW M L x y es = true) (h : ∀ e ∈ es, SndI F X W Pt ρ r false e) :
    PE X (Xp.lrng x y es q1 q2 q p).un (tX F Pt ρ c (fun g => stepE F.T r ρ g (.lrng x y es q1 q2 q p)) W) := by
  obtain ⟨h0, hw⟩ := and2 hw
  obtain ⟨h1, hw⟩ := and2 hw
  obtain ⟨h2, hw⟩ := and2 hw
  obtain ⟨h3, hw⟩ := and2 hw
  obtain ⟨h4, hw⟩ := and2 hw
  obtain ⟨h5, h6⟩ := and2 hw
  have hx := strEqB_eq h1
  have hy := strEqB_eq h2
  subst hx hy
  obtain ⟨f1, f2, f3, f4⟩ := freeB_ok GO C O h3
  obtain ⟨e1, e2, e3, e4⟩ := freeB_ok GO C O h4
  have hc : X.calm = true := by rw [O.calm]; exact h0
  have eu : (Xp.lrng "list" "range" es q1 q2 q p).un = .Call (.Name "list" q1) [.Call (.Name "range" q2) (Xp.uns es) [] q] [] p := by simp only [Xp.un]
  rw [eu]
  have fin : ∀ {z : List Addr} {G H : Hp} {g : Gs} {a b : Int} {Q : V → Hp → Prop} {W' : XK}, Sub G H → (∀ a ∈ z, G a = none) → RngAt F z g H → rgB a = true → rgB b = true → fits (b - a).toNat = true → Out F c z G H (.ok (.lst (rngList a (b - a).toNat)) g) Q W' →
      RgOk a b ∧ ∀ q, H q = none → Q (.ref q) (upd H q (.lst (rgV a b))) := by
    intro z G H g a b Q W' sb hz hg ha hb hf out
    have ha := rgB_ok ha
    have hb := rgB_ok hb
    have hf := fits_le hf
    refine ⟨⟨by omega, by omega, by omega, by omega, by omega⟩, fun p n => ?_⟩
    exact new_lst sb hz hg n (rep_rg (b - a).toNat a) fun v G' H' g' r' rp' => out v z G' H' g' r' (.of rp')
  rcases es with _ | ⟨a, _ | ⟨b, _ | ⟨b2, es⟩⟩⟩
  · cases h6
  · have s1 := not_of (and2 h5).1
    have ha : PE X a.un (tX F Pt ρ false (fun g => r.e ρ g a) W) := by
      have := h a (by simp)
      cases a <;> first | exact this | simp [isStar] at s1
    refine PE.imp (pe_listRg hc f1 f3 (prg_1 e1 e3 ha (star_cons s1 [] X.env)) rfl) ?_
    rintro σ H Q ⟨z, G, g, rel, rng, out⟩
    have out : Out F c z G H ((evL r ρ g [a]).bind fun ds g => match rngOf ds with
      | some xs => .ok (.lst xs) g
      | none => .no) Q fun cl d H' => W cl d σ H' := out
    rw [evL_cons s1] at out
    refine ⟨z, G, g, rel, rng, ?_⟩
    dsimp only
    cases qa : r.e ρ g a with
    | no => rw [qa] at out; exact out
    | ex cl fs g' => rw [qa] at out; exact out
    | ok d g1 =>
      rw [qa] at out
      intro v z1 G1 H1 gr rn rp
      have out := out.grow gr
      simp only [Rs.bind, evL] at out
      cases d with
      | int m =>
        have := rp.int
        subst this
        refine ⟨m, rfl, ?_⟩
        simp only [rngOf] at out
        cases hb : rgB m with
        | false => rw [hb] at out; exact out.elim
        | true =>
          rw [hb] at out
          have hb' := rgB_ok hb
          have e0 : (m - 0).toNat = m.toNat := by rw [Int.sub_zero]
          refine fin gr.sub' gr.zG rn (by decide) hb ?_ (by rw [e0]; exact out)
          rw [e0]
          exact Nat.ble_eq_true_of_le (by omega)
      | _ => exact out.elim
  · have s1 := not_of (and2 h5).1
    have s2 := not_of (and2 (and2 h5).2).1
    have ha : PE X a.un (tX F Pt ρ false (fun g => r.e ρ g a) W) := by
      have := h a (by simp)
      cases a <;> first | exact this | simp [isStar] at s1
    have hb : PE X b.un (tX F Pt ρ false (fun g => r.e ρ g b) W) := by
      have := h b (by simp)
      cases b <;> first | exact this | simp [isStar] at s2
    refine PE.imp (pe_listRg hc f1 f3 (prg_2 e1 e3 ha hb (star_cons s1 [b] X.env) (star_cons s2 [] X.env) (star_none q X.env (and2 h5).2)) rfl) ?_
    rintro σ H Q ⟨z, G, g, rel, rng, out⟩
    have out : Out F c z G H ((evL r ρ g [a, b]).bind fun ds g => match rngOf ds with
      | some xs => .ok (.lst xs) g
      | none => .no) Q fun cl d H' => W cl d σ H' := out
    rw [evL_cons s1] at out
    refine ⟨z, G, g, rel, rng, ?_⟩
    dsimp only
    cases qa : r.e ρ g a with
    | no => rw [qa] at out; exact out
    | ex cl fs g' => rw [qa] at out; exact out
    | ok d g1 =>
      rw [qa] at out
      intro v z1 G1 H1 gr rn rp
      have out := out.grow gr
      simp only [Rs.bind] at out
      rw [evL_cons s2] at out
      refine ⟨z1, G1, g1, rel.grow gr, rn, ?_⟩
      dsimp only
      cases qb : r.e ρ g1 b with
      | no => rw [qb] at out; exact out
      | ex cl fs g' => rw [qb] at out; exact out
      | ok d2 g2 =>
        rw [qb] at out
        intro u z2 G2 H2 gr2 rn2 rp2
        have out := out.grow gr2
        simp only [Rs.bind, evL] at out
        cases d with
        | int i =>
          cases d2 with
          | int j =>
            have e1 := rp.int
            have e2 := rp2.int
            subst e1 e2
            refine ⟨i, j, rfl, rfl, ?_⟩
            simp only [rngOf] at out
            cases hb : (rgB i && (rgB j && fits (j - i).toNat)) with
            | false => rw [hb] at out; exact out.elim
            | true =>
              rw [hb] at out
              obtain ⟨b1, b2⟩ := and2 hb
              obtain ⟨b2, b3⟩ := and2 b2
              exact fin gr2.sub' gr2.zG rn2 b1 b2 b3 out
          | _ => exact out.elim
        | _ => cases d2 <;> exact out.elim
  · cases h6
end
end Fp
end
section
set_option Elab.async false
set_option linter.all false
set_option maxRecDepth 100000
set_option autoImplicit false
set_option maxHeartbeats 1000000
/-! Dict displays, keys of any kind. -/
namespace Fp
open PySem PySem.Spec PyProof.Rows L2

/-- pairs of values that stand for pairs of data -/
abbrev RepP (F : Fx) (z : List Addr) (G : Hp) : List (V × V) → List (D × D) → Prop := Paired fun p q => Rep F z G p.1 q.1 ∧ Rep F z G p.2 q.2
theorem RepP.mono {F : Fx} {z z' : List Addr} {G G' : Hp} (hz : Zl z z') (s : Sub G G') : ∀ {ps : List (V × V)} {qs : List (D × D)}, RepP F z G ps qs → RepP F z' G' ps qs
  | _, _, .nil => .nil
  | _, _, .cons h t => .cons ⟨h.1.mono hz s, h.2.mono hz s⟩ (RepP.mono hz s t)
section
variable {F : Fx} {n k : Nat} {X : Cx} {W : WX} {L : Lc} {Pt : Prv} {ρ : List Sl} {r : Ev} {c : Bool} {M : Gn}
/-- the readings of the pairs -/
def trsOf (F : Fx) (Pt : Prv) (ρ : List Sl) (r : Ev) (W : WX) : List Xp → List Xp → List (TE × TE)
  | k :: ks, v :: vs => (tX F Pt ρ true (fun g => r.e ρ g k) W, tX F Pt ρ true (fun g => r.e ρ g v) W) :: trsOf F Pt ρ r W ks vs
  | _, _ => []
theorem pps_of : ∀ {ks vs : List Xp} {p : Pos}, ks.length = vs.length → (∀ e ∈ ks, PE X e.un (tX F Pt ρ true (fun g => r.e ρ g e) W)) → (∀ e ∈ vs, PE X e.un (tX F Pt ρ true (fun g => r.e ρ g e) W)) → PPs X p (Xp.unso ks) (Xp.uns vs) (trsOf F Pt ρ r W ks vs)
  | [], [], _, _, _, _ => pps_nil
  | [], _ :: _, _, h, _, _ => by simp at h
  | _ :: _, [], _, h, _, _ => by simp at h
  | k :: ks, v :: vs, p, h, hk, hv => pps_cons (hk k (by simp)) (hv v (by simp)) (pps_of (by simpa using h) (fun e he => hk e (List.mem_cons_of_mem _ he)) fun e he => hv e (List.mem_cons_of_mem _ he))
def OutPs (F : Fx) (z : List Addr) (G H : Hp) (r : Rs (List (D × D))) (Q : List (V × V) → Hp → Prop) (W : XK) : Prop := match r with
  | .ok qs g' => ∀ ps z' G' H', Grow z G H z' G' H' → RngAt F z' g' H' → RepP F z' G' ps qs → Q ps H'
  | .ex cl fs g' => ∀ da z' G' H', Grow z G H z' G' H' → RngAt F z' g' H' → ExcAt F z' G' H' cl fs da → W (.ref (F.ca cl)) da H'
  | .no => False
theorem OutPs.grow {z z1 : List Addr} {G H G1 H1 : Hp} {r : Rs (List (D × D))} {Q : List (V × V) → Hp → Prop} {W : XK} (h : OutPs F z G H r Q W) (g : Grow z G H z1 G1 H1) : OutPs F z1 G1 H1 r Q W := by
  cases r with
  | ok d g' => exact fun v z' G' H' gr rn rp => h v z' G' H' (g.trans gr) rn rp
  | ex cl fs g' => exact fun da z' G' H' gr rn rp => h da z' G' H' (g.trans gr) rn rp
  | no => exact h
theorem pairs_of {σ : L2.St} : ∀ {ks vs : List Xp} {z : List Addr} {G H : Hp} {g : Gs} {Q : List (V × V) → Hp → Prop}, Rel F Pt z ρ σ G H → RngAt F z g H → OutPs F z G H (evP r ρ g ks vs) Q (fun cl d H' => W cl d σ H') → tPairs (trsOf F Pt ρ r W ks vs) σ H Q
  | [], [], z, G, H, g, Q, rel, rng, out => out [] z G H (.refl rel.sub rel.zG) rng .nil
  | [], _ :: _, _, _, _, _, _, _, _, out => out.elim
  | _ :: _, [], _, _, _, _, _, _, _, out => out.elim
  | k :: ks, v :: vs, z, G, H, g, Q, rel, rng, out => by
    rw [evP] at out
    refine ⟨z, G, g, rel, rng, ?_⟩
    dsimp only
    cases q1 : r.e ρ g k with
    | no => rw [q1] at out; exact out
    | ex cl fs g' => rw [q1] at out; exact out
    | ok x g1 =>
      rw [q1] at out
      intro v1 z1 G1 H1 gr1 rn1 rp1
      have out := out.grow gr1
      simp only [Rs.bind] at out
      refine ⟨z1, G1, g1, rel.grow gr1, rn1, ?_⟩
      dsimp only
      cases q2 : r.e ρ g1 v with
      | no => rw [q2] at out; exact out
      | ex cl fs g' => rw [q2] at out; exact out
      | ok y g2 =>
        rw [q2] at out
        intro v2 z2 G2 H2 gr2 rn2 rp2
        have out := out.grow gr2
        simp only at out
        refine pairs_of ((rel.grow gr1).grow gr2) rn2 ?_
        cases q3 : evP r ρ g2 ks vs with
        | no => rw [q3] at out; exact out
        | ex cl fs g' => rw [q3] at out; exact out
        | ok qs g3 =>
          rw [q3] at out
          intro ps z3 G3 H3 gr3 rn3 rp3
          have rp1 : Rep F z1 G1 v1 x := rp1
          have rp2 : Rep F z2 G2 v2 y := rp2
          exact out ((v1, v2) :: ps) z3 G3 H3 gr3 rn3 (.cons ⟨(rp1.mono gr2.zl gr2.sub).mono gr3.zl gr3.sub, rp2.mono gr3.zl gr3.sub⟩ rp3)
/-- the stores -/
theorem stores (C : Ctx F n X) {pins : List (Addr × Obj)} {σ : L2.St} {D : Addr} {z : List Addr} {G : Hp} {g : Gs} {E : Value → Shared → Prop} {z0 : List Addr} {G0 H0 : Hp} (h0 : H0 D = none) (nz : D ∉ z) (gD : G D = none) :
    ∀ {ps : List (V × V)} {qs : List (Fp.D × Fp.D)} {ws : List (Value × Value)} {ks vs : List Fp.D} {m : Fp.D} {H : Hp} {s : Shared} {Q : PUnit → Shared → Prop}, RepP F z G ps qs → VV ps ws → disGo qs ks vs = some m → Inv X pins σ H s → Grow z0 G0 H0 z G H → RngAt F z g H → OwnAt F z G H D (.dic ks vs) →
    (∀ s' H', Inv X pins σ H' s' → Grow z0 G0 H0 z G H' → RngAt F z g H' → OwnAt F z G H' D m → Q PUnit.unit s') →
    wpAny (model X.prog X.w) X.A (forIn ws PUnit.unit fun (x : Value × Value) (_ : PUnit) => (do dictSet D x.1 x.2; pure (ForInStep.yield PUnit.unit) : Sem (ForInStep PUnit))) Q E s
  | _, _, _, ks, vs, m, H, s, Q, .nil, .nil, hd, I, gr, rn, own, fin => by
    simp only [disGo, Option.some.injEq] at hd
    subst hd
    rw [List.forIn_nil]
    exact wpAny_pure (fin s H I gr rn own)
  | _, _, _, ks, vs, m, H, s, Q, .cons (b := q) h t, .cons hw tw, hd, I, gr, rn, own, fin => by
    obtain ⟨x, y⟩ := q
    rw [disGo] at hd
    cases hp : putO x y ks vs with
    | none => rw [hp] at hd; cases hd
    | some mm =>
      obtain ⟨p1, p2, rfl⟩ := putO_some hp
      rw [hp] at hd
      simp only at hd
      rw [List.forIn_cons]
      refine wpAny_bind (wpAny_bind ?_)
      refine (put_own C I gr.sub' own h.1 h.2 hw.1 hw.2 p1 p2 fun s' o I' own' => wpAny_pure ?_).1
      exact stores C h0 nz gD t tw hd I' (gr.write h0 gD) (rn.write nz) own' fin
theorem unso_all : ∀ ks : List Xp, (Xp.unso ks).all (·.isSome) = true ∧ (Xp.unso ks).length = ks.length
  | [] => ⟨rfl, rfl⟩
  | k :: r => by
    obtain ⟨a, b⟩ := unso_all r
    simp [Xp.unso, a, b]
def disW (ks vs : List Xp) : Bool := Nat.beq ks.length vs.length && Nat.ble ks.length 15
theorem snd_disN (C : Ctx F n X) {ks vs : List Xp} {p : Pos} (hw : disW ks vs = true) (hk : ∀ e ∈ ks, PE X e.un (tX F Pt ρ true (fun g => r.e ρ g e) W)) (hv : ∀ e ∈ vs, PE X e.un (tX F Pt ρ true (fun g => r.e ρ g e) W)) :
    PE X (Xp.dis ks vs p).un (tN F Pt ρ (fun g => stepE F.T r ρ g (.dis ks vs p)) W) := by
  obtain ⟨h1, h2⟩ := and2 hw
  have h1 := Nat.eq_of_beq_eq_true h1
  have h2 := Nat.le_of_ble_eq_true h2
  have eu : (Xp.dis ks vs p).un = .Dict (Xp.unso ks) (Xp.uns vs) p := by simp only [Xp.un]
  rw [eu]
  refine ⟨fun pins s σ H Q I hw => ?_⟩
  obtain ⟨z, G, g, rel, rng, out⟩ := hw
  have out : OutN F z G H ((evP r ρ g ks vs).bind fun ps g => Rs.of (disGo ps [] []) g) Q fun cl d H' => W cl d σ H' := out
  have nD : H s.heap.objs.size = none := I.hok.fresh (Nat.le_refl _)
  have I1 : Inv X pins σ (upd H s.heap.objs.size (.dK [])) { s with heap := s.heap.push { cls := .type "dict", data := .dict #[] } } :=
    I.laid (t' := s.toks) (fun _ _ q => Heap.get?_push_of_some _ q) (Nat.le_refl _) (dk_empty s.heap I.big)
  have gr1 : Grow z G H z G (upd H s.heap.objs.size (.dK [])) := Grow.aside rel.sub rel.zG nD
  have rn1 : RngAt F z g (upd H s.heap.objs.size (.dK [])) := rng.keep fun a o h => by rw [upd_ne (ne_of_none h nD)]; exact h
  have gD : G s.heap.objs.size = none := by
    cases e : G s.heap.objs.size with
    | none => rfl
    | some o => have := rel.sub _ o e; rw [nD] at this; cases this
  cases hks : ks with
  | nil =>
    subst hks
    have : vs = [] := List.length_eq_zero_iff.mp h1.symm
    subst this
    refine pe_dnewK.run pins s σ H Q I fun q n => ?_
    have nz := rng.there n
    have gq : G q = none := by
      cases e : G q with
      | none => rfl
      | some o => have := rel.sub _ o e; rw [n] at this; cases this
    exact out.2 q z G (upd H q (.dK [])) (.aside rel.sub rel.zG n) (rng.keep fun a o h => by rw [upd_ne (ne_of_none h n)]; exact h) n gq nz (.inr ⟨[], upd_same, .nil, .nil⟩)
  | cons k0 ks0 =>
    rw [← hks]
    have hall := (unso_all ks).1
    have hlen : (Xp.unso ks).length = (Xp.uns vs).length := by rw [(unso_all ks).2, uns_len]; exact h1
    have hpl := pairTrees_length (Xp.unso ks) (Xp.uns vs) X.env p hall hlen
    rw [(unso_all ks).2] at hpl
    have hne : pairTrees (Xp.unso ks) (Xp.uns vs) X.env p ≠ [] := by
      intro e
      rw [e, hks] at hpl
      simp at hpl
    rw [arm_eval_Dict, zip_pairTrees _ _ _ _ hall hlen, dictDisplay_pairs _ hne (by omega)]
    refine wpAny_bind (wpAny_standAt (wpAny_bind ?_))
    unfold subDict
    refine wpAny_bind (wpAny_alloc (wpAny_bind (wpAny_holding ?_)))
    rw [if_pos (by omega)]
    refine wpAny_bind (thn ((pps_of (p := p) h1 hk hv).run pins _ σ _ (fun ps H2 => ∃ z2 G2 g2 qs, Grow z G H z2 G2 H2 ∧ RngAt F z2 g2 H2 ∧ OwnAt F z2 G2 H2 s.heap.objs.size (.dic [] []) ∧ G2 s.heap.objs.size = none ∧ s.heap.objs.size ∉ z2 ∧ RepP F z2 G2 ps qs ∧ OutN F z G H (Rs.of (disGo qs [] []) g2) Q fun cl d H' => W cl d σ H') I1 (pairs_of (rel.grow gr1) rn1 ?_)) fun ws s2 ⟨ps, H2, I2, vv, z2, G2, g2, qs, gr2, rn2, own2, gD2, nz2, rp2, out2⟩ => ?_)
    · cases q : evP r ρ g ks vs with
      | no => rw [q] at out; exact out
      | ex cl fs g' =>
        rw [q] at out
        exact fun da z' G' H' gr' => out da z' G' H' (gr1.trans gr')
      | ok qs g2 =>
        rw [q] at out
        intro ps z2 G2 H2 gr2 rn2 rp2
        have at1 : (upd H s.heap.objs.size (.dK [])) s.heap.objs.size = some (.dK []) := upd_same
        have nz := rng.there nD
        refine ⟨z2, G2, g2, qs, gr1.trans gr2, rn2, .inr ⟨[], gr2.same _ _ at1 nz, .nil, .nil⟩, gr2.priv at1 gD, gr2.notin at1 nz, rp2, out⟩
    · cases hd : disGo qs [] [] with
      | none => rw [hd] at out2; exact out2.elim
      | some m =>
        rw [hd] at out2
        refine wpAny_holding (wpAny_bind (stores C nD nz2 gD2 rp2 vv hd I2 gr2 rn2 own2 fun s3 H3 I3 gr3 rn3 own3 => wpAny_pure (wpAny_pure (wpAny_pure ?_))))
        exact ⟨.ref s.heap.objs.size, H3, I3, rfl, out2.2 _ z2 G2 H3 gr3 rn3 nD gD2 nz2 own3⟩
end
end Fp
end
section
set_option Elab.async false
set_option linter.all false
set_option maxRecDepth 100000
set_option autoImplicit false
set_option maxHeartbeats 1000000
/-! Statements: readings. -/
namespace Fp
open PySem PySem.Spec PyProof.Rows L2

/-- fewer slots are known -/
def LeS (ρ' ρ : List Sl) : Prop := ρ'.length = ρ.length ∧ ∀ i : Nat, ρ'[i]? = some Sl.un ∨ ρ'[i]? = ρ[i]?
theorem LeS.refl (ρ : List Sl) : LeS ρ ρ := ⟨rfl, fun _ => .inr rfl⟩
theorem LeS.trans {a b c : List Sl} (h : LeS a b) (k : LeS b c) : LeS a c := ⟨h.1.trans k.1, fun i => by
  rcases h.2 i with q | q
  · exact .inl q
  · rcases k.2 i with p | p
    · exact .inl (q.trans p)
    · exact .inr (q.trans p)⟩
theorem LeS.on {ρx ρ ρ1 : List Sl} {A B C : List Nat} (h : LeS ρx (wipeN ρ B)) (o : Onl A ρ ρ1) (ab : ∀ i ∈ A, i ∈ B) (cb : ∀ i ∈ C, i ∈ B) : LeS ρx (wipeN ρ1 C) := by
  refine ⟨by rw [h.1, wipeN_len, wipeN_len, o.1], fun i => ?_⟩
  rcases h.2 i with q | q
  · exact .inl q
  · rw [wipeN_get] at q
    by_cases m : i ∈ B ∧ i < ρ.length
    · rw [if_pos m] at q; exact .inl q
    · rw [if_neg m] at q
      right
      rw [wipeN_get, o.1, if_neg fun z => m ⟨cb i z.1, z.2⟩, q]
      by_cases hB : i ∈ B
      · have hl : ρ.length ≤ i := Nat.le_of_not_lt fun z => m ⟨hB, z⟩
        rw [List.getElem?_eq_none hl, List.getElem?_eq_none (by rw [o.1]; exact hl)]
      · exact (o.2 i fun z => hB (ab i z)).symm
theorem LeS.le {ρx ρ : List Sl} {B : List Nat} (h : LeS ρx (wipeN ρ B)) : LeS ρx ρ := LeS.on (C := []) h (Onl.refl [] ρ) (fun _ z => absurd z (by simp)) fun _ z => absurd z (by simp)
theorem LeS.sub {ρx ρ : List Sl} {B C : List Nat} (h : LeS ρx (wipeN ρ B)) (cb : ∀ i ∈ C, i ∈ B) : LeS ρx (wipeN ρ C) := LeS.on h (Onl.refl [] ρ) (fun _ z => absurd z (by simp)) cb
theorem LeS.wipe (ρ : List Sl) (B : List Nat) : LeS (wipeN ρ B) (wipeN ρ B) := .refl _

section
variable {F : Fx} {Pt : Prv} {z z' z1 : List Addr} {ρ ρ' ρx : List Sl} {σ : L2.St} {G H G' H' G1 H1 : Hp}
theorem Rel.le (r : Rel F Pt z ρ σ G H) (h : LeS ρ' ρ) : Rel F Pt z ρ' σ G H where
  sub := r.sub
  zG := r.zG
  len := by rw [h.1]; exact r.len
  sh := fun i d e => by
    rcases h.2 i with q | q
    · rw [q] at e; cases e
    · rw [q] at e; exact r.sh i d e
  ow := fun i d e => by
    rcases h.2 i with q | q
    · rw [q] at e; cases e
    · rw [q] at e; exact r.ow i d e
  inj := fun i j d e a h1 h2 h3 h4 => by
    rcases h.2 i with q | q
    · rw [q] at h1; cases h1
    · rcases h.2 j with p | p
      · rw [p] at h2; cases h2
      · rw [q] at h1; rw [p] at h2; exact r.inj i j d e a h1 h2 h3 h4
  pt := r.pt
  xc := fun i c fs e => by
    rcases h.2 i with q | q
    · rw [q] at e; cases e
    · rw [q] at e; exact r.xc i c fs e

/-- behind a statement: what the callers own stands, what is shared has grown -/
structure GrowS (Pt : Prv) (z : List Addr) (G H : Hp) (z' : List Addr) (G' H' : Hp) : Prop where
  zl : Zl z z'
  same : ∀ a o, Pt.own a → H a = some o → H' a = some o
  sub' : Sub G' H'
  sub : Sub G G'
  new : ∀ a, G' a ≠ none → G a ≠ none ∨ ¬ Pt.own a
  zG : ∀ a ∈ z', G' a = none
  zn : z = [] → ∀ c ∈ z', ¬ Pt.own c ∧ G c = none
theorem GrowS.of (r : Rel F Pt z ρ σ G H) (g : Grow z G H z' G' H') : GrowS Pt z G H z' G' H' where
  zl := g.zl
  same := fun a o p h => g.same a o h (r.pt a p).2.2
  sub' := g.sub'
  sub := g.sub
  new := fun a h => by
    rcases g.new a h with q | q
    · exact .inl q
    · refine .inr fun p => ?_
      obtain ⟨_, ⟨o, e⟩, _⟩ := r.pt a p
      rw [q] at e; cases e
  zG := g.zG
  zn := fun e c m => by
    have n := g.zn e c m
    refine ⟨fun p => ?_, ?_⟩
    · obtain ⟨_, ⟨o, q⟩, _⟩ := r.pt c p
      rw [n] at q; cases q
    · cases q : G c with
      | none => rfl
      | some o => have := r.sub c o q; rw [n] at this; cases this
theorem GrowS.refl (r : Rel F Pt z ρ σ G H) : GrowS Pt z G H z G H := .of r (.refl r.sub r.zG)
theorem GrowS.trans {z2 : List Addr} {G2 H2 : Hp} (a : GrowS Pt z G H z1 G1 H1) (b : GrowS Pt z1 G1 H1 z2 G2 H2) : GrowS Pt z G H z2 G2 H2 where
  zl := a.zl.trans b.zl
  same := fun c o p h => b.same c o p (a.same c o p h)
  sub' := b.sub'
  sub := a.sub.trans b.sub
  new := fun c h => by
    rcases b.new c h with q | q
    · exact a.new c q
    · exact .inr q
  zG := b.zG
  zn := fun e c m => by
    rcases b.zl with q | q
    · obtain ⟨n1, n2⟩ := b.zn q c m
      refine ⟨n1, ?_⟩
      cases w : G c with
      | none => rfl
      | some o => have := a.sub c o w; rw [n2] at this; cases this
    · rw [q] at m; exact a.zn e c m

/-- what comes of a statement -/
def OutS (F : Fx) (Pt : Prv) (ρx : List Sl) (z : List Addr) (G H : Hp) (r : Rs Flw) (D : Ends) (W : WX) : Prop := match r with
  | .ok (.next ρ) g' => ∀ σ' z' G' H', GrowS Pt z G H z' G' H' → Rel F Pt z' ρ σ' G' H' → RngAt F z' g' H' → D.nx σ' H'
  | .ok (.brk ρ) g' => ∀ σ' z' G' H', GrowS Pt z G H z' G' H' → Rel F Pt z' ρ σ' G' H' → RngAt F z' g' H' → D.bk σ' H'
  | .ok (.cnt ρ) g' => ∀ σ' z' G' H', GrowS Pt z G H z' G' H' → Rel F Pt z' ρ σ' G' H' → RngAt F z' g' H' → D.ct σ' H'
  | .ok (.ret d) g' => ∀ v z' G' H', GrowS Pt z G H z' G' H' → RngAt F z' g' H' → Rep F z' G' v d → D.rt v H'
  | .ex cl fs g' => ∀ da σ' z' G' H', GrowS Pt z G H z' G' H' → Rel F Pt z' ρx σ' G' H' → RngAt F z' g' H' → ExcAt F z' G' H' cl fs da → W (.ref (F.ca cl)) da σ' H'
  | .no => False
theorem OutS.grow {r : Rs Flw} {D : Ends} {W : WX} (h : OutS F Pt ρx z G H r D W) (g : GrowS Pt z G H z1 G1 H1) : OutS F Pt ρx z1 G1 H1 r D W := by
  cases r with
  | ok f g' =>
    cases f with
    | next ρ => exact fun σ' z' G' H' gr => h σ' z' G' H' (g.trans gr)
    | brk ρ => exact fun σ' z' G' H' gr => h σ' z' G' H' (g.trans gr)
    | cnt ρ => exact fun σ' z' G' H' gr => h σ' z' G' H' (g.trans gr)
    | ret d => exact fun v z' G' H' gr => h v z' G' H' (g.trans gr)
  | ex cl fs g' => exact fun da σ' z' G' H' gr => h da σ' z' G' H' (g.trans gr)
  | no => exact h
/-- a statement's reading -/
def tS (F : Fx) (Pt : Prv) (ρ ρx : List Sl) (r : Gs → Rs Flw) (W : WX) : TS := fun D σ H =>
  ∃ z G g, Rel F Pt z ρ σ G H ∧ RngAt F z g H ∧ OutS F Pt ρx z G H (r g) D W
theorem PS.imp {X : Cx} {s : Stmt} {t t' : TS} (h : PS X s t') (k : ∀ D σ H, t D σ H → t' D σ H) : PS X s t := ⟨fun pins st σ H D I hw => h.run pins st σ H D I (k D σ H hw)⟩
theorem PSs.imp {X : Cx} {s : List Stmt} {t t' : TS} (h : PSs X s t') (k : ∀ D σ H, t D σ H → t' D σ H) : PSs X s t := ⟨fun pins st σ H D I hw => h.run pins st σ H D I (k D σ H hw)⟩

/-! ### an expression first -/
section
variable {D : Ends} {W : WX} {c : Bool}
theorem outS_bind {r : Rs Fp.D} {f : Fp.D → Gs → Rs Flw} {Q1 : V → Hp → Prop} (h : OutS F Pt ρx z G H (r.bind f) D W) (rel : Rel F Pt z ρ σ G H) (le : LeS ρx ρ)
    (k : ∀ d g1 v z1 G1 H1, Grow z G H z1 G1 H1 → RngAt F z1 g1 H1 → RepB F c z1 G1 H1 v d → Rel F Pt z1 ρ σ G1 H1 → OutS F Pt ρx z1 G1 H1 (f d g1) D W → Q1 v H1) : Out F c z G H r Q1 fun cl d H' => W cl d σ H' := by
  cases r with
  | ok d g' => exact fun v z' G' H' gr rn rp => k d g' v z' G' H' gr rn rp (rel.grow gr) (OutS.grow (show OutS F Pt ρx z G H (f d g') D W from h) (.of rel gr))
  | ex cl fs g' => exact fun da z' G' H' gr rn rp => h da σ z' G' H' (.of rel gr) ((rel.grow gr).le le) rn rp
  | no => exact h
theorem outS_bindN {r : Rs Fp.D} {f : Fp.D → Gs → Rs Flw} {Q1 : V → Hp → Prop} (h : OutS F Pt ρx z G H (r.bind f) D W) (rel : Rel F Pt z ρ σ G H) (le : LeS ρx ρ)
    (k1 : ∀ d g1 v z1 G1 H1, isMut d = false → RngAt F z1 g1 H1 → Rep F z1 G1 v d → Rel F Pt z1 ρ σ G1 H1 → OutS F Pt ρx z1 G1 H1 (f d g1) D W → Q1 v H1)
    (k2 : ∀ d g1 a z1 G1 H1, Grow z G H z1 G1 H1 → RngAt F z1 g1 H1 → H a = none → G1 a = none → a ∉ z1 → OwnAt F z1 G1 H1 a d → Rel F Pt z1 ρ σ G1 H1 → OutS F Pt ρx z1 G1 H1 (f d g1) D W → Q1 (.ref a) H1) : OutN F z G H r Q1 fun cl d H' => W cl d σ H' := by
  cases r with
  | ok d g' =>
    exact ⟨fun m v z' G' H' gr rn rp => k1 d g' v z' G' H' m rn rp (rel.grow gr) (OutS.grow (show OutS F Pt ρx z G H (f d g') D W from h) (.of rel gr)),
      fun a z' G' H' gr rn n gA nz oa => k2 d g' a z' G' H' gr rn n gA nz oa (rel.grow gr) (OutS.grow (show OutS F Pt ρx z G H (f d g') D W from h) (.of rel gr))⟩
  | ex cl fs g' => exact fun da z' G' H' gr rn rp => h da σ z' G' H' (.of rel gr) ((rel.grow gr).le le) rn rp
  | no => exact h
theorem outS_bindA {α : Type} {r : Rs α} {f : α → Gs → Rs Flw} {Q1 : α → List Addr → Hp → Hp → Gs → Prop} (h : OutS F Pt ρx z G H (r.bind f) D W) (rel : Rel F Pt z ρ σ G H) (le : LeS ρx ρ)
    (k : ∀ a g1 z1 G1 H1, RngAt F z1 g1 H1 → Rel F Pt z1 ρ σ G1 H1 → OutS F Pt ρx z1 G1 H1 (f a g1) D W → Q1 a z1 G1 H1 g1) : OutA F z G H r Q1 fun cl d H' => W cl d σ H' := by
  cases r with
  | ok d g' => exact fun z' G' H' gr rn => k d g' z' G' H' rn (rel.grow gr) (OutS.grow (show OutS F Pt ρx z G H (f d g') D W from h) (.of rel gr))
  | ex cl fs g' => exact fun da z' G' H' gr rn rp => h da σ z' G' H' (.of rel gr) ((rel.grow gr).le le) rn rp
  | no => exact h
theorem outS_bindI {r : Rs (List Fp.D)} {f : List Fp.D → Gs → Rs Flw} {R : It → Hp → Prop} (h : OutS F Pt ρx z G H (r.bind f) D W) (rel : Rel F Pt z ρ σ G H) (le : LeS ρx ρ)
    (k : ∀ ds g1 J z1 G1 H1, RngAt F z1 g1 H1 → IterAt F (KpB true z1 G1 H1) J ds → Rel F Pt z1 ρ σ G1 H1 → OutS F Pt ρx z1 G1 H1 (f ds g1) D W → R J H1) : OutI F true z G H r R fun cl d H' => W cl d σ H' := by
  cases r with
  | ok d g' => exact fun J z' G' H' gr rn it => k d g' J z' G' H' rn it (rel.grow gr) (OutS.grow (show OutS F Pt ρx z G H (f d g') D W from h) (.of rel gr))
  | ex cl fs g' => exact fun da z' G' H' gr rn rp => h da σ z' G' H' (.of rel gr) ((rel.grow gr).le le) rn rp
  | no => exact h
end

/-! ### slots that are owned -/
/-- a slot gets something that no one holds -/
theorem Rel.setOw (r : Rel F Pt z ρ σ G H) {i : Nat} {a : Addr} {d : D} (gA : G a = none) (nz : a ∉ z) (np : ¬ Pt.own a) (oa : OwnAt F z G H a d) (far : ∀ j e b, ρ[j]? = some (.ow e) → σ[j]? = some (some (.ref b)) → b ≠ a ∨ j = i) :
    Rel F Pt z (ρ.set i (.ow d)) (σ.set i (some (.ref a))) G H where
  sub := r.sub
  zG := r.zG
  len := by rw [List.length_set, List.length_set]; exact r.len
  sh := fun j e hj => by
    rw [getSet] at hj ⊢
    rw [← r.len]
    by_cases c : i = j ∧ i < ρ.length
    · rw [if_pos c] at hj; cases hj
    · rw [if_neg c] at hj ⊢
      exact r.sh j e hj
  ow := fun j e hj => by
    rw [getSet] at hj ⊢
    rw [← r.len]
    by_cases c : i = j ∧ i < ρ.length
    · rw [if_pos c] at hj ⊢
      cases hj
      exact ⟨a, rfl, gA, nz, np, oa⟩
    · rw [if_neg c] at hj ⊢
      exact r.ow j e hj
  inj := fun j k e f b h1 h2 h3 h4 => by
    rw [getSet] at h1 h2 h3 h4
    rw [← r.len] at h3 h4
    by_cases c : i = j ∧ i < ρ.length
    · by_cases c2 : i = k ∧ i < ρ.length
      · rw [← c.1, ← c2.1]
      · rw [if_pos c] at h3
        rw [if_neg c2] at h2 h4
        cases h3
        rcases far k f _ h2 h4 with q | q
        · exact absurd rfl q
        · exact absurd ⟨q.symm, c.2⟩ c2
    · by_cases c2 : i = k ∧ i < ρ.length
      · rw [if_pos c2] at h4
        rw [if_neg c] at h1 h3
        cases h4
        rcases far j e _ h1 h3 with q | q
        · exact absurd rfl q
        · exact absurd ⟨q.symm, c2.2⟩ c
      · rw [if_neg c] at h1 h3
        rw [if_neg c2] at h2 h4
        exact r.inj j k e f b h1 h2 h3 h4
  pt := r.pt
  xc := fun j c fs hj => by
    rw [getSet] at hj ⊢
    rw [← r.len]
    by_cases q : i = j ∧ i < ρ.length
    · rw [if_pos q] at hj; cases hj
    · rw [if_neg q] at hj ⊢
      exact r.xc j c fs hj
/-- what is owned is written: the slot's new content -/
theorem Rel.write (r : Rel F Pt z ρ σ G H) {i : Nat} {a : Addr} {d d' : D} {o : HO} (hi : ρ[i]? = some (.ow d)) (hs : σ[i]? = some (some (.ref a))) (gA : G a = none) (oa : OwnAt F z G (upd H a o) a d') :
    Rel F Pt z (ρ.set i (.ow d')) σ G (upd H a o) where
  sub := fun b u e => by rw [upd_ne (fun q => by subst q; rw [gA] at e; cases e)]; exact r.sub b u e
  zG := r.zG
  len := by rw [List.length_set]; exact r.len
  sh := fun j e hj => by
    rw [getSet] at hj
    by_cases c : i = j ∧ i < ρ.length
    · rw [if_pos c] at hj; cases hj
    · rw [if_neg c] at hj
      exact r.sh j e hj
  ow := fun j e hj => by
    rw [getSet] at hj
    by_cases c : i = j ∧ i < ρ.length
    · rw [if_pos c] at hj
      cases hj
      obtain ⟨b, h1, h2, h3, h4, h5⟩ := r.ow i d hi
      rw [hs] at h1
      cases h1
      exact ⟨a, by rw [← c.1]; exact hs, gA, h3, h4, oa⟩
    · rw [if_neg c] at hj
      obtain ⟨b, h1, h2, h3, h4, h5⟩ := r.ow j e hj
      refine ⟨b, h1, h2, h3, h4, ?_⟩
      have ne : b ≠ a := fun q => by
        subst q
        have := r.inj i j d e b hi hj hs h1
        exact c ⟨this, (List.getElem?_eq_some_iff.mp hi).1⟩
      cases e with
      | lst ds => obtain ⟨vs, k1, k2⟩ := h5; exact ⟨vs, by rw [upd_ne ne]; exact k1, k2⟩
      | dic ks vs =>
        rcases h5 with ⟨e, k1, k2, k3⟩ | ⟨e, k1, k2, k3⟩
        · exact .inl ⟨e, by rw [upd_ne ne]; exact k1, k2, k3⟩
        · exact .inr ⟨e, by rw [upd_ne ne]; exact k1, k2, k3⟩
      | _ => exact h5.elim
  inj := fun j k e f b h1 h2 h3 h4 => by
    have back : ∀ {m : Nat} {y : D}, (ρ.set i (Sl.ow d'))[m]? = some (.ow y) → ∃ y', ρ[m]? = some (.ow y') := by
      intro m y h
      rw [getSet] at h
      by_cases c : i = m ∧ i < ρ.length
      · exact ⟨d, by rw [← c.1]; exact hi⟩
      · rw [if_neg c] at h; exact ⟨y, h⟩
    obtain ⟨e', h1⟩ := back h1
    obtain ⟨f', h2⟩ := back h2
    exact r.inj j k e' f' b h1 h2 h3 h4
  pt := fun b p => by
    obtain ⟨h1, ⟨u, h2⟩, h3⟩ := r.pt b p
    refine ⟨h1, ?_, h3⟩
    by_cases e : b = a
    · subst e; exact ⟨o, upd_same⟩
    · exact ⟨u, by rw [upd_ne e]; exact h2⟩
  xc := fun j c fs hj => by
    rw [getSet] at hj
    by_cases q : i = j ∧ i < ρ.length
    · rw [if_pos q] at hj; cases hj
    · rw [if_neg q] at hj
      exact r.xc j c fs hj
/-- .. for the callers -/
theorem GrowS.write (r : Rel F Pt z ρ σ G H) {a : Addr} {o : HO} (gA : G a = none) (np : ¬ Pt.own a) : GrowS Pt z G H z G (upd H a o) where
  zl := .refl z
  same := fun b u p h => by rw [upd_ne (fun q => np (by rw [← q]; exact p))]; exact h
  sub' := fun b u e => by rw [upd_ne (fun q => by subst q; rw [gA] at e; cases e)]; exact r.sub b u e
  sub := .refl G
  new := fun b h => .inl h
  zG := r.zG
  zn := fun e c m => by rw [e] at m; cases m
/-- what is owned is given up -/
theorem Rel.freeze (r : Rel F Pt z ρ σ G H) {i : Nat} {d : D} (hi : ρ[i]? = some (.ow d)) : ∃ G', GrowS Pt z G H z G' H ∧ Rel F Pt z (ρ.set i (.sh d)) σ G' H := by
  obtain ⟨a, h1, h2, h3, h4, h5⟩ := r.ow i d hi
  obtain ⟨o, ho, rp⟩ := h5.rep h2
  have sub : Sub G (upd G a o) := fun b u e => by rw [upd_ne (fun q => by subst q; rw [h2] at e; cases e)]; exact e
  have sub' : Sub (upd G a o) H := fun b u e => by
    by_cases q : b = a
    · subst q; rw [upd_same] at e; rw [ho]; exact e
    · rw [upd_ne q] at e; exact r.sub b u e
  have zG : ∀ b ∈ z, upd G a o b = none := fun b m => by rw [upd_ne (fun q => h3 (by rw [← q]; exact m))]; exact r.zG b m
  refine ⟨upd G a o, ⟨.refl z, fun b u _ h => h, sub', sub, fun b h => ?_, zG, fun e c m => by rw [e] at m; cases m⟩, ⟨sub', zG, by rw [List.length_set]; exact r.len, fun j e hj => ?_, fun j e hj => ?_, fun j k e f b k1 k2 k3 k4 => ?_, fun b p => ?_, fun j c fs hj => ?_⟩⟩
  · by_cases q : b = a
    · subst q; exact .inr h4
    · rw [upd_ne q] at h; exact .inl h
  · rw [getSet] at hj
    by_cases c : i = j ∧ i < ρ.length
    · rw [if_pos c] at hj
      cases hj
      exact ⟨.ref a, by rw [← c.1]; exact h1, rp⟩
    · rw [if_neg c] at hj
      obtain ⟨v, k1, k2⟩ := r.sh j e hj
      exact ⟨v, k1, k2.mono (.refl z) sub⟩
  · rw [getSet] at hj
    by_cases c : i = j ∧ i < ρ.length
    · rw [if_pos c] at hj; cases hj
    · rw [if_neg c] at hj
      obtain ⟨b, k1, k2, k3, k4, k5⟩ := r.ow j e hj
      have ne : b ≠ a := fun q => by
        subst q
        have := r.inj i j d e b hi hj h1 k1
        exact c ⟨this, (List.getElem?_eq_some_iff.mp hi).1⟩
      refine ⟨b, k1, by rw [upd_ne ne]; exact k2, k3, k4, ?_⟩
      cases e with
      | lst ds => obtain ⟨vs, m1, m2⟩ := k5; exact ⟨vs, m1, m2.mono (.refl z) sub⟩
      | dic ks vs =>
        rcases k5 with ⟨e, m1, m2, m3⟩ | ⟨e, m1, m2, m3⟩
        · exact .inl ⟨e, m1, m2.mono (.refl z) sub, m3.mono (.refl z) sub⟩
        · exact .inr ⟨e, m1, m2, m3.mono (.refl z) sub⟩
      | _ => exact k5.elim
  · rw [getSet] at k1 k2
    by_cases c : i = j ∧ i < ρ.length
    · rw [if_pos c] at k1; cases k1
    · by_cases c2 : i = k ∧ i < ρ.length
      · rw [if_pos c2] at k2; cases k2
      · rw [if_neg c] at k1
        rw [if_neg c2] at k2
        exact r.inj j k e f b k1 k2 k3 k4
  · obtain ⟨k1, k2, k3⟩ := r.pt b p
    exact ⟨by rw [upd_ne (fun q => h4 (by rw [← q]; exact p))]; exact k1, k2, k3⟩
  · rw [getSet] at hj
    by_cases q : i = j ∧ i < ρ.length
    · rw [if_pos q] at hj; cases hj
    · rw [if_neg q] at hj
      obtain ⟨b, e, k1, k2, k3⟩ := r.xc j c fs hj
      exact ⟨b, e, k1, k2, k3.mono (.refl z) sub⟩
end
end Fp
end
section
set_option Elab.async false
set_option linter.all false
set_option maxRecDepth 100000
set_option autoImplicit false
set_option maxHeartbeats 1000000
/-! Small statements. -/
namespace Fp
open PySem PySem.Spec PyProof.Rows L2

def isComp : Xp → Bool
  | .lc .. => true
  | .dc .. => true
  | _ => false
theorem sw_plain {e : Xp} (h : isComp e = false) (tg : Option Expr) (l : Nat) (env : Env) : swapsWith e.un tg l env = pure false := by
  cases e <;> first
    | (simp [isComp] at h; done)
    | rfl
    | (simp only [Xp.un]; rfl)
theorem sw_tuple (e : Xp) (es : List Expr) (k : Nat) (q : Pos) (l : Nat) (env : Env) : swapsWith e.un (some (.Tuple es k q)) l env = pure false := by
  cases e <;> first
    | rfl
    | (simp only [Xp.un]; rfl)
theorem sw_sub (e : Xp) (a b : Expr) (q : Pos) (l : Nat) (env : Env) : swapsWith e.un (some (.Subscript a b q)) l env = pure false := by
  cases e <;> first
    | rfl
    | (simp only [Xp.un]; rfl)
def swB (L : Lc) (x : Str) (q : Pos) : Xp → Bool
  | .lc _ _ _ _ _ sc p => L.sc.names.lookup x == some .local && q.line == p.line && !(sc.names.any fun (n, k) => n == x && (k == .local || k == .cell))
  | .dc _ _ _ _ _ _ sc p => L.sc.names.lookup x == some .local && q.line == p.line && !(sc.names.any fun (n, k) => n == x && (k == .local || k == .cell))
  | _ => false
def isTup : Xp → Bool
  | .tup .. => true
  | _ => false
section
variable {F : Fx} {n k : Nat} {X : Cx} {W : WX} {L : Lc} {Pt : Prv} {ρ ρx : List Sl} {r : Ev} {M : Gn}
theorem sw_is (O : LcOk L X) (hk : L.sc.kind = .function) (e : Xp) (x : Str) (q : Pos) (l : Nat) : swapsWith e.un (some (.Name x q)) l X.env = pure (swB L x q e) := by
  have hb : X.env.blockKind = .function := by unfold Env.blockKind; rw [O.sc, hk]; rfl
  have hl : X.env.kindOf x = L.sc.names.lookup x := by rw [← O.sc]; rfl
  cases e with
  | lc e tg it ifs own sc p =>
    simp only [Xp.un, swapsWith, Expr.pos, hb, hl, swB]
    rfl
  | dc kx e tg it ifs own sc p =>
    simp only [Xp.un, swapsWith, Expr.pos, hb, hl, swB]
    rfl
  | _ => exact sw_plain rfl _ _ _
theorem swB_local {x : Str} {q : Pos} {e : Xp} (h : swB L x q e = true) : L.sc.names.lookup x = some .local ∧ isComp e = true := by
  cases e <;> simp [swB, isComp] at h ⊢ <;> exact h.1.1

theorem snd_exprS {e : Xp} {p : Pos} (hc : isComp e = false) (he : PE X e.un (tX F Pt ρ false (fun g => r.e ρ g e) W)) (le : LeS ρx ρ) : PS X (Sm.expr e p).un (tS F Pt ρ ρx (fun g => stepS F.T r ρ g (.expr e p)) W) := by
  have eu : (Sm.expr e p).un = .Expr e.un p := by simp only [Sm.un]
  rw [eu]
  refine PS.imp (ps_expr he (sw_plain hc _ _ _)) ?_
  rintro D σ H ⟨z, G, g, rel, rng, out⟩
  refine ⟨z, G, g, rel, rng, outS_bind out rel le ?_⟩
  intro d g1 v z1 G1 H1 gr rn rp rel1 out
  exact out σ z1 G1 H1 (.refl rel1) rel1 rn
theorem snd_ret {e : Xp} {p : Pos} (he : PE X e.un (tX F Pt ρ true (fun g => r.e ρ g e) W)) (le : LeS ρx ρ) : PS X (Sm.ret e p).un (tS F Pt ρ ρx (fun g => stepS F.T r ρ g (.ret e p)) W) := by
  have eu : (Sm.ret e p).un = .Return (some e.un) p := by simp only [Sm.un]
  rw [eu]
  refine PS.imp (ps_ret he) ?_
  rintro D σ H ⟨z, G, g, rel, rng, out⟩
  refine ⟨z, G, g, rel, rng, outS_bind out rel le ?_⟩
  intro d g1 v z1 G1 H1 gr rn rp rel1 out
  exact out v z1 G1 H1 (.refl rel1) rn rp
theorem snd_retN {p : Pos} : PS X (Sm.retN p).un (tS F Pt ρ ρx (fun g => stepS F.T r ρ g (.retN p)) W) := by
  have eu : (Sm.retN p).un = .Return none p := by simp only [Sm.un]
  rw [eu]
  refine PS.imp ps_retN ?_
  rintro D σ H ⟨z, G, g, rel, rng, out⟩
  exact out .non z G H (.refl rel) rng .non
theorem snd_pas {p : Pos} : PS X (Sm.pas p).un (tS F Pt ρ ρx (fun g => stepS F.T r ρ g (.pas p)) W) := by
  have eu : (Sm.pas p).un = .Pass p := by simp only [Sm.un]
  rw [eu]
  refine PS.imp ps_pass ?_
  rintro D σ H ⟨z, G, g, rel, rng, out⟩
  exact out σ z G H (.refl rel) rel rng
theorem snd_brk {p : Pos} : PS X (Sm.brk p).un (tS F Pt ρ ρx (fun g => stepS F.T r ρ g (.brk p)) W) := by
  have eu : (Sm.brk p).un = .Break p := by simp only [Sm.un]
  rw [eu]
  refine PS.imp ps_break ?_
  rintro D σ H ⟨z, G, g, rel, rng, out⟩
  exact out σ z G H (.refl rel) rel rng
theorem snd_cnt {p : Pos} : PS X (Sm.cnt p).un (tS F Pt ρ ρx (fun g => stepS F.T r ρ g (.cnt p)) W) := by
  have eu : (Sm.cnt p).un = .Continue p := by simp only [Sm.un]
  rw [eu]
  refine PS.imp ps_continue ?_
  rintro D σ H ⟨z, G, g, rel, rng, out⟩
  exact out σ z G H (.refl rel) rel rng
theorem snd_iff {t : Xp} {a b : List Sm} {p : Pos} (ht : PT X t.un (tB F Pt ρ (fun g => evB r ρ g t) W)) (ha : PSs X (Sm.uns a) (tS F Pt ρ ρx (fun g => r.ss ρ g a) W)) (hb : PSs X (Sm.uns b) (tS F Pt ρ ρx (fun g => r.ss ρ g b) W)) (le : LeS ρx ρ) :
    PS X (Sm.iff t a b p).un (tS F Pt ρ ρx (fun g => stepS F.T r ρ g (.iff t a b p)) W) := by
  have eu : (Sm.iff t a b p).un = .If t.un (Sm.uns a) (Sm.uns b) p := by simp only [Sm.un]
  rw [eu]
  refine PS.imp (ps_if ht ha hb) ?_
  rintro D σ H ⟨z, G, g, rel, rng, out⟩
  refine ⟨z, G, g, rel, rng, outS_bindA out rel le ?_⟩
  intro d g1 z1 G1 H1 rn rel1 out
  cases d with
  | true => exact ⟨z1, G1, g1, rel1, rn, out⟩
  | false => exact ⟨z1, G1, g1, rel1, rn, out⟩

/-! ### name = value -/
/-- what is asked of an expression that is stored -/
structure SetOk (F : Fx) (X : Cx) (Pt : Prv) (ρ : List Sl) (r : Ev) (W : WX) (e : Xp) : Prop where
  sh : PE X e.un (tX F Pt ρ true (fun g => r.e ρ g e) W)
  nw : fresh e = true → PE X e.un (tN F Pt ρ (fun g => r.e ρ g e) W)
  st : isComp e = true → ∀ (i : Nat) (y : Str) (py spos : Pos), X.N[i]? = some y → X.env.scope.names.lookup y = some .local → swapsWith e.un (some (.Name y py)) spos.line X.env = pure true →
    PS X (.Assign [.Name y py] e.un spos) (tAsg (tN F Pt ρ (fun g => r.e ρ g e) W) (gName i))
theorem fresh_comp {e : Xp} (h : isComp e = true) : fresh e = true := by cases e <;> simp [isComp, fresh] at h ⊢
def asgW (L : Lc) (i : Nat) (x : Str) : Bool := nmW L i x && decide (L.sc.kind = .function)
theorem rel_new {z z1 : List Addr} {σ : L2.St} {G H G1 H1 : Hp} {a : Addr} (rel : Rel F Pt z ρ σ G H) (n : H a = none) : (∀ (j : Nat) (e : D) (b : Addr), ρ[j]? = some (.ow e) → σ[j]? = some (some (.ref b)) → b ≠ a) ∧ ¬ Pt.own a := by
  refine ⟨fun j e b h1 h2 q => ?_, fun p => ?_⟩
  · subst q
    obtain ⟨c, k1, _, _, _, k5⟩ := rel.ow j e h1
    rw [h2] at k1
    cases k1
    obtain ⟨o, ho⟩ := k5.there
    rw [n] at ho; cases ho
  · obtain ⟨_, ⟨o, ho⟩, _⟩ := rel.pt a p
    rw [n] at ho; cases ho
theorem snd_asg (C : Ctx F k X) (O : LcOk L X) {m : Bool} {i : Nat} {x : Str} {e : Xp} {q p : Pos} (hw : asgW L i x = true) (he : SetOk F X Pt ρ r W e) (le : LeS ρx ρ) :
    PS X (Sm.asg m i x e q p).un (tS F Pt ρ ρx (fun g => stepS F.T r ρ g (.asg m i x e q p)) W) := by
  obtain ⟨h1, h2⟩ := and2 hw
  have hk := of_decide_eq_true h2
  obtain ⟨h1, h3⟩ := and2 h1
  have hi : X.N[i]? = some x := by rw [O.N]; exact of_decide_eq_true h1
  obtain ⟨l1, l2⟩ := locB_ok O h3
  have eu : (Sm.asg m i x e q p).un = .Assign [.Name x q] e.un p := by simp only [Sm.un]
  rw [eu]
  have sw := sw_is O hk e x q p.line
  have set : ∀ {te : TE}, PE X e.un te → (∀ σ H Q, te σ H Q → tN F Pt ρ (fun g => r.e ρ g e) W σ H Q) → PS X (.Assign [.Name x q] e.un p) (tAsg te (gName i)) := by
    intro te ht hN
    cases hs : swB L x q e with
    | false => rw [hs] at sw; exact ps_set C.nd hi l1 ht sw l2
    | true =>
      rw [hs] at sw
      obtain ⟨s1, s2⟩ := swB_local hs
      exact PS.imp (he.st s2 i x q p hi (by rw [O.sc]; exact s1) sw) fun D σ H h => hN σ H _ h
  cases hm : m && fresh e with
  | false =>
    refine PS.imp (set he.sh fun _ _ _ => tX_tN) ?_
    rintro D σ H ⟨z, G, g, rel, rng, out⟩
    refine ⟨z, G, g, rel, rng, outS_bind out rel le ?_⟩
    intro d g1 v z1 G1 H1 gr rn rp rel1 out
    have hsl : slot m e d = .sh d := by
      unfold slot
      cases m with
      | false => rfl
      | true => rw [Bool.true_and] at hm; rw [hm]
    (try dsimp only at out)
    rw [hsl] at out
    exact out _ z1 G1 H1 (.refl rel1) (rel1.setSh rp) rn
  | true =>
    obtain ⟨m1, m2⟩ := and2 hm
    subst m1
    refine PS.imp (set (he.nw m2) fun _ _ _ h => h) ?_
    rintro D σ H ⟨z, G, g, rel, rng, out⟩
    refine ⟨z, G, g, rel, rng, outS_bindN out rel le ?_ ?_⟩
    · intro d g1 v z1 G1 H1 nm rn rp rel1 out
      (try dsimp only at out)
      have hsl : slot true e d = .sh d := by unfold slot; rw [m2, nm]
      rw [hsl] at out
      exact out _ z1 G1 H1 (.refl rel1) (rel1.setSh rp) rn
    · intro d g1 a z1 G1 H1 gr rn na gA nz oa rel1 out
      (try dsimp only at out)
      have hd : isMut d = true := by cases d <;> first | rfl | exact oa.elim
      have hsl : slot true e d = .ow d := by unfold slot; rw [m2, hd]
      rw [hsl] at out
      obtain ⟨far, np⟩ := rel_new (z1 := z1) (G1 := G1) (H1 := H1) rel na
      exact out _ z1 G1 H1 (.refl rel1) (rel1.setOw gA nz np oa fun j e b q1 q2 => .inl (far j e b q1 q2)) rn

/-! ### a, b = value -/
def unpW (L : Lc) (ts : List Tg) (e : Xp) : Bool := (L.calm && Tg.ws L ts) && !isTup e
theorem snd_unp (C : Ctx F k X) (O : LcOk L X) {ts : List Tg} {e : Xp} {kk : Nat} {q p : Pos} (hw : unpW L ts e = true) (he : PE X e.un (tX F Pt ρ true (fun g => r.e ρ g e) W)) (le : LeS ρx ρ) :
    PS X (Sm.unp ts e kk q p).un (tS F Pt ρ ρx (fun g => stepS F.T r ρ g (.unp ts e kk q p)) W) := by
  obtain ⟨h1, h2⟩ := and2 hw
  have eu : (Sm.unp ts e kk q p).un = .Assign [(Tg.tp ts kk q).un] e.un p := by simp only [Sm.un, Tg.un]
  rw [eu]
  have et : (Tg.tp ts kk q).un = .Tuple (Tg.uns ts) kk q := by simp only [Tg.un]
  have hT := snd_T (Pt := Pt) (ρ := ρ) C O (tg := .tp ts kk q) h1
  refine PS.imp (ps_asg he hT (by rw [et]; exact sw_tuple e (Tg.uns ts) kk q p.line X.env) ?_ (by rw [et]; rfl)) ?_
  · rw [et]
    cases e <;> first
      | (simp [isTup] at h2; done)
      | rfl
      | (simp only [Xp.un]; rfl)
  · rintro D σ H ⟨z, G, g, rel, rng, out⟩
    refine ⟨z, G, g, rel, rng, outS_bind out rel le ?_⟩
    intro d g1 v z1 G1 H1 gr rn rp rel1 out
    have eb : bindT (.tp ts kk q) d ρ = bindT (.tp ts 0 default) d ρ := by cases d <;> rfl
    cases hb : bindT (.tp ts 0 default) d ρ with
    | none => (try dsimp only at out); rw [hb] at out; exact out.elim
    | some ρ' =>
      (try dsimp only at out)
      rw [hb] at out
      exact ⟨z1, G1, d, ρ', rel1, rp, by rw [eb, hb], fun σ' rel' _ => out σ' z1 G1 H1 (.refl rel1) rel' rn⟩

/-! ### blocks -/
theorem snd_nil : PSs X (Sm.uns []) (tS F Pt ρ ρx (fun g => stepSs F.T r ρ g []) W) := by
  refine PSs.imp pss_nil ?_
  rintro D σ H ⟨z, G, g, rel, rng, out⟩
  exact out σ z G H (.refl rel) rel rng
theorem PSs.ex {α : Type} {ss : List Stmt} {t : α → TS} (h : ∀ a, PSs X ss (t a)) : PSs X ss fun D σ H => ∃ a, t a D σ H := ⟨fun pins s σ H D I ⟨a, hw⟩ => (h a).run pins s σ H D I hw⟩
theorem PSs.ex' {α : Type} {P : α → Prop} {ss : List Stmt} {t : α → TS} (h : ∀ a, P a → PSs X ss (t a)) : PSs X ss fun D σ H => ∃ a, P a ∧ t a D σ H := ⟨fun pins s σ H D I ⟨a, p, hw⟩ => (h a p).run pins s σ H D I hw⟩
def isFrz : Sm → Bool
  | .frz _ => true
  | _ => false
theorem snd_cons (hr : KeepsR r) {s : Sm} {ss : List Sm} (hf : isFrz s = false) (h1 : PS X s.un (tS F Pt ρ ρx (fun g => stepS F.T r ρ g s) W)) (h2 : ∀ ρ', LeS ρx (wipeN ρ' (Sm.asgds ss)) → PSs X (Sm.uns ss) (tS F Pt ρ' ρx (fun g => stepSs F.T r ρ' g ss) W))
    (le : LeS ρx (wipeN ρ (Sm.asgds (s :: ss)))) : PSs X (Sm.uns (s :: ss)) (tS F Pt ρ ρx (fun g => stepSs F.T r ρ g (s :: ss)) W) := by
  have eu : Sm.uns (s :: ss) = s.un :: Sm.uns ss := by
    cases s <;> first
      | (simp [isFrz] at hf; done)
      | (simp only [Sm.uns])
  rw [eu]
  refine PSs.imp (pss_cons h1 (PSs.ex' (P := fun ρ' => LeS ρx (wipeN ρ' (Sm.asgds ss))) h2)) ?_
  rintro D σ H ⟨z, G, g, rel, rng, out⟩
  refine ⟨z, G, g, rel, rng, ?_⟩
  have out : OutS F Pt ρx z G H ((stepS F.T r ρ g s).bind fun f g => match f with
    | .next ρ => stepSs F.T r ρ g ss
    | f => .ok f g) D W := out
  dsimp only
  cases q : stepS F.T r ρ g s with
  | no => rw [q] at out; exact out
  | ex cl fs g' => rw [q] at out; exact out
  | ok f g1 =>
    rw [q] at out
    cases f with
    | next ρ1 =>
      intro σ' z' G' H' gr rel' rn
      have o := stepS_onl hr q rfl
      refine ⟨ρ1, LeS.on le o (fun i hi => by rw [Sm.asgds]; exact mem_l hi) (fun i hi => by rw [Sm.asgds]; exact mem_r hi), z', G', g1, rel', rn, OutS.grow (show OutS F Pt ρx z G H (stepSs F.T r ρ1 g1 ss) D W from out) gr⟩
    | brk ρ1 => exact out
    | cnt ρ1 => exact out
    | ret d => exact out
theorem snd_frz {i : Nat} {ss : List Sm} (h2 : ∀ ρ', LeS ρx (wipeN ρ' (Sm.asgds ss)) → PSs X (Sm.uns ss) (tS F Pt ρ' ρx (fun g => stepSs F.T r ρ' g ss) W)) (le : LeS ρx (wipeN ρ (Sm.asgds (.frz i :: ss)))) : PSs X (Sm.uns (.frz i :: ss)) (tS F Pt ρ ρx (fun g => stepSs F.T r ρ g (.frz i :: ss)) W) := by
  have eu : Sm.uns (.frz i :: ss) = Sm.uns ss := by simp only [Sm.uns]
  rw [eu]
  have lf : ∀ s, LeS ρx (wipeN (ρ.set i s) (Sm.asgds ss)) := fun s => LeS.on (A := [i]) le (Onl.set (by simp)) (fun j hj => by simp only [Sm.asgds, Sm.asgd]; exact mem_l hj) (fun j hj => by rw [Sm.asgds]; exact mem_r hj)
  cases hi : ρ[i]? with
  | none =>
    refine PSs.imp (h2 ρ (LeS.sub le fun j hj => by rw [Sm.asgds]; exact mem_r hj)) ?_
    rintro D σ H ⟨z, G, g, rel, rng, out⟩
    have out : OutS F Pt ρx z G H ((stepS F.T r ρ g (.frz i)).bind fun f g => match f with
      | .next ρ => stepSs F.T r ρ g ss
      | f => .ok f g) D W := out
    simp only [stepS, hi] at out
    exact ⟨z, G, g, rel, rng, out⟩
  | some sl =>
    cases sl with
    | ow d =>
      refine PSs.imp (h2 (ρ.set i (.sh d)) (lf _)) ?_
      rintro D σ H ⟨z, G, g, rel, rng, out⟩
      have out : OutS F Pt ρx z G H ((stepS F.T r ρ g (.frz i)).bind fun f g => match f with
        | .next ρ => stepSs F.T r ρ g ss
        | f => .ok f g) D W := out
      simp only [stepS, hi] at out
      obtain ⟨G', gr, rel'⟩ := rel.freeze hi
      exact ⟨z, G', g, rel', rng, OutS.grow (show OutS F Pt ρx z G H (stepSs F.T r (ρ.set i (.sh d)) g ss) D W from out) gr⟩
    | _ =>
      refine PSs.imp (h2 ρ (LeS.sub le fun j hj => by rw [Sm.asgds]; exact mem_r hj)) ?_
      rintro D σ H ⟨z, G, g, rel, rng, out⟩
      have out : OutS F Pt ρx z G H ((stepS F.T r ρ g (.frz i)).bind fun f g => match f with
        | .next ρ => stepSs F.T r ρ g ss
        | f => .ok f g) D W := out
      simp only [stepS, hi] at out
      exact ⟨z, G, g, rel, rng, out⟩
end
end Fp
end
section
set_option Elab.async false
set_option linter.all false
set_option maxRecDepth 100000
set_option autoImplicit false
set_option maxHeartbeats 1000000
/-! Loops. -/
namespace Fp
open PySem PySem.Spec PyProof.Rows L2
section
variable {F : Fx} {n k : Nat} {X : Cx} {W : WX} {L : Lc} {Pt : Prv} {ρ ρx : List Sl} {r : Ev} {M : Gn}
theorem PT.ex {α : Type} {e : Expr} {t : α → TT} (h : ∀ a, PT X e (t a)) : PT X e fun σ H Q => ∃ a, t a σ H Q := ⟨fun pins s σ H Q I ⟨a, hw⟩ => (h a).run pins s σ H Q I hw⟩
theorem PG.ex {α : Type} {e : Expr} {t : α → TG} (h : ∀ a, PG X e (t a)) : PG X e fun v σ H Q => ∃ a, t a v σ H Q := ⟨fun pins s σ H v u Q I rv ⟨a, hw⟩ => (h a).run pins s σ H v u Q I rv hw⟩
/-- a body: what is asked of it -/
abbrev BlkS (F : Fx) (X : Cx) (Pt : Prv) (r : Ev) (W : WX) (b : List Sm) : Prop := ∀ ρ ρx, LeS ρx (wipeN ρ (Sm.asgds b)) → PSs X (Sm.uns b) (tS F Pt ρ ρx (fun g => r.ss ρ g b) W)
theorem snd_whl (hr : KeepsR r) (hp : PassesOwn (model X.prog X.w) X.A X.env X.xe) {t : Xp} {b : List Sm} {p : Pos} (ht : ∀ ρ, PT X t.un (tB F Pt ρ (fun g => evB r ρ g t) W)) (hb : BlkS F X Pt r W b) (le : LeS ρx (wipeN ρ (Sm.asgds b))) :
    PS X (Sm.whl t b p).un (tS F Pt ρ ρx (fun g => stepS F.T r ρ g (.whl t b p)) W) := by
  have eu : (Sm.whl t b p).un = .While t.un (Sm.uns b) [] p := by simp only [Sm.un]
  rw [eu]
  refine PS.imp (ps_while hp (PT.ex ht) (PSs.ex' (P := fun ρ' => LeS ρx (wipeN ρ' (Sm.asgds b))) fun ρ' h => hb ρ' ρx h)) ?_
  rintro D σ H ⟨z, G, g, rel, rng, out⟩
  refine ⟨fun m σ H => ∃ ρ1, LeS ρx (wipeN ρ1 (Sm.asgds b)) ∧ tS F Pt ρ1 ρx (fun g => whlGo r t b m ρ1 g) W D σ H, ⟨100000, ρ, le, z, G, g, rel, rng, out⟩, ?_⟩
  rintro m σ H ⟨ρ1, le1, z, G, g, rel, rng, out⟩
  cases m with
  | zero => exact out.elim
  | succ m =>
    refine ⟨ρ1, z, G, g, rel, rng, outS_bindA out rel le1.le ?_⟩
    intro d g1 z1 G1 H1 rn rel1 out
    cases d with
    | false => exact out σ z1 G1 H1 (.refl rel1) rel1 rn
    | true =>
      rw [if_pos rfl]
      refine ⟨_, fun σ' H' h => ⟨m, Nat.lt_succ_self m, h⟩, ρ1, le1, z1, G1, g1, rel1, rn, ?_⟩
      dsimp only at out ⊢
      cases q : r.ss ρ1 g1 b with
      | no => rw [q] at out; exact out
      | ex cl fs g' => rw [q] at out; exact out
      | ok f g2 =>
        rw [q] at out
        cases f with
        | next ρ2 => exact fun σ' z' G' H' gr rel' rn' => ⟨ρ2, LeS.on le1 (hr _ _ _ _ _ _ q rfl) (fun _ h => h) (fun _ h => h), z', G', g2, rel', rn', OutS.grow (show OutS F Pt ρx z1 G1 H1 (whlGo r t b m ρ2 g2) D W from out) gr⟩
        | cnt ρ2 => exact fun σ' z' G' H' gr rel' rn' => ⟨ρ2, LeS.on le1 (hr _ _ _ _ _ _ q rfl) (fun _ h => h) (fun _ h => h), z', G', g2, rel', rn', OutS.grow (show OutS F Pt ρx z1 G1 H1 (whlGo r t b m ρ2 g2) D W from out) gr⟩
        | brk ρ2 => exact out
        | ret d => exact out
def forW (L : Lc) (tg : Tg) : Bool := L.calm && tg.w L
theorem snd_for (hr : KeepsR r) (hp : PassesOwn (model X.prog X.w) X.A X.env X.xe) (C : Ctx F k X) (O : LcOk L X) {tg : Tg} {it : Src} {b : List Sm} {p : Pos} (hw : forW L tg = true)
    (hi : PI X tg.un it.un (tI F Pt ρ true (fun g => evI r ρ g it) W)) (hb : BlkS F X Pt r W b) (le : LeS ρx (wipeN ρ (tg1 tg ++ Sm.asgds b))) :
    PS X (Sm.for tg it b p).un (tS F Pt ρ ρx (fun g => stepS F.T r ρ g (.for tg it b p)) W) := by
  obtain ⟨h1, h2⟩ := and2 hw
  have eu : (Sm.for tg it b p).un = .For tg.un it.un (Sm.uns b) [] p := by simp only [Sm.un]
  rw [eu]
  refine PS.imp (ps_for hp (by rw [O.calm]; exact h1) hi (PG.ex fun ρ => snd_T (Pt := Pt) (ρ := ρ) C O h2) (PSs.ex' (P := fun ρ' => LeS ρx (wipeN ρ' (Sm.asgds b))) fun ρ' h => hb ρ' ρx h) (fun x => fold_ok it X.env x)) ?_
  rintro D σ H ⟨z, G, g, rel, rng, out⟩
  refine ⟨z, G, g, rel, rng, outS_bindI out rel le.le ?_⟩
  intro ds g1 J z1 G1 H1 rn1 itr rel1 out1
  refine ⟨fun i m σ H => m = ds.length - i ∧ i ≤ ds.length ∧ ∃ ρ1 z G g, LeS ρx (wipeN ρ1 (tg1 tg ++ Sm.asgds b)) ∧ Zl z1 z ∧ Sub G1 G ∧ Rel F Pt z ρ1 σ G H ∧ RngAt F z g H ∧ OutS F Pt ρx z G H (forGo r tg b ρ1 g (ds.drop i)) D W,
    ⟨ds.length, by simp, Nat.zero_le _, ρ, z1, G1, g1, le, .refl z1, .refl G1, rel1, rn1, out1⟩, ?_⟩
  rintro i m σ H ⟨rfl, hile, ρ1, z, G, g, le1, zl, sb, rel, rng, out⟩
  obtain ⟨st, go⟩ := itr z G H g i ⟨zl, sb⟩ rel.sub rel.zG rng
  by_cases hlt : i < ds.length
  · have hd : ds[i]? = some ds[i] := List.getElem?_eq_getElem hlt
    obtain ⟨g3, yl⟩ := go _ hd
    rw [List.drop_eq_getElem_cons hlt, forGo] at out
    cases hbt : bindT tg ds[i] ρ1 with
    | none => rw [hbt] at out; exact out.elim
    | some ρ2 =>
      rw [hbt] at out
      simp only at out
      have o1 := bindT_onl hbt
      have le2 : LeS ρx (wipeN ρ2 (tg1 tg ++ Sm.asgds b)) := LeS.on le1 o1 (fun j hj => mem_l hj) fun j hj => hj
      refine .inr ⟨g3, _, fun σ' H' h => ⟨ds.length - (i + 1), by omega, h⟩, ?_⟩
      intro x H' hy
      obtain ⟨G', gr, rn', rp⟩ := yl x H' hy
      refine ⟨ρ1, z, G', ds[i], ρ2, rel.grow gr, rp, hbt, fun σ2 rel2 _ => ⟨ρ2, LeS.sub le2 fun j hj => mem_r hj, z, G', g, rel2, rn', ?_⟩⟩
      have out := OutS.grow out (GrowS.of rel gr)
      dsimp only
      cases q : r.ss ρ2 g b with
      | no => rw [q] at out; exact out
      | ex cl fs g' => rw [q] at out; exact out
      | ok f g2 =>
        rw [q] at out
        have again : ∀ {ρ3 : List Sl}, Onl (Sm.asgds b) ρ2 ρ3 → OutS F Pt ρx z G' H' (forGo r tg b ρ3 g2 (ds.drop (i + 1))) D W → ∀ σ' z' G'' H'', GrowS Pt z G' H' z' G'' H'' → Rel F Pt z' ρ3 σ' G'' H'' → RngAt F z' g2 H'' →
            ds.length - (i + 1) = ds.length - (i + 1) ∧ i + 1 ≤ ds.length ∧ ∃ ρ1 z G g, LeS ρx (wipeN ρ1 (tg1 tg ++ Sm.asgds b)) ∧ Zl z1 z ∧ Sub G1 G ∧ Rel F Pt z ρ1 σ' G H'' ∧ RngAt F z g H'' ∧ OutS F Pt ρx z G H'' (forGo r tg b ρ1 g (ds.drop (i + 1))) D W := by
          intro ρ3 o3 out3 σ' z' G'' H'' gr3 rel3 rn3
          exact ⟨rfl, hlt, ρ3, z', G'', g2, LeS.on le2 o3 (fun j hj => mem_r hj) (fun j hj => hj), zl.trans gr3.zl, (sb.trans gr.sub).trans gr3.sub, rel3, rn3, out3.grow gr3⟩
        cases f with
        | next ρ3 => exact again (hr _ _ _ _ _ _ q rfl) out
        | cnt ρ3 => exact again (hr _ _ _ _ _ _ q rfl) out
        | brk ρ3 => exact out
        | ret d => exact out
  · have ei : ds.length = i := by omega
    have dn : ds.drop i = [] := List.drop_eq_nil_of_le (by omega)
    rw [dn, forGo] at out
    exact .inl ⟨st ei, out σ z G H (.refl rel) rel rng⟩
end
end Fp
end
section
set_option Elab.async false
set_option linter.all false
set_option maxRecDepth 100000
set_option autoImplicit false
set_option maxHeartbeats 1000000
/-! a, b = x, y -/
namespace Fp
open PySem PySem.Spec PyProof.Rows L2
section
variable {F : Fx} {Pt : Prv} {z : List Addr} {ρ : List Sl} {σ : L2.St} {G H : Hp}
/-- slots at other places -/
theorem Rel.map (r : Rel F Pt z ρ σ G H) {N : List Sl} {M : L2.St} (φ : Nat → Nat) (len : N.length = M.length) (h : ∀ (j : Nat) (s : Sl), N[j]? = some s → ρ[φ j]? = some s ∧ M[j]? = σ[φ j]?)
    (inj : ∀ j k, j < N.length → k < N.length → φ j = φ k → j = k) : Rel F Pt z N M G H where
  sub := r.sub
  zG := r.zG
  len := len
  sh := fun j d e => by
    obtain ⟨h1, h2⟩ := h j _ e
    obtain ⟨v, k1, k2⟩ := r.sh _ d h1
    exact ⟨v, h2.trans k1, k2⟩
  ow := fun j d e => by
    obtain ⟨h1, h2⟩ := h j _ e
    obtain ⟨a, k1, k2⟩ := r.ow _ d h1
    exact ⟨a, h2.trans k1, k2⟩
  inj := fun j k d e a h1 h2 h3 h4 => by
    obtain ⟨p1, p2⟩ := h j _ h1
    obtain ⟨q1, q2⟩ := h k _ h2
    exact inj j k (List.getElem?_eq_some_iff.mp h1).1 (List.getElem?_eq_some_iff.mp h2).1 (r.inj _ _ d e a p1 q1 (p2.symm.trans h3) (q2.symm.trans h4))
  pt := r.pt
  xc := fun j c fs e => by
    obtain ⟨h1, h2⟩ := h j _ e
    obtain ⟨a, d, k1, k2⟩ := r.xc _ c fs h1
    exact ⟨a, d, h2.trans k1, k2⟩
theorem Rel.pre {ex : List Sl} {us : L2.St} (l : ρ.length = σ.length) (r : Rel F Pt z (ρ ++ ex) (σ ++ us) G H) : Rel F Pt z ρ σ G H := by
  refine r.map id l (fun j s e => ?_) fun _ _ _ _ h => h
  have hj := (List.getElem?_eq_some_iff.mp e).1
  exact ⟨by rw [id, List.getElem?_append_left hj]; exact e, by rw [id, List.getElem?_append_left (by rw [← l]; exact hj)]⟩
theorem Rel.addUn (r : Rel F Pt z ρ σ G H) : Rel F Pt z (ρ ++ [.un]) (σ ++ [none]) G H := by
  have get : ∀ {j : Nat} {s : Sl}, (ρ ++ [Sl.un])[j]? = some s → s ≠ .un → ρ[j]? = some s ∧ (σ ++ [none])[j]? = σ[j]? := by
    intro j s e ns
    by_cases hj : j < ρ.length
    · rw [List.getElem?_append_left hj] at e
      exact ⟨e, List.getElem?_append_left (by rw [← r.len]; exact hj)⟩
    · exfalso
      rw [List.getElem?_append_right (by omega)] at e
      cases q : j - ρ.length with
      | zero => rw [q] at e; simp at e; exact ns e.symm
      | succ m => rw [q] at e; simp at e
  refine ⟨r.sub, r.zG, by simp [r.len], fun j d e => ?_, fun j d e => ?_, fun j k d e a h1 h2 h3 h4 => ?_, r.pt, fun j c fs e => ?_⟩
  · obtain ⟨h1, h2⟩ := get e (by simp)
    obtain ⟨v, k1, k2⟩ := r.sh j d h1
    exact ⟨v, h2.trans k1, k2⟩
  · obtain ⟨h1, h2⟩ := get e (by simp)
    obtain ⟨v, k1, k2⟩ := r.ow j d h1
    exact ⟨v, h2.trans k1, k2⟩
  · obtain ⟨p1, p2⟩ := get h1 (by simp)
    obtain ⟨q1, q2⟩ := get h2 (by simp)
    exact r.inj j k d e a p1 q1 (p2.symm.trans h3) (q2.symm.trans h4)
  · obtain ⟨h1, h2⟩ := get e (by simp)
    obtain ⟨a, d, k1, k2⟩ := r.xc j c fs h1
    exact ⟨a, d, h2.trans k1, k2⟩
theorem Rel.pushSh (r : Rel F Pt z ρ σ G H) {v : V} {d : D} (h : Rep F z G v d) : Rel F Pt z (ρ ++ [.sh d]) (σ ++ [some v]) G H := by
  have := r.addUn.setSh (i := ρ.length) h
  have e1 : (ρ ++ [Sl.un]).set ρ.length (.sh d) = ρ ++ [.sh d] := by simp
  have e2 : (σ ++ [none]).set ρ.length (some v) = σ ++ [some v] := by rw [r.len]; simp
  rw [e1, e2] at this
  exact this
theorem Rel.pushOw (r : Rel F Pt z ρ σ G H) {a : Addr} {d : D} (gA : G a = none) (nz : a ∉ z) (np : ¬ Pt.own a) (oa : OwnAt F z G H a d) (far : ∀ (j : Nat) (e : D) (b : Addr), ρ[j]? = some (.ow e) → σ[j]? = some (some (.ref b)) → b ≠ a) : Rel F Pt z (ρ ++ [.ow d]) (σ ++ [some (.ref a)]) G H := by
  have := r.addUn.setOw (i := ρ.length) gA nz np oa (fun j e b h1 h2 => by
    by_cases hj : j < ρ.length
    · rw [List.getElem?_append_left hj] at h1
      rw [List.getElem?_append_left (by rw [← r.len]; exact hj)] at h2
      exact .inl (far j e b h1 h2)
    · exfalso
      rw [List.getElem?_append_right (by omega)] at h1
      cases q : j - ρ.length with
      | zero => rw [q] at h1; simp at h1
      | succ m => rw [q] at h1; simp at h1)
  have e1 : (ρ ++ [Sl.un]).set ρ.length (.ow d) = ρ ++ [.ow d] := by simp
  have e2 : (σ ++ [none]).set ρ.length (some (.ref a)) = σ ++ [some (.ref a)] := by rw [r.len]; simp
  rw [e1, e2] at this
  exact this
/-- the first of what is aside is stored -/
theorem Rel.move {s : Sl} {v : Option V} {ss : List Sl} {vs : L2.St} (l : ρ.length = σ.length) (r : Rel F Pt z (ρ ++ s :: ss) (σ ++ v :: vs) G H) (i : Nat) : Rel F Pt z (ρ.set i s ++ ss) (σ.set i v ++ vs) G H := by
  have ll := r.len
  simp only [List.length_append, List.length_cons] at ll
  have φ1 : ∀ {j : Nat}, j < ρ.length → j ≠ i → (if j < ρ.length then (if j = i then ρ.length else j) else j + 1) = j := fun h1 h2 => by rw [if_pos h1, if_neg h2]
  have φ2 : i < ρ.length → (if i < ρ.length then (if i = i then ρ.length else i) else i + 1) = ρ.length := fun h1 => by rw [if_pos h1, if_pos rfl]
  have φ3 : ∀ {j : Nat}, ¬ j < ρ.length → (if j < ρ.length then (if j = i then ρ.length else j) else j + 1) = j + 1 := fun h1 => by rw [if_neg h1]
  refine r.map (fun j => if j < ρ.length then (if j = i then ρ.length else j) else j + 1) (by simp; omega) (fun j t e => ?_) fun j k hj hk h => ?_
  · by_cases hj : j < ρ.length
    · have e1 : (ρ.set i s ++ ss)[j]? = (ρ.set i s)[j]? := List.getElem?_append_left (by rw [List.length_set]; exact hj)
      have e2 : (σ.set i v ++ vs)[j]? = (σ.set i v)[j]? := List.getElem?_append_left (by rw [List.length_set, ← l]; exact hj)
      rw [e1, getSet] at e
      by_cases c : j = i
      · subst c
        rw [φ2 hj, e2, getSet, if_pos ⟨rfl, by rw [← l]; exact hj⟩]
        rw [if_pos ⟨rfl, hj⟩] at e
        refine ⟨?_, ?_⟩
        · rw [List.getElem?_append_right (Nat.le_refl _)]; simpa using e
        · rw [l, List.getElem?_append_right (Nat.le_refl _)]; simp
      · rw [φ1 hj c, e2, getSet, if_neg fun q => c q.1.symm]
        rw [if_neg fun q => c q.1.symm] at e
        refine ⟨?_, ?_⟩
        · rw [List.getElem?_append_left hj]; exact e
        · rw [List.getElem?_append_left (by rw [← l]; exact hj)]
    · rw [φ3 hj]
      have e1 : (ρ.set i s ++ ss)[j]? = ss[j - ρ.length]? := by rw [List.getElem?_append_right (by rw [List.length_set]; omega), List.length_set]
      have e2 : (σ.set i v ++ vs)[j]? = vs[j - ρ.length]? := by rw [List.getElem?_append_right (by rw [List.length_set, ← l]; omega), List.length_set, ← l]
      have e3 : (ρ ++ s :: ss)[j + 1]? = ss[j - ρ.length]? := by
        rw [List.getElem?_append_right (by omega), show j + 1 - ρ.length = (j - ρ.length) + 1 by omega, List.getElem?_cons_succ]
      have e4 : (σ ++ v :: vs)[j + 1]? = vs[j - ρ.length]? := by
        rw [List.getElem?_append_right (by rw [← l]; omega), ← l, show j + 1 - ρ.length = (j - ρ.length) + 1 by omega, List.getElem?_cons_succ]
      rw [e3, e2, e4]
      rw [e1] at e
      exact ⟨e, rfl⟩
  · by_cases c1 : j < ρ.length
    · by_cases c2 : k < ρ.length
      · rw [if_pos c1, if_pos c2] at h
        by_cases d1 : j = i
        · by_cases d2 : k = i
          · rw [d1, d2]
          · rw [if_pos d1, if_neg d2] at h; omega
        · by_cases d2 : k = i
          · rw [if_neg d1, if_pos d2] at h; omega
          · rw [if_neg d1, if_neg d2] at h; exact h
      · rw [if_pos c1, if_neg c2] at h
        by_cases d1 : j = i
        · rw [if_pos d1] at h; omega
        · rw [if_neg d1] at h; omega
    · by_cases c2 : k < ρ.length
      · rw [if_neg c1, if_pos c2] at h
        by_cases d2 : k = i
        · rw [if_pos d2] at h; omega
        · rw [if_neg d2] at h; omega
      · rw [if_neg c1, if_neg c2] at h; omega
/-- stores one after the other -/
def setAll : L2.St → List Nat → List V → L2.St
  | σ, i :: is, v :: vs => setAll (σ.set i (some v)) is vs
  | σ, _, _ => σ
def idxs : List Tg → List Nat
  | [] => []
  | .nm i _ _ :: ts => i :: idxs ts
  | .tp .. :: ts => idxs ts
theorem Rel.bind : ∀ {ts : List Tg} {ss ρ ρ' : List Sl} {σ : L2.St} {vs : List V}, ρ.length = σ.length → Rel F Pt z (ρ ++ ss) (σ ++ vs.map some) G H → bindP ts ss ρ = some ρ' → Rel F Pt z ρ' (setAll σ (idxs ts) vs) G H ∧ vs.length = (idxs ts).length
  | [], [], ρ, ρ', σ, vs, l, r, h => by
    simp only [bindP, Option.some.injEq] at h
    subst h
    have ll := r.len
    have : vs = [] := by
      cases vs with
      | nil => rfl
      | cons => simp at ll; omega
    subst this
    simp only [List.append_nil, List.map_nil] at r
    exact ⟨r, rfl⟩
  | [], _ :: _, _, _, _, _, _, _, h => by simp [bindP] at h
  | .nm i _ _ :: ts, [], _, _, _, _, _, _, h => by simp [bindP] at h
  | .tp .. :: ts, ss, _, _, _, _, _, _, h => by simp [bindP] at h
  | .nm i x p :: ts, s :: ss, ρ, ρ', σ, vs, l, r, h => by
    rw [bindP] at h
    cases vs with
    | nil => have ll := r.len; simp at ll; omega
    | cons v vs =>
      rw [List.map_cons] at r
      obtain ⟨h1, h2⟩ := Rel.bind (vs := vs) (by rw [List.length_set, List.length_set]; exact l) (r.move l i) h
      exact ⟨h1, by simp [idxs, h2]⟩
end

/-! ### the values -/
def OutM (F : Fx) (Pt : Prv) (ρ ex : List Sl) (us : List V) (σ : L2.St) (z : List Addr) (G H : Hp) (r : Rs (List D)) (ms : List Bool) (es : List Xp) (Q : List V → Hp → Prop) (W : WX) : Prop := match r with
  | .ok ds g' => ∀ vs z' G' H', GrowS Pt z G H z' G' H' → RngAt F z' g' H' → Rel F Pt z' (ρ ++ (ex ++ slots ms es ds)) (σ ++ (us ++ vs).map some) G' H' → Q vs H'
  | .ex cl fs g' => ∀ da z' G' H', GrowS Pt z G H z' G' H' → Rel F Pt z' ρ σ G' H' → RngAt F z' g' H' → ExcAt F z' G' H' cl fs da → W (.ref (F.ca cl)) da σ H'
  | .no => False
theorem OutM.grow {F : Fx} {Pt : Prv} {ρ ex : List Sl} {us : List V} {σ : L2.St} {z z1 : List Addr} {G H G1 H1 : Hp} {r : Rs (List D)} {ms : List Bool} {es : List Xp} {Q : List V → Hp → Prop} {W : WX} (h : OutM F Pt ρ ex us σ z G H r ms es Q W) (g : GrowS Pt z G H z1 G1 H1) : OutM F Pt ρ ex us σ z1 G1 H1 r ms es Q W := by
  cases r with
  | ok ds g' => exact fun vs z' G' H' gr => h vs z' G' H' (g.trans gr)
  | ex cl fs g' => exact fun da z' G' H' gr => h da z' G' H' (g.trans gr)
  | no => exact h
def tM (F : Fx) (Pt : Prv) (ρ : List Sl) (f : Gs → Rs (List D)) (ms : List Bool) (es : List Xp) (W : WX) (x : List Sl × List V) : TA := fun σ H Q =>
  ∃ z G g, ρ.length = σ.length ∧ Rel F Pt z (ρ ++ x.1) (σ ++ x.2.map some) G H ∧ RngAt F z g H ∧ OutM F Pt ρ x.1 x.2 σ z G H (f g) ms es Q W
section
variable {F : Fx} {n k : Nat} {X : Cx} {W : WX} {L : Lc} {Pt : Prv} {ρ ρx : List Sl} {r : Ev} {M : Gn}
theorem PA.ex {α : Type} {es : List Expr} {t : α → TA} (h : ∀ a, PA X es (t a)) : PA X es fun σ H Q => ∃ a, t a σ H Q := ⟨fun pos pins s σ H Q I ⟨a, hw⟩ => (h a).run pos pins s σ H Q I hw⟩
theorem slot_sh {m : Bool} {e : Xp} {d : D} (h : (m && fresh e) = false ∨ isMut d = false) : slot m e d = .sh d := by
  unfold slot
  cases m with
  | false => rfl
  | true =>
    rw [Bool.true_and] at h
    cases q : fresh e with
    | false => rfl
    | true =>
      rcases h with h | h
      · rw [q] at h; cases h
      · simp only; rw [h]
theorem slot_ow {e : Xp} {d : D} (h : fresh e = true) (hd : isMut d = true) : slot true e d = .ow d := by
  unfold slot
  rw [h, hd]
theorem snd_M : ∀ {es : List Xp} {ms : List Bool}, noStar es = true → es.length = ms.length → (∀ e ∈ es, SetOk F X Pt ρ r W e) → ∀ x, PA X (Xp.uns es) (tM F Pt ρ (fun g => evL r ρ g es) ms es W x)
  | [], ms, _, _, _, x => by
    refine PA.imp pa_nil ?_
    rintro σ H Q ⟨z, G, g, l, rel, rng, out⟩
    refine out [] z G H (.refl rel) rng ?_
    have : slots ms [] [] = [] := by cases ms <;> rfl
    rw [this, List.append_nil, List.append_nil]
    exact rel
  | e :: es, [], _, l, _, _ => by simp at l
  | e :: es, m :: ms, hs, l, h, ⟨ex, us⟩ => by
    obtain ⟨s1, s2⟩ := and2 hs
    have hst := not_of s1
    have he := h e (by simp)
    have ih := PA.ex (snd_M (es := es) (ms := ms) s2 (by simpa using l) fun x hx => h x (List.mem_cons_of_mem _ hx))
    have ev1 : ∀ g, evL r ρ g (e :: es) = (r.e ρ g e).bind fun d g => (evL r ρ g es).bind fun ds g => .ok (d :: ds) g := fun g => by
      cases e <;> first | rfl | simp [isStar] at hst
    have eu : starEach (Xp.uns (e :: es)) X.env = (false, eval e.un X.env) :: starEach (Xp.uns es) X.env := star_cons hst es X.env
    have eus : Xp.uns (e :: es) = e.un :: Xp.uns es := by simp only [Xp.uns]
    rw [eus] at eu ⊢
    /- the rest, behind the first value -/
    have rest : ∀ {σ : L2.St} {Q : List V → Hp → Prop} {z : List Addr} {G H : Hp} {d : D} {g1 : Gs} {v : V}, ρ.length = σ.length → RngAt F z g1 H → Rel F Pt z (ρ ++ ex ++ [slot m e d]) (σ ++ us.map some ++ [some v]) G H →
        OutM F Pt ρ ex us σ z G H ((evL r ρ g1 es).bind fun ds g => .ok (d :: ds) g) (m :: ms) (e :: es) Q W → ∃ x, tM F Pt ρ (fun g => evL r ρ g es) ms es W x σ H fun xs H2 => Q (v :: xs) H2 := by
      intro σ Q z G H d g1 v l rn rel out
      refine ⟨(ex ++ [slot m e d], us ++ [v]), z, G, g1, l, by simpa using rel, rn, ?_⟩
      dsimp only
      cases q2 : evL r ρ g1 es with
      | no => rw [q2] at out; exact out
      | ex cl fs g' => rw [q2] at out; exact out
      | ok ds g2 =>
        rw [q2] at out
        intro vs z' G' H' gr rn' rel'
        refine out (v :: vs) z' G' H' gr rn' ?_
        simpa [slots] using rel'
    cases hm : m && fresh e with
    | false =>
      refine PA.imp (pa_cons he.sh ih eu) ?_
      rintro σ H Q ⟨z, G, g, l, rel, rng, out⟩
      have rel0 := Rel.pre l rel
      refine ⟨z, G, g, rel0, rng, ?_⟩
      rw [show (fun g => evL r ρ g (e :: es)) g = evL r ρ g (e :: es) from rfl, ev1] at out
      dsimp only
      cases q : r.e ρ g e with
      | no => rw [q] at out; exact out
      | ex cl fs g' =>
        rw [q] at out
        exact fun da z' G' H' gr rn rp => out da z' G' H' (.of rel0 gr) (rel0.grow gr) rn rp
      | ok d g1 =>
        rw [q] at out
        intro v z1 G1 H1 gr rn rp
        refine rest l rn ?_ (OutM.grow (show OutM F Pt ρ ex us σ z G H ((evL r ρ g1 es).bind fun ds g => .ok (d :: ds) g) (m :: ms) (e :: es) Q W from out) (.of rel gr))
        rw [slot_sh (.inl hm)]
        exact (rel.grow gr).pushSh rp
    | true =>
      obtain ⟨m1, m2⟩ := and2 hm
      subst m1
      refine PA.imp (pa_cons (he.nw m2) ih eu) ?_
      rintro σ H Q ⟨z, G, g, l, rel, rng, out⟩
      have rel0 := Rel.pre l rel
      refine ⟨z, G, g, rel0, rng, ?_⟩
      rw [show (fun g => evL r ρ g (e :: es)) g = evL r ρ g (e :: es) from rfl, ev1] at out
      dsimp only
      cases q : r.e ρ g e with
      | no => rw [q] at out; exact out
      | ex cl fs g' =>
        rw [q] at out
        exact fun da z' G' H' gr rn rp => out da z' G' H' (.of rel0 gr) (rel0.grow gr) rn rp
      | ok d g1 =>
        rw [q] at out
        refine ⟨fun nm v z1 G1 H1 gr rn rp => ?_, fun a z1 G1 H1 gr rn na gA nz oa => ?_⟩
        · refine rest l rn ?_ (OutM.grow (show OutM F Pt ρ ex us σ z G H ((evL r ρ g1 es).bind fun ds g => .ok (d :: ds) g) (true :: ms) (e :: es) Q W from out) (.of rel gr))
          rw [slot_sh (.inr nm)]
          exact (rel.grow gr).pushSh rp
        · refine rest l rn ?_ (OutM.grow (show OutM F Pt ρ ex us σ z G H ((evL r ρ g1 es).bind fun ds g => .ok (d :: ds) g) (true :: ms) (e :: es) Q W from out) (.of rel gr))
          have hd : isMut d = true := by cases d <;> first | rfl | exact oa.elim
          rw [slot_ow m2 hd]
          obtain ⟨far, np⟩ := rel_new (z1 := z1) (G1 := G1) (H1 := H1) rel na
          exact (rel.grow gr).pushOw gA nz np oa far

/-! ### the stores -/
def gNames (is : List Nat) : TGs := fun vs σ H Q => vs.length = is.length ∧ Q (setAll σ is vs) H
def allNm : List Tg → Bool
  | [] => true
  | .nm .. :: ts => allNm ts
  | _ => false
theorem pgs_names (C : Ctx F k X) (O : LcOk L X) : ∀ {ts : List Tg}, allNm ts = true → Tg.ws L ts = true → PGs X (Tg.uns ts) (gNames (idxs ts))
  | [], _, _ => by
    refine ⟨fun pins s σ H vs us Q I rv h => pgs_nil.run pins s σ H vs us Q I rv ?_⟩
    obtain ⟨h1, h2⟩ := h
    have : vs = [] := List.length_eq_zero_iff.mp h1
    subst this
    exact ⟨rfl, h2⟩
  | .nm i x p :: ts, ha, hw => by
    obtain ⟨w1, w2⟩ := and2 hw
    obtain ⟨h1, h2⟩ := and2 (show nmW L i x = true from w1)
    obtain ⟨l1, l2⟩ := locB_ok O h2
    refine ⟨fun pins s σ H vs us Q I rv h => (pgs_cons (pg_name (i := i) C.nd (by rw [O.N]; exact of_decide_eq_true h1) l1 l2) (pgs_names C O (ts := ts) ha w2) rfl).run pins s σ H vs us Q I rv ?_⟩
    obtain ⟨h1, h2⟩ := h
    cases vs with
    | nil => simp [idxs] at h1
    | cons v vs => exact ⟨v, vs, rfl, by simpa [idxs] using h1, h2⟩
  | .tp .. :: ts, ha, _ => by cases ha

/-- swappedStores, told without an env -/
def swL (sc : Scope) (ts vs : List Expr) : Option (Option (List Str)) :=
  if !(ts.length == 2 || ts.length == 3) || vs.length != ts.length then some none else
  if vs.any fun | .Starred .. => true | _ => false then some none else
  let line := (ts.head?.map (·.pos.line)).getD 0
  let names := ts.filterMap fun
    | .Name id pos => if sc.names.lookup id == some .local && pos.line == line then some id else none
    | _ => none
  if names.length != ts.length || names.eraseDups.length != names.length then some none else
  if vs.all (foldedForSure 8) then some none else
  if vs.all (constantsAlone 8) then none else some (some names)
theorem swL_ok {env : Env} {ts vs : List Expr} {o : Option (List Str)} (hb : env.blockKind = .function) (h : swL env.scope ts vs = some o) (k k' : Nat) (q q' : Pos) : swappedStores [.Tuple ts k q] (.Tuple vs k' q') env = pure o := by
  have hbf : (env.blockKind != .function) = false := by rw [hb]; rfl
  unfold swL at h
  unfold swappedStores
  dsimp only
  rw [hbf, Bool.or_false]
  by_cases c1 : (!(ts.length == 2 || ts.length == 3) || vs.length != ts.length) = true
  · rw [if_pos c1] at h ⊢
    cases h; rfl
  · rw [if_neg c1] at h ⊢
    by_cases c2 : (vs.any fun | .Starred .. => true | _ => false) = true
    · rw [if_pos c2] at h
      cases h
      exact if_pos c2
    · rw [if_neg c2] at h
      refine (if_neg c2).trans ?_
      dsimp only at h
      by_cases c3 : ((ts.filterMap fun | .Name id pos => if env.scope.names.lookup id == some .local && pos.line == (ts.head?.map (·.pos.line)).getD 0 then some id else none | _ => none).length != ts.length || (ts.filterMap fun | .Name id pos => if env.scope.names.lookup id == some .local && pos.line == (ts.head?.map (·.pos.line)).getD 0 then some id else none | _ => none).eraseDups.length != (ts.filterMap fun | .Name id pos => if env.scope.names.lookup id == some .local && pos.line == (ts.head?.map (·.pos.line)).getD 0 then some id else none | _ => none).length) = true
      · have h' := (if_pos c3).symm.trans h
        cases h'
        exact if_pos c3
      · have h' := (if_neg c3).symm.trans h
        refine (if_neg c3).trans ?_
        by_cases c4 : (vs.all (foldedForSure 8)) = true
        · rw [if_pos c4] at h'
          cases h'
          exact if_pos c4
        · rw [if_neg c4] at h'
          refine (if_neg c4).trans ?_
          by_cases c5 : (vs.all (constantsAlone 8)) = true
          · rw [if_pos c5] at h'; cases h'
          · rw [if_neg c5] at h'
            refine (if_neg c5).trans ?_
            rw [← Option.some.inj h']
            rfl
def lcl (L : Lc) (x : Str) : Bool := decide (L.sc.names.lookup x = some .local)
/-- names stored from the right -/
def parW (L : Lc) : List Tg → List Str → Bool
  | [.nm i x _, .nm j y _], ns => decide (ns = [x, y]) && (lcl L x && (lcl L y && !(i == j)))
  | [.nm i x _, .nm j y _, .nm l u _], ns => decide (ns = [x, y, u]) && (lcl L x && (lcl L y && (lcl L u && (!(i == j) && (!(i == l) && !(j == l))))))
  | _, _ => false
theorem parW_ok {L : Lc} {ts : List Tg} {ns : List Str} (h : parW L ts ns = true) : (∃ i x px j y py, ts = [.nm i x px, .nm j y py] ∧ ns = [x, y] ∧ lcl L x = true ∧ lcl L y = true ∧ i ≠ j) ∨
    ∃ i x px j y py l u pu, ts = [.nm i x px, .nm j y py, .nm l u pu] ∧ ns = [x, y, u] ∧ lcl L x = true ∧ lcl L y = true ∧ lcl L u = true ∧ i ≠ j ∧ i ≠ l ∧ j ≠ l := by
  unfold parW at h
  split at h
  · rename_i i x px j y py
    obtain ⟨w1, h⟩ := and2 h
    obtain ⟨w2, h⟩ := and2 h
    obtain ⟨w3, w4⟩ := and2 h
    exact .inl ⟨i, x, px, j, y, py, rfl, of_decide_eq_true w1, w2, w3, by simpa using w4⟩
  · rename_i i x px j y py l u pu
    obtain ⟨w1, h⟩ := and2 h
    obtain ⟨w2, h⟩ := and2 h
    obtain ⟨w3, h⟩ := and2 h
    obtain ⟨w4, h⟩ := and2 h
    obtain ⟨w5, h⟩ := and2 h
    obtain ⟨w6, w7⟩ := and2 h
    exact .inr ⟨i, x, px, j, y, py, l, u, pu, rfl, of_decide_eq_true w1, w2, w3, w4, by simpa using w5, by simpa using w6, by simpa using w7⟩
  · cases h
def asgTW (L : Lc) (ms : List Bool) (ts : List Tg) (es : List Xp) : Bool :=
  L.calm && (decide (L.sc.kind = .function) && (noStar es && (Nat.beq es.length ms.length && (Nat.beq es.length ts.length && (allNm ts && (Tg.ws L ts && (fits es.length && (match swL L.sc (Tg.uns ts) (Xp.uns es) with
    | some none => true
    | some (some ns) => parW L ts ns
    | none => false))))))))
theorem snd_asgT (C : Ctx F k X) (O : LcOk L X) {ms : List Bool} {ts : List Tg} {es : List Xp} {kk k' : Nat} {q q' p : Pos} (hw : asgTW L ms ts es = true) (he : ∀ e ∈ es, SetOk F X Pt ρ r W e) (le : LeS ρx ρ) :
    PS X (Sm.asgT ms ts es kk k' q q' p).un (tS F Pt ρ ρx (fun g => stepS F.T r ρ g (.asgT ms ts es kk k' q q' p)) W) := by
  obtain ⟨hc, hw⟩ := and2 hw
  obtain ⟨hk, hw⟩ := and2 hw
  obtain ⟨hs, hw⟩ := and2 hw
  obtain ⟨hl, hw⟩ := and2 hw
  obtain ⟨hl2, hw⟩ := and2 hw
  obtain ⟨hn, hw⟩ := and2 hw
  obtain ⟨ht, hw⟩ := and2 hw
  obtain ⟨hf, hw⟩ := and2 hw
  have hk := of_decide_eq_true hk
  have hl := Nat.eq_of_beq_eq_true hl
  have hl2 := Nat.eq_of_beq_eq_true hl2
  have hb : X.env.blockKind = .function := by unfold Env.blockKind; rw [O.sc, hk]; rfl
  have hcal : X.calm = true := by rw [O.calm]; exact hc
  have eu : (Sm.asgT ms ts es kk k' q q' p).un = .Assign [.Tuple (Tg.uns ts) kk q] (.Tuple (Xp.uns es) k' q') p := by simp only [Sm.un]
  rw [eu]
  have pm := snd_M (F := F) (Pt := Pt) (ρ := ρ) (r := r) (W := W) hs hl he ([], [])
  /- the end of the values -/
  have fin : ∀ {D : Ends} {σ : L2.St} {H : Hp} {Q : List V → Hp → Prop}, tS F Pt ρ ρx (fun g => stepS F.T r ρ g (.asgT ms ts es kk k' q q' p)) W D σ H →
      (∀ vs z' G' H' g' ρ', RngAt F z' g' H' → Rel F Pt z' ρ' (setAll σ (idxs ts) vs) G' H' → vs.length = (idxs ts).length → vs.length = es.length → OutS F Pt ρx z' G' H' (.ok (.next ρ') g') D W → Rel F Pt z' ρ σ G' H' → Q vs H') →
      tM F Pt ρ (fun g => evL r ρ g es) ms es W ([], []) σ H Q := by
    rintro D σ H Q ⟨z, G, g, rel, rng, out⟩ hQ
    refine ⟨z, G, g, rel.len, by simpa using rel, rng, ?_⟩
    have out : OutS F Pt ρx z G H ((evL r ρ g es).bind fun ds g => (Rs.of (bindP ts (slots ms es ds) ρ) g).bind fun ρ g => .ok (.next ρ) g) D W := out
    dsimp only
    cases qe : evL r ρ g es with
    | no => rw [qe] at out; exact out
    | ex cl fs g' =>
      rw [qe] at out
      exact fun da z' G' H' gr rel' rn rp => out da σ z' G' H' gr (rel'.le le) rn rp
    | ok ds g1 =>
      rw [qe] at out
      intro vs z' G' H' gr rn rel'
      simp only [Rs.bind] at out
      cases hbp : bindP ts (slots ms es ds) ρ with
      | none => rw [hbp] at out; exact out.elim
      | some ρ' =>
        rw [hbp] at out
        obtain ⟨r1, r2⟩ := Rel.bind rel.len (by simpa using rel') hbp
        have hid : ∀ {ts : List Tg}, allNm ts = true → (idxs ts).length = ts.length := by
          intro ts
          induction ts with
          | nil => intro _; rfl
          | cons t ts ih =>
            intro h
            cases t with
            | nm i x p => simp [idxs, ih h]
            | tp => cases h
        exact hQ vs z' G' H' g1 ρ' rn r1 r2 (by rw [r2, hid hn, hl2]) (OutS.grow (show OutS F Pt ρx z G H (.ok (.next ρ') g1) D W from out) gr) (Rel.pre rel.len rel')
  cases hsw : swL L.sc (Tg.uns ts) (Xp.uns es) with
  | none => rw [hsw] at hw; cases hw
  | some o =>
    rw [hsw] at hw
    have sw := swL_ok (env := X.env) hb (by rw [O.sc]; exact hsw) kk k' q q'
    cases o with
    | none =>
      refine PS.imp (ps_asg (pe_tup pm) (pg_tup hcal (pgs_names C O hn ht) (each_len X.env ts) (each_star X.env ts)) rfl sw rfl) ?_
      intro D σ H h
      refine fin h ?_
      intro vs z' G' H' g' ρ' rn rel1 l1 l2 out rel0
      refine ⟨by rw [l2]; exact fits_size hf, fun a na => ?_⟩
      have gr : Grow z' G' H' z' G' (upd H' a (.tup vs)) := .aside rel1.sub rel1.zG na
      refine ⟨a, vs, rfl, .inl (.of upd_same), by rw [l2, hl2], l1, ?_⟩
      exact out _ z' G' _ (.of rel1 gr) (rel1.grow gr) (rn.keep fun b o e => by rw [upd_ne (ne_of_none e na)]; exact e)
    | some ns =>
      rcases parW_ok hw with ⟨i, x, px, j, y, py, rfl, rfl, w2, w3, w4⟩ | ⟨i, x, px, j, y, py, l, u, pu, rfl, rfl, w2, w3, w4, w5, w6, w7⟩
      · clear hw
        obtain ⟨e1, e2, rfl⟩ : ∃ e1 e2, es = [e1, e2] := by
          match es, hl2 with
          | [e1, e2], _ => exact ⟨e1, e2, rfl⟩
        obtain ⟨t1, t2⟩ := and2 ht
        obtain ⟨t2, _⟩ := and2 t2
        obtain ⟨n1, _⟩ := and2 (show nmW L i x = true from t1)
        obtain ⟨n2, _⟩ := and2 (show nmW L j y = true from t2)
        have euu : Xp.uns [e1, e2] = [e1.un, e2.un] := by simp only [Xp.uns]
        have etu : Tg.uns [.nm i x px, .nm j y py] = [.Name x px, .Name y py] := by simp only [Tg.uns, Tg.un]
        rw [euu] at sw pm ⊢
        rw [etu] at sw ⊢
        refine PS.imp (ps_par hcal C.nd (by rw [O.N]; exact of_decide_eq_true n1) (by rw [O.N]; exact of_decide_eq_true n2) w4 (by rw [O.sc]; exact of_decide_eq_true w2) (by rw [O.sc]; exact of_decide_eq_true w3) pm sw) ?_
        intro D σ H h
        refine fin h ?_
        intro vs z' G' H' g' ρ' rn rel1 l1 l2 out rel0
        match vs, l1 with
        | [v, w], _ => exact ⟨v, w, rfl, out _ z' G' H' (.refl rel1) rel1 rn⟩
      · clear hw
        obtain ⟨e1, e2, e3, rfl⟩ : ∃ e1 e2 e3, es = [e1, e2, e3] := by
          match es, hl2 with
          | [e1, e2, e3], _ => exact ⟨e1, e2, e3, rfl⟩
        obtain ⟨t1, t2⟩ := and2 ht
        obtain ⟨t2, t3⟩ := and2 t2
        obtain ⟨t3, _⟩ := and2 t3
        obtain ⟨n1, _⟩ := and2 (show nmW L i x = true from t1)
        obtain ⟨n2, _⟩ := and2 (show nmW L j y = true from t2)
        obtain ⟨n3, _⟩ := and2 (show nmW L l u = true from t3)
        have euu : Xp.uns [e1, e2, e3] = [e1.un, e2.un, e3.un] := by simp only [Xp.uns]
        have etu : Tg.uns [.nm i x px, .nm j y py, .nm l u pu] = [.Name x px, .Name y py, .Name u pu] := by simp only [Tg.uns, Tg.un]
        rw [euu] at sw pm ⊢
        rw [etu] at sw ⊢
        refine PS.imp (ps_par3 hcal C.nd (by rw [O.N]; exact of_decide_eq_true n1) (by rw [O.N]; exact of_decide_eq_true n2) (by rw [O.N]; exact of_decide_eq_true n3) w5 w6 w7 (by rw [O.sc]; exact of_decide_eq_true w2) (by rw [O.sc]; exact of_decide_eq_true w3) (by rw [O.sc]; exact of_decide_eq_true w4) pm sw) ?_
        intro D σ H h
        refine fin h ?_
        intro vs z' G' H' g' ρ' rn rel1 l1 l2 out rel0
        match vs, l1 with
        | [v, w, t], _ => exact ⟨v, w, t, rfl, out _ z' G' H' (.refl rel1) rel1 rn⟩
end
end Fp
end
section
set_option Elab.async false
set_option linter.all false
set_option maxRecDepth 100000
set_option autoImplicit false
set_option maxHeartbeats 1000000
/-! Lists and dicts that are changed in place. -/
namespace Fp
open PySem PySem.Spec PyProof.Rows L2
/-- o[i] = v of what is owned -/
def rSet (F : Fx) : TSet := fun o ix v H Q => rSetL o ix v H Q ∨ ∃ a z G ks vs kd d, o = .ref a ∧ Sub G H ∧ OwnAt F z G H a (.dic ks vs) ∧ Rep F z G ix kd ∧ Rep F z G v d ∧ keyFits kd ks = true ∧ fits ks.length = true ∧
  ∀ o', OwnAt F z G (upd H a o') a (.dic (Fp.putK kd ks) (putV kd d ks vs)) → Q (upd H a o')
section
variable {F : Fx} {n k : Nat} {X : Cx} {W : WX} {L : Lc} {Pt : Prv} {ρ ρx : List Sl} {r : Ev} {M : Gn}
theorem set_own (C : Ctx F k X) : PSet X (rSet F) := by
  intro pins s σ H o i v ov iv u Q I ro ri rv h
  rcases h with h | ⟨a, z, G, ks, vs, kd, d, rfl, sb, own, hk, hv, hf, hs, hQ⟩
  · exact set_list pins s σ H o i v ov iv u Q I ro ri rv h
  · cases (show ov = .ref a from ro)
    exact (put_own C I sb own hk hv ri rv hf hs fun s' o' I' own' => ⟨_, I', hQ o' own'⟩).2
theorem var_of (O : LcOk L X) {i : Nat} {x : Str} (hw : nameOk L i x = true) (p : Pos) : PE X (.Name x p) (tVar i) := by
  obtain ⟨h1, h2⟩ := and2 hw
  obtain ⟨h2, h3⟩ := and2 h2
  obtain ⟨h3, h4⟩ := and2 h3
  exact pe_var (i := i) (by rw [O.N]; exact of_decide_eq_true h1) (by rw [O.sc]; exact visB_ok h2) (by simpa using h3) (by simpa using h4)
theorem assign_sub (k : Xp) (o : Expr) (q : Pos) (env : Env) (v : Value) : assign (.Subscript o k.un q) env v = (do
    let ov ← holding [v] (eval o env)
    let iv ← holding [v, ov] (eval k.un env)
    standAt q
    holding [v, ov, iv] (setItem ov iv v)
    release [v, ov, iv] []) := by
  cases k <;> first
    | rfl
    | (simp only [Xp.un]; rfl)
theorem swS_none (e : Xp) (a b : Expr) (q : Pos) (env : Env) : swappedStores [.Subscript a b q] e.un env = pure none := by
  cases e <;> first
    | rfl
    | (simp only [Xp.un]; rfl)
theorem snd_setI (C : Ctx F k X) (O : LcOk L X) {i : Nat} {x : Str} {kx e : Xp} {q1 q p : Pos} (hw : nameOk L i x = true) (he : PE X e.un (tX F Pt ρ true (fun g => r.e ρ g e) W)) (hk : PE X kx.un (tX F Pt ρ true (fun g => r.e ρ g kx) W)) (le : LeS ρx ρ) :
    PS X (Sm.setI i x kx e q1 q p).un (tS F Pt ρ ρx (fun g => stepS F.T r ρ g (.setI i x kx e q1 q p)) W) := by
  have eu : (Sm.setI i x kx e q1 q p).un = .Assign [.Subscript (.Name x q1) kx.un q] e.un p := by simp only [Sm.un]
  rw [eu]
  refine PS.imp (ps_asg he (pg_sub (var_of O hw q1) hk (set_own C) (assign_sub kx _ q X.env)) (sw_sub e (.Name x q1) kx.un q p.line X.env) (swS_none e _ _ _ _) rfl) ?_
  rintro D σ H ⟨z, G, g, rel, rng, out⟩
  simp only [stepS] at out
  split at out
  · rename_i xs hρ
    refine ⟨z, G, g, rel, rng, outS_bind out rel le ?_⟩
    intro d g1 v z1 G1 H1 gr rn rp rel1 out
    obtain ⟨a, ha, _⟩ := rel1.ow i _ hρ
    refine ⟨.ref a, ha, z1, G1, g1, rel1, rn, outS_bind out rel1 le ?_⟩
    intro y g2 w z2 G2 H2 gr2 rn2 rp2 rel2 out
    cases y with
    | int j =>
      simp only at out
      cases hj : ixOf xs.length j with
      | none => rw [hj] at out; exact out.elim
      | some m =>
        rw [hj] at out
        obtain ⟨b, hb, gA, nz, np, vs, hv, rv⟩ := rel2.ow i _ hρ
        rw [ha] at hb
        cases hb
        have rp2 : Rep F z2 G2 w (.int j) := rp2
        have ew : w = .int j := by cases rp2; rfl
        subst ew
        have rp : Rep F z1 G1 v d := rp
        refine .inl ⟨a, vs, j, m, rfl, rfl, hv, by rw [← ixOf_ixN, rv.length]; exact hj, ?_⟩
        exact out σ z2 G2 _ (.write rel2 gA np) (rel2.write hρ ha gA ⟨_, upd_same, RepAll.set (rp.mono gr2.zl gr2.sub) m rv⟩) (rn2.write nz)
    | _ => exact out.elim
  · rename_i ks ds hρ
    refine ⟨z, G, g, rel, rng, outS_bind out rel le ?_⟩
    intro d g1 v z1 G1 H1 gr rn rp rel1 out
    obtain ⟨a, ha, _⟩ := rel1.ow i _ hρ
    refine ⟨.ref a, ha, z1, G1, g1, rel1, rn, outS_bind out rel1 le ?_⟩
    intro y g2 w z2 G2 H2 gr2 rn2 rp2 rel2 out
    cases hp : putO y d ks ds with
    | none => rw [hp] at out; exact out.elim
    | some mm =>
      obtain ⟨p1, p2, rfl⟩ := putO_some hp
      rw [hp] at out
      obtain ⟨b, hb, gA, nz, np, own⟩ := rel2.ow i _ hρ
      rw [ha] at hb
      cases hb
      have rp : Rep F z1 G1 v d := rp
      exact .inr ⟨a, z2, G2, ks, ds, y, d, rfl, gr2.sub', own, rp2, rp.mono gr2.zl gr2.sub, p1, p2, fun o' own' => out σ z2 G2 _ (.write rel2 gA np) (rel2.write hρ ha gA own') (rn2.write nz)⟩
  · exact out.elim
def appW (L : Lc) (i : Nat) (x : Str) (e : Xp) (q2 q : Pos) : Bool := nameOk L i x && (!isStar e && Nat.beq q2.endLine q.line)
theorem snd_app (C : Ctx F k X) (O : LcOk L X) {i : Nat} {x : Str} {e : Xp} {q1 q2 q p : Pos} (hw : appW L i x e q2 q = true) (he : PE X e.un (tX F Pt ρ true (fun g => r.e ρ g e) W)) (le : LeS ρx ρ) :
    PS X (Sm.app i x e q1 q2 q p).un (tS F Pt ρ ρx (fun g => stepS F.T r ρ g (.app i x e q1 q2 q p)) W) := by
  obtain ⟨h1, hw⟩ := and2 hw
  obtain ⟨h2, h3⟩ := and2 hw
  have hst := not_of h2
  have eu : (Sm.app i x e q1 q2 q p).un = .Expr (.Call (.Attribute (.Name x q1) "append" q2) [e.un] [] q) p := by simp only [Sm.un]
  rw [eu]
  have e1 : Xp.uns [e] = [e.un] := by simp only [Xp.uns]
  have hs := star_cons hst [] X.env
  rw [e1] at hs
  have hs : starEach (e.un :: []) X.env = (false, eval e.un X.env) :: starEach [] X.env := by rw [hs]; simp only [Xp.uns]
  have few := few_ok (es := [e]) (p := q) (env := X.env) (by simp [noStar, hst]) (by simp)
  rw [e1] at few
  refine PS.imp (ps_expr (pe_bm PySem.F.plainAttrs_list PySem.F.slot_list_append PySem.F.type_list_append mt_append (var_of O h1 q1) (pa_cons he pa_nil hs) rfl few (by rw [Nat.eq_of_beq_eq_true h3]; simp) hs rfl) rfl) ?_
  rintro D σ H ⟨z, G, g, rel, rng, out⟩
  simp only [stepS] at out
  split at out
  · rename_i xs hρ
    obtain ⟨a, ha, gA, nz, np, vs, hv, rv⟩ := rel.ow i _ hρ
    refine ⟨.ref a, ha, .inl ⟨rfl, vs, .of hv⟩, z, G, g, rel, rng, outS_bind out rel le ?_⟩
    intro d g1 v z1 G1 H1 gr rn rp rel1 out
    cases hf : fits xs.length with
    | false => rw [hf] at out; exact out.elim
    | true =>
      rw [hf] at out
      obtain ⟨b, hb, gA, nz, np, vs, hv, rv⟩ := rel1.ow i _ hρ
      rw [ha] at hb
      cases hb
      have rp : Rep F z1 G1 v d := rp
      refine ⟨a, vs, v, rfl, rfl, hv, by rw [rv.length]; exact fits_lt hf, ?_⟩
      exact out σ z1 G1 _ (.write rel1 gA np) (rel1.write hρ ha gA ⟨_, upd_same, rv.append (.cons rp .nil)⟩) (rn.write nz)
  · exact out.elim
theorem snd_ext (C : Ctx F k X) (O : LcOk L X) {i : Nat} {x : Str} {e : Xp} {q1 q2 q p : Pos} (hw : appW L i x e q2 q = true) (he : PE X e.un (tX F Pt ρ false (fun g => r.e ρ g e) W)) (le : LeS ρx ρ) :
    PS X (Sm.ext i x e q1 q2 q p).un (tS F Pt ρ ρx (fun g => stepS F.T r ρ g (.ext i x e q1 q2 q p)) W) := by
  obtain ⟨h1, hw⟩ := and2 hw
  obtain ⟨h2, h3⟩ := and2 hw
  have hst := not_of h2
  have eu : (Sm.ext i x e q1 q2 q p).un = .Expr (.Call (.Attribute (.Name x q1) "extend" q2) [e.un] [] q) p := by simp only [Sm.un]
  rw [eu]
  have e1 : Xp.uns [e] = [e.un] := by simp only [Xp.uns]
  have hs := star_cons hst [] X.env
  rw [e1] at hs
  have hs : starEach (e.un :: []) X.env = (false, eval e.un X.env) :: starEach [] X.env := by rw [hs]; simp only [Xp.uns]
  have few := few_ok (es := [e]) (p := q) (env := X.env) (by simp [noStar, hst]) (by simp)
  rw [e1] at few
  refine PS.imp (ps_expr (pe_bm PySem.F.plainAttrs_list PySem.F.slot_list_extend PySem.F.type_list_extend mt_extend (var_of O h1 q1) (pa_cons he pa_nil hs) rfl few (by rw [Nat.eq_of_beq_eq_true h3]; simp) hs rfl) rfl) ?_
  rintro D σ H ⟨z, G, g, rel, rng, out⟩
  simp only [stepS] at out
  split at out
  · rename_i xs hρ
    obtain ⟨a, ha, gA, nz, np, vs, hv, rv⟩ := rel.ow i _ hρ
    refine ⟨.ref a, ha, .inl ⟨rfl, vs, .of hv⟩, z, G, g, rel, rng, outS_bind out rel le ?_⟩
    intro d g1 v z1 G1 H1 gr rn rp rel1 out
    cases d with
    | lst ys =>
      simp only at out
      cases hf : fits (xs.length + ys.length) with
      | false => rw [hf] at out; exact out.elim
      | true =>
        rw [hf] at out
        obtain ⟨b, hb, gA, nz, np, vs, hv, rv⟩ := rel1.ow i _ hρ
        rw [ha] at hb
        cases hb
        obtain ⟨c, us, rfl, hu, ru⟩ := RepO.lst gr.sub' rp
        refine ⟨a, c, vs, us, rfl, rfl, hv, hu, by rw [rv.length, ru.length]; exact fits_size hf, ?_⟩
        exact out σ z1 G1 _ (.write rel1 gA np) (rel1.write hρ ha gA ⟨_, upd_same, rv.append ru⟩) (rn.write nz)
    | _ => exact out.elim
  · exact out.elim
end
end Fp
end
section
set_option Elab.async false
set_option linter.all false
set_option maxRecDepth 100000
set_option autoImplicit false
set_option maxHeartbeats 2000000
/-! The __init__ of an error class: super().__init__(..), then its fields. -/
namespace Fp
open PySem PySem.Spec PyProof.Rows L2

section
open PySem.W
variable {prog : Program} {w : World} {A : Around} {E : Value → Shared → Prop} {h : Heap} {g : Array GenState} {d : Drawn} {t : Nat} {os : OsState}
theorem call_mw {u a t0 C : Addr} {rest : List Value} {nm q : Str} {N : Addr} {bs bm : List Value} {hdct : Bool} {sn : List Str} {sub : List Value} {ab : Bool} {col : Option Bool} {dd : Option Addr} {k0 k1 k2 k3 k5 : Option Value} {Q : Value → Shared → Prop}
    (hu : h.get? u = some (kxs_mw "ValueError.__init__" a)) (hC : h.get? C = some (excClassObj nm q C N bs bm hdct sn sub ab col dd k0 k1 k2 k3 k5 "ValueError.__new__")) (he : h.get? a = some (excObj C t0 none .none)) (hz : rest.length ≤ sizeLine)
    (hq : ∀ h', (∀ b o, b ≠ a → h.get? b = some o → h'.get? b = some o) → h'.get? a = some (excObj C h.objs.size none .none) → Q .none ⟨h', g, d, t, os⟩) :
    wpAny (model prog w) A (call (.ref u) rest) Q E ⟨h, g, d, t, os⟩ := by
  have FB := F.excBase_ValueError
  refine wpAny_call (codeAny_of_tree ?_)
  show wpAny _ A.in1 (callAny (.ref u) ⟨rest, []⟩) _ _ _
  simp only [callAny]
  refine wpAny_bind (wpAny_load hu ?_)
  simp only [kxs_mw, show (Value.type "method-wrapper" == Value.type "method" || Value.type "method-wrapper" == Value.type "builtin_function_or_method" || Value.type "method-wrapper" == Value.type "method-wrapper") = true by decide, if_true]
  refine KFB.if_so (by decide) ?_
  refine wpAny_bind (check_bound_init FB.toExcCallFacts hC he rfl ?_)
  refine wpAny_bind (wpAny_pure (wpAny_pure ?_))
  refine ⟨plainId_quiet FB.init.plain _, codeAny_builtin FB.initEntry ?_⟩
  exact exc_init_tree (cls := .ref C) (t0 := t0) (dv := none) (c2 := .none) (c3 := .none) (b4 := .bool false) he hz fun h' k e' _ => hq h' k e'
end

/-- the context of such a body -/
def cxX (CX : CXT) (P : Program) (w : World) (K : PySem.W.Frag) (mg : Str → Option Value) (base : Heap) (N : List Str) (qual : Str) (scope : Scope) (f cda cc : Addr) (A : Around) (outer : List Env) (s : Shared) (H : Hp) (E : XK) : Cx where
  prog := P
  w := w
  K := K
  mg := mg
  base := base
  A := A.deeper (PySem.W.envX qual scope s.heap.objs.size f (.ref cda) [("__class__", cc)])
  N := N
  s_0 := s
  H_0 := H
  env := PySem.W.envX qual scope s.heap.objs.size f (.ref cda) [("__class__", cc)]
  outer := outer
  stack := PySem.W.envX qual scope s.heap.objs.size f (.ref cda) [("__class__", cc)] :: outer
  ex := []
  calm := true
  fn := fun x => !(x == ("__class__" : Str))
  pn := []
  xe := fun e s' => wpAny (model P w) (A.deeper (PySem.W.envX qual scope s.heap.objs.size f (.ref cda) [("__class__", cc)])) (leaving (PySem.W.envX qual scope s.heap.objs.size f (.ref cda) [("__class__", cc)]) e) (fun _ s'' => CX outer H s E e s'') (fun e' s'' => CX outer H s E e' s'') s'

/-- what is asked of the scope -/
structure IniScope (ns : List Str) (sc : Scope) : Prop where
  kind : sc.kind = .function
  co : sc.isCoroutine = false
  gen : sc.isGenerator = false
  nd : (("self" : Str) :: ns).Nodup
  par : ∀ x ∈ ("self" : Str) :: ns, sc.names.lookup x = some .local
  nocell : ∀ y ∈ sc.names, y.2 ≠ .cell
  sup : sc.names.lookup ("super" : Str) = some .globalImplicit
  cls : sc.names.lookup ("__class__" : Str) = some .free
  free : ∀ y ∈ sc.names, y.2 = .free → y.1 = "__class__"
/-- self.f = f, one after the other -/
inductive IsSets : List Str → List Stmt → Prop
  | nil : IsSets [] []
  | cons {f : Str} {fs : List Str} {r : List Stmt} {q1 q2 q3 q4 : Pos} : IsSets fs r → IsSets (f :: fs) (.Assign [.Attribute (.Name "self" q1) f q2] (.Name f q3) q4 :: r)

theorem rev_lookup : ∀ {ps : List Str} {us : List Value} {i : Nat} {x : Str} {u : Value}, ps.Nodup → ps[i]? = some x → us[i]? = some u → us.length = ps.length → (ps.zip us).reverse.lookup x = some u
  | [], us, i, x, u, _, h, _, _ => by simp at h
  | p :: ps, [], i, x, u, _, _, h, _ => by simp at h
  | p :: ps, v :: us, 0, x, u, nd, h1, h2, l => by
    simp at h1 h2
    subst h1 h2
    rw [List.zip_cons_cons, List.reverse_cons, List.lookup_append]
    have : (ps.zip us).reverse.lookup p = none := by
      cases e : (ps.zip us).reverse.lookup p with
      | none => rfl
      | some y =>
        have := PySem.mem_of_lookup e
        rw [List.mem_reverse] at this
        exact absurd (List.of_mem_zip this).1 (List.nodup_cons.mp nd).1
    rw [this]
    simp
  | p :: ps, v :: us, i + 1, x, u, nd, h1, h2, l => by
    rw [List.zip_cons_cons, List.reverse_cons, List.lookup_append, rev_lookup (i := i) (List.nodup_cons.mp nd).2 (by simpa using h1) (by simpa using h2) (by simpa using l)]
    rfl

section
variable {CX : CXT} {P : Program} {w : World} {K : PySem.W.Frag} {mg : Str → Option Value} {base : Heap} {ns : List Str} {qual : Str} {scope : Scope} {f cda cc C : Addr} {A : Around} {outer : List Env} {s : Shared} {H : Hp} {E : XK}
theorem inv_startX {us : List Value} {vs : List V} {h₀ : Heap} {tk : Nat} {cl : Value} {cld : Option Addr} {csl : Array (Option Value)} (S : IniScope ns scope) (hd : A.handled = none) (e0 : Env0 P w K mg base A outer s H) (hl : vs.length = ns.length + 1) (r : Vals vs us)
    (hc : K.lookup cc = some ⟨cl, cld, .cell (some (.ref C)), csl⟩) (hn : h₀.Ns s.heap.objs.size (fun x => ((("self" : Str) :: ns).zip us).reverse.lookup x)) (hk : ∀ b o, s.heap.get? b = some o → h₀.get? b = some o) :
    Inv (cxX CX P w K mg base (("self" : Str) :: ns) qual scope f cda cc A outer s H E) [] (vs.map some) H { s with heap := h₀, toks := tk } := by
  have look1 : ∀ {x : Str} {c : Addr}, ([(("__class__" : Str), cc)] : List (Str × Addr)).lookup x = some c → x = "__class__" ∧ c = cc := by
    intro x c e
    rw [List.lookup_cons] at e
    by_cases q : (x == ("__class__" : Str)) = true
    · rw [q] at e
      exact ⟨by simpa using q, (Option.some.inj e).symm⟩
    · rw [Bool.not_eq_true] at q
      rw [q] at e; cases e
  have bcc := e0.mod.kin _ _ hc
  have noA : ∀ b : Addr, b ∉ (cxX CX P w K mg base (("self" : Str) :: ns) qual scope f cda cc A outer s H E).ex := fun b z => absurd (show b ∈ ([] : List Addr) from z) (by simp)
  refine ⟨⟨e0.mod, S.kind, rfl, rfl, Nat.le_refl _, fun y z c h1 h2 => ?_, fun y hy => ?_, fun y c hf h => ?_, fun _ => hd, Around.frames_deeper e0.frames, .inr ⟨rfl, rfl⟩, fun b z => absurd z (noA b), e0.bs, e0.bsz, fun b _ _ => noA b, fun b z => absurd z (noA b), e0.funs, e0.frf⟩,
    rfl, e0.bare, Un.kept hk, ⟨_, hn, fun i y v h1 h2 h3 => ?_⟩, fun y c h => ?_, e0.hok.fresh (Nat.le_refl _), fun y c h => ?_, fun p hp => absurd (show p ∈ ([] : List (Addr × Obj)) from hp) (by simp), e0.hok.kept hk, ?_⟩
  · exact (look1 h1).1.trans (look1 h2).1.symm
  · have hy : scope.names.lookup y = some .cell ∨ scope.names.lookup y = some .free := hy
    rcases hy with hy | hy
    · exact absurd rfl (S.nocell _ (PySem.mem_of_lookup hy))
    · have := S.free _ (PySem.mem_of_lookup hy) rfl
      have this : y = "__class__" := this
      subst this
      exact ⟨cc, rfl⟩
  · obtain ⟨rfl, _⟩ := look1 h
    have hf : (!(("__class__" : Str) == ("__class__" : Str))) = true := hf
    simp at hf
  · rw [List.getElem?_map] at h2
    cases e : vs[i]? with
    | none => rw [e] at h2; cases h2
    | some a =>
      rw [e] at h2
      cases h2
      obtain ⟨u, hu, rv⟩ := r.get e
      exact ⟨u, rv, .inl ⟨S.par y (List.mem_of_getElem? h1), rev_lookup S.nd h1 hu (by rw [← r.length, hl]; rfl)⟩⟩
  · obtain ⟨_, rfl⟩ := look1 h
    exact ⟨some (.ref C), _, hk _ _ (e0.bs _ _ bcc).1, rfl⟩
  · obtain ⟨_, rfl⟩ := look1 h
    exact (e0.bs _ _ bcc).2
  · rw [List.length_map, hl]; rfl

/-- what __init__ promises -/
def spI (C : Addr) (ns : List Str) : Sp := fun vs H Q _ => ∃ (a : Addr) (ws : List V), vs = .ref a :: ws ∧ ws.length = ns.length ∧ H a = some (exo a C none) ∧
  ∀ (dx : Addr) (H' : Hp), H dx = none → dx ≠ a → H' a = some (exo a C (some dx)) → H' dx = some (exd dx (ns.zip ws).reverse) → (∀ b, b ≠ a → b ≠ dx → H' b = H b) → Q .non H'
end
section
variable {X : Cx} {a C dx : Addr}
/-- stores of fields -/
def tSets (K : PySem.W.Frag) (a C : Addr) (i : Nat) : List Str → TS
  | [] => tNext
  | f :: fs => tSeq (tOst K f (tVar 0) (tVar i)) (tSets K a C (i + 1) fs)
theorem pss_sets : ∀ {fs : List Str} {r : List Stmt} {i : Nat}, IsSets fs r → (∀ p, PE X (.Name "self" p) (tVar 0)) → (∀ j f, fs[j]? = some f → ∀ p, PE X (.Name f p) (tVar (i + j))) → PSs X r (tSets X.K a C i fs)
  | [], _, i, .nil, _, _ => pss_nil
  | f :: fs, _, i, .cons (q1 := q1) (q3 := q3) h, hs, hf => pss_cons (ps_ost (hs q1) (hf 0 f rfl q3) rfl) (pss_sets h hs fun j g e p => by
      have := hf (j + 1) g (by simpa using e) p
      rw [show i + (j + 1) = i + 1 + j by omega] at this
      exact this)
/-- they answer: a dict is there -/
theorem sets_run (T : OexC X.K C) {σ : L2.St} {D : Ends} : ∀ {fs : List Str} {ws : List V} {i : Nat} {H : Hp} {xs : List (Str × V)}, (∀ f ∈ fs, PySem.W.findIn X.K (.ref C) f = some none) → σ[0]? = some (some (.ref a)) → (∀ j v, ws[j]? = some v → σ[i + j]? = some (some v)) → ws.length = fs.length → dx ≠ a →
    H a = some (exo a C (some dx)) → H dx = some (exd dx xs) → xs.length + fs.length ≤ 900 → (∀ H', H' a = some (exo a C (some dx)) → H' dx = some (exd dx ((fs.zip ws).reverse ++ xs)) → (∀ b, b ≠ a → b ≠ dx → H' b = H b) → D.nx σ H') → tSets X.K a C i fs D σ H
  | [], [], i, H, xs, _, _, _, _, _, ha, hd, _, hq => hq H ha (by simpa using hd) fun _ _ _ => rfl
  | [], _ :: _, _, _, _, _, _, _, h, _, _, _, _, _ => by simp at h
  | f :: fs, [], _, _, _, _, _, _, h, _, _, _, _, _ => by simp at h
  | f :: fs, v :: ws, i, H, xs, hno, h0, hw, hl, ne, ha, hd, hz, hq => by
    simp only [List.length_cons] at hz
    refine ⟨v, by simpa using hw 0 v rfl, .ref a, h0, a, C, rfl, T, hno f (by simp), .inr ⟨dx, xs, ha, hd, by omega, ?_⟩⟩
    refine sets_run T (xs := (f, v) :: xs) (fun g hg => hno g (List.mem_cons_of_mem _ hg)) h0 (fun j u e => ?_) (by simpa using hl) ne (by rw [upd_ne ne.symm]; exact ha) upd_same (by simp; omega) fun H' k1 k2 k3 => hq H' k1 (by simpa using k2) fun b b1 b2 => by rw [k3 b b1 b2, upd_ne b2]
    have := hw (j + 1) u (by simpa using e)
    rw [show i + (j + 1) = i + 1 + j by omega] at this
    exact this
theorem sets_first (T : OexC X.K C) {σ : L2.St} {D : Ends} {f : Str} {fs : List Str} {ws : List V} {H : Hp} (hno : ∀ g ∈ f :: fs, PySem.W.findIn X.K (.ref C) g = some none) (h0 : σ[0]? = some (some (.ref a))) (hw : ∀ j v, ws[j]? = some v → σ[1 + j]? = some (some v)) (hl : ws.length = fs.length + 1)
    (ha : H a = some (exo a C none)) (hz : fs.length ≤ 800) (hq : ∀ dx H', H dx = none → dx ≠ a → H' a = some (exo a C (some dx)) → H' dx = some (exd dx ((f :: fs).zip ws).reverse) → (∀ b, b ≠ a → b ≠ dx → H' b = H b) → D.nx σ H') : tSets X.K a C 1 (f :: fs) D σ H := by
  cases ws with
  | nil => simp at hl
  | cons v ws =>
    refine ⟨v, by simpa using hw 0 v rfl, .ref a, h0, a, C, rfl, T, hno f (by simp), .inl ⟨ha, fun dx nd ne => ?_⟩⟩
    refine sets_run T (dx := dx) (xs := [(f, v)]) (fun g hg => hno g (List.mem_cons_of_mem _ hg)) h0 (fun j u e => ?_) (by simpa using hl) ne upd_same (by rw [upd_ne ne, upd_same]) (by simp; omega) fun H' k1 k2 k3 => hq dx H' nd ne k1 (by simpa using k2) fun b b1 b2 => by rw [k3 b b1 b2, upd_ne b1, upd_ne b2]
    have := hw (j + 1) u (by simpa using e)
    rw [show 1 + (j + 1) = 1 + 1 + j by omega] at this
    exact this
end
theorem super_call {o c : Expr} {name : Str} {apos pos : Pos} {env : Env} (hline : (apos.endLine == pos.line) = true) (hs : starEach [c] env = [(false, eval c env)]) : ∃ pl : Sem Bool, eval (.Call (.Attribute o name apos) [c] [] pos) env = (do
      let ov ← attributeBase o name env (eval o env)
      standAt apos.atName
      let (f, first) ← holding [ov] (getMethod ov name pl)
      callWith pos f first (backTo pos (starEach [c] env)) []) := by
  refine ⟨(do return (← importBound o env).getD true), ?_⟩
  rw [arm_eval_Call]
  have hform : methodCallForm ([c].length + ([] : List Keyword).length) (backTo pos (starEach [c] env)) (backToKw pos (keywordEach [] env)) = true := by rw [hs]; rfl
  have hpos : methodCallPos true o env apos pos = pure pos := by unfold methodCallPos; simp [hline]
  unfold methodCall
  rw [hform, hpos]
  rfl
section
open PySem.W
variable {CX : CXT} {P : Program} {w : World} {K : Frag} {mg : Str → Option Value} {base : Heap} {k : Nat} {n1 : Str} {ns : List Str} {name qual : Str} {params : Arguments} {body rest : List Stmt} {scope : Scope} {dV kV doc pm ct oc ccl cl : Value} {an od cdd cld : Option Addr} {osl ccs csl : Array (Option Value)}
  {f cda cc C : Addr} {p0 p1 p2 p3 p4 p5 : Pos} {tx file : Str} {j : Nat} {ar : Arg} {vs : Array Value} {tf : Tok} {cd : ClassData}
/-- such an __init__ keeps its promise -/
theorem init_ok (lk : K.lookup f = some ⟨oc, od, .func (fnX name qual params body scope [("__class__", cc)] dV kV doc pm an (.ref cda) ct), osl⟩) (hcd : codeIn K (.ref cda) qual = true)
    (hbody : body = .Expr (.Call (.Attribute (.Call (.Name "super" p0) [] [] p1) "__init__" p2) [.Constant (.str tx) j p3] [] p4) p5 :: rest) (hrest : IsSets (n1 :: ns) rest) (hp : (params.posonlyargs ++ params.args).head? = some ar) (har : ar.arg = "self")
    (S : IniScope (n1 :: ns) scope) (hcode : K.lookup cda = some ⟨ccl, cdd, .fields vs, ccs⟩) (hvs : vs[2]? = some (.str file tf)) (hfile : ((P.main.file : Str) == file) = true) (hcell : K.lookup cc = some ⟨cl, cld, .cell (some (.ref C)), csl⟩)
    (hD : clsIn K C = some cd) (hmro : mroIn K C (.ref C) = some true) (hsuper : mg "super" = none) (htop : (P.main.scope.names.lookup ("super" : Str)).isSome = false) (halong : ks_superIn K C C "__init__" = some (some (.builtin "ValueError.__init__")))
    (hB : subIn K (.ref C) (.type "ValueError") = some true) (hop : nsIn K cStatics "thirdparty.any" = some none) (T : OexC K C) (hno : ∀ g ∈ n1 :: ns, findIn K (.ref C) g = some none) (hz : ns.length ≤ 800)
    (hline : (p2.endLine == p4.line) = true) (hvis : ∀ x ∈ ("self" : Str) :: n1 :: ns, (x == ("__debug__" : Str)) = false ∧ (x == ("__classdict__" : Str)) = false) :
    FnOk P w K mg base CX (k + 1) f (fnX name qual params body scope [("__class__", cc)] dV kV doc pm an (.ref cda) ct) (("self" : Str) :: n1 :: ns) (spI C (n1 :: ns)) := by
  refine ⟨fun vs H Q E ⟨a, ws, e, l, _⟩ => by rw [e]; simp [l], fun A outer s H args us vs' Q E hr e0 hb r hsp => ?_⟩
  obtain ⟨a, ws, rfl, hl, ha, hq⟩ := hsp
  have KX : K.In s.heap := e0.mod.kin.keeps fun b o e => (e0.bs b o e).1
  have lim : s.heap.NoLimit := e0.mod.nolimit.keeps fun b o e => (e0.bs b o e).1
  refine ks_codeAny_call_defAt (fd := fnX name qual params body scope [("__class__", cc)] dV kV doc pm an (.ref cda) ct) (body := body) (binds := (("self" : Str) :: n1 :: ns).zip us) hr.depth (KX _ _ lk) rfl lim (codeRec_of KX hcd) rfl hb S.nocell
    (fun y hy => S.par _ (List.of_mem_zip hy).1) (fun h₀ hns hk => ?_) S.co S.gen S.kind
  have I : Inv (cxX CX P w K mg base (("self" : Str) :: n1 :: ns) qual scope f cda cc A outer s H E) [] ((V.ref a :: ws).map some) H { s with heap := h₀, toks := s.toks + ((("self" : Str) :: n1 :: ns).zip us).length } :=
    inv_startX S hr.hd e0 (by simp [hl]) r hcell hns hk
  obtain ⟨u0, ur, rfl, ru0, rur⟩ : ∃ u0 ur, us = u0 :: ur ∧ RelV (.ref a) u0 ∧ Vals ws ur := by
    cases r with
    | cons p q => exact ⟨_, _, rfl, p, q⟩
  obtain rfl : u0 = .ref a := ru0
  have hself : (((("self" : Str) :: n1 :: ns).zip (Value.ref a :: ur)).reverse).lookup ("self" : Str) = some (.ref a) := rev_lookup (i := 0) S.nd rfl rfl (by have := rur.length; simp only [List.length_cons] at hl ⊢; omega)
  rw [hbody]
  generalize hX : cxX CX P w K mg base (("self" : Str) :: n1 :: ns) qual scope f cda cc A outer s H E = X at I
  have eP : X.prog = P := by rw [← hX]; rfl
  have ew : X.w = w := by rw [← hX]; rfl
  have eK : X.K = K := by rw [← hX]; rfl
  have eA : X.A = A.deeper (envX qual scope s.heap.objs.size f (.ref cda) [("__class__", cc)]) := by rw [← hX]; rfl
  have eE : X.env = envX qual scope s.heap.objs.size f (.ref cda) [("__class__", cc)] := by rw [← hX]; rfl
  have eN : X.N = ("self" : Str) :: n1 :: ns := by rw [← hX]; rfl
  have eG : X.mg = mg := by rw [← hX]; rfl
  have exx : X.xe = fun e s' => wpAny (model P w) (A.deeper (envX qual scope s.heap.objs.size f (.ref cda) [("__class__", cc)])) (leaving (envX qual scope s.heap.objs.size f (.ref cda) [("__class__", cc)]) e) (fun _ s'' => CX outer H s E e s'') (fun e' s'' => CX outer H s E e' s'') s' := by rw [← hX]; rfl
  /- behind super().__init__ -/
  have after : ∀ s2, Inv X [] ((V.ref a :: ws).map some) H s2 → _root_.PySem.wpAt (model P w) (A.deeper (envX qual scope s.heap.objs.size f (.ref cda) [("__class__", cc)])) (.func (.Expr (.Call (.Attribute (.Call (.Name "super" p0) [] [] p1) "__init__" p2) [.Constant (.str tx) j p3] [] p4) p5 :: rest) (envX qual scope s.heap.objs.size f (.ref cda) [("__class__", cc)]))
      (execs rest (envX qual scope s.heap.objs.size f (.ref cda) [("__class__", cc)])) (fun fl s' => CR CX outer P w H s Q E (.ok (.ret (match fl with | .ret v => v | _ => .none))) s')
      (fun e s' => wpAny (model P w) (A.deeper (envX qual scope s.heap.objs.size f (.ref cda) [("__class__", cc)])) (leaving (envX qual scope s.heap.objs.size f (.ref cda) [("__class__", cc)]) e) (fun _ s'' => CX outer H s E e s'') (fun e' s'' => CX outer H s E e' s'') s') s2 := by
    intro s2 I2
    refine wpAt_of_wpAny ?_
    have vis : ∀ (i : Nat) (x : Str), (("self" : Str) :: n1 :: ns)[i]? = some x → ∀ p, PE X (.Name x p) (tVar i) := by
      intro i x hi p
      have m := List.mem_of_getElem? hi
      exact pe_var (i := i) (by rw [eN]; exact hi) (.inl (by rw [eE]; exact S.par x m)) (hvis x m).1 (hvis x m).2
    have ps : PSs X rest (tSets X.K a C 1 (n1 :: ns)) := pss_sets hrest (vis 0 "self" rfl) fun j g e p => by
      have := vis (1 + j) g (by rw [show 1 + j = j + 1 by omega]; simpa using e) p
      exact this
    have rn := ps.run [] s2 _ H { nx := fun _ H' => Q .non H', rt := Q } I2 (sets_first (D := { nx := fun _ H' => Q .non H', rt := Q }) (by rw [eK]; exact T) (by rw [eK]; exact hno) rfl (fun j v e => by
      rw [List.getElem?_map, show 1 + j = j + 1 by omega, List.getElem?_cons_succ, e]
      rfl) (by simpa using hl) ha hz fun dx H' n1 n2 k1 k2 k3 => hq dx H' n1 n2 k1 k2 k3)
    rw [eP, ew, eA, eE, exx] at rn
    refine wpAny_mono rn (fun fl s' hs => ?_) fun e s' hs => hs
    have fin : ∀ {σ' : L2.St} {H' : Hp} {v : V} {u : Value}, Inv X [] σ' H' s' → RelV v u → Q v H' → CE outer P w H s Q u s' := by
      intro σ' H' v u J rv q
      have j1 := J.os
      have j2 := J.base
      have j3 := J.hok
      rw [← hX] at j1 j2 j3
      exact ⟨v, H', j1, J.bare, j2, j3, rv, q⟩
    cases fl with
    | ret u =>
      obtain ⟨v, σ', H', J, rv, q⟩ := hs
      exact fin J rv q
    | next =>
      obtain ⟨σ', H', J, q⟩ := hs
      exact fin (v := V.non) (u := Value.none) J rfl q
    | brk =>
      obtain ⟨_, _, _, q⟩ := hs
      exact False.elim q
    | cont =>
      obtain ⟨_, _, _, q⟩ := hs
      exact False.elim q
  obtain ⟨pl, hpl⟩ := super_call (o := .Call (.Name "super" p0) [] [] p1) (c := .Constant (.str tx) j p3) (name := "__init__") (env := envX qual scope s.heap.objs.size f (.ref cda) [("__class__", cc)]) hline rfl
  refine ks_wpAt_execs_cons (ks_wpAt_Expr_any (ks_wpAt_MethodCall ?_ hpl) ?_ rfl)
  · obtain ⟨oD, hD1, hD2⟩ : ∃ oD, h₀.get? C = some oD ∧ oD.data = .cls cd := by
      have Kh : K.In h₀ := KX.keeps hk
      unfold clsIn at hD
      split at hD
      · rename_i c d cd' sl ho
        cases hD
        exact ⟨_, Kh _ _ ho, rfl⟩
      · cases hD
    have Kh : K.In h₀ := KX.keeps hk
    obtain ⟨nm, q, N, bs, bm, sn, sub, ab, col, dd, k0, k1, k2, k3, k5, hC, hbm⟩ := T.cls
    refine ks_wpAt_super_base S.sup S.cls (by decide) rfl (Kh _ _ lk) rfl hp rfl (Kh _ _ hcode) rfl hvs hfile htop ?_
    obtain ⟨mb, b1, b2⟩ := I.mod.blt
    have Ig := I.mod.glob.keeps I.bk
    rw [eG] at Ig
    have Ib := b1.keeps I.bk
    refine ks_loadName_global S.kind S.sup (Calls.loadGlobal_builtin (env := envX qual scope s.heap.objs.size f (.ref cda) [("__class__", cc)]) Ig hsuper Ib ((b2 _ (by decide +kernel)).trans (by decide +kernel)) ⟨rfl, ?_⟩)
    refine wpAny_loadName_free S.kind S.cls rfl ⟨_, Kh _ _ hcell, rfl⟩ ?_
    refine wpAny_loadName_local S.kind (by rw [har]; exact S.par _ (by simp)) hns (by rw [har]; exact hself) ?_
    refine ks_wpAny_isType_cls hD1 hD2 ⟨rfl, ?_⟩
    obtain ⟨t1, hea⟩ := exo_at I.hok ha
    refine ks_wpAny_call_super hD1 hD2 hea rfl (fun c e => by cases e) (looks_mroIn Kh hmro) (fun h' e k => ?_)
    have K1 : K.In h' := Kh.keeps k
    have I1 : Inv X [] ((V.ref a :: ws).map some) H { s with heap := h', toks := s.toks + ((("self" : Str) :: n1 :: ns).zip (Value.ref a :: ur)).length } := I.kept k
    have ins : InstAt h' a (excObj C t1 none .none) C none := ⟨k _ _ hea, rfl, rfl, trivial⟩
    have hf : alongIn K "__init__" ((cd.mro.dropWhile (· != .ref C)).drop 1) = some (some (.builtin "ValueError.__init__")) := by
      have := halong
      unfold ks_superIn at this
      rw [hD] at this
      exact this
    refine kxs_getMethod kxs_ValueError e (looks_opaque K1 hop) (l₀ := cd.mro) (fun A Q E s k q => wpAny_bind ((looks_clsIn K1 hD) A _ E s k (wpAny_pure q))) rfl K1 hf (ins.type.andThen (looks_subIn K1 hB)) (ks_ne K1 ins hD) (by decide) ?_
    refine kxs_callWith (i := "ValueError.__init__") (x := a) rfl (Calls.evalArgs_plain (Calls.spliced_cons (Calls.Constant_str (k := j) (pos := p3) (Calls.spliced_nil ⟨?_, ?_⟩))))
    · exact Heap.get?_push_at rfl rfl
    · have k2' : ∀ b o, h'.get? b = some o → (h'.push (kxs_mw "ValueError.__init__" a)).get? b = some o := fun b o e => Heap.get?_push_of_some _ e
      refine call_mw (Heap.get?_push_at rfl rfl) (k2' _ _ (K1 _ _ hC)) (k2' _ _ (k _ _ hea)) (by rw [sizeLine_eq]; simp) fun h2 kk hx => after _ ?_
      have J := (I1.kept (t' := s.toks + ((("self" : Str) :: n1 :: ns).zip (Value.ref a :: ur)).length + 1 + 1) k2').write (t' := s.toks + ((("self" : Str) :: n1 :: ns).zip (Value.ref a :: ur)).length + 1 + 1) (x := a) (e := a) (o := exo a C none) (by rw [ha]; exact True.intro) (.inl rfl) kk ⟨_, hx⟩ (exo_ok hx)
      have eu : upd H a (exo a C none) = H := by
        funext b
        by_cases hb : b = a
        · rw [hb, upd_same, ha]
        · rw [upd_ne hb]
      rw [eu] at J
      exact J
  · show interactive (envX qual scope s.heap.objs.size f (.ref cda) [("__class__", cc)]) = false
    simp [interactive, S.kind]
end
end Fp
end
section
set_option Elab.async false
set_option linter.all false
set_option maxRecDepth 100000
set_option autoImplicit false
set_option maxHeartbeats 1000000
/-! raise of an error of the program's own. -/
namespace Fp
open PySem PySem.Spec PyProof.Rows L2

theorem rev_lookupV : ∀ {ps : List Str} {us : List V} {i : Nat} {x : Str} {u : V}, ps.Nodup → ps[i]? = some x → us[i]? = some u → (ps.zip us).reverse.lookup x = some u
  | [], us, i, x, u, _, h, _ => by simp at h
  | p :: ps, [], i, x, u, _, _, h => by simp at h
  | p :: ps, v :: us, 0, x, u, nd, h1, h2 => by
    simp at h1 h2
    subst h1 h2
    rw [List.zip_cons_cons, List.reverse_cons, List.lookup_append]
    have : (ps.zip us).reverse.lookup p = none := by
      cases e : (ps.zip us).reverse.lookup p with
      | none => rfl
      | some y =>
        have := PySem.mem_of_lookup e
        rw [List.mem_reverse] at this
        exact absurd (List.of_mem_zip this).1 (List.nodup_cons.mp nd).1
    rw [this]
    simp
  | p :: ps, v :: us, i + 1, x, u, nd, h1, h2 => by
    rw [List.zip_cons_cons, List.reverse_cons, List.lookup_append, rev_lookupV (i := i) (List.nodup_cons.mp nd).2 (by simpa using h1) (by simpa using h2)]
    rfl
/-- a class of errors that can be raised -/
structure ErrOk (F : Fx) (c : Nat) : Prop where
  nd : (F.fl c).Nodup
  ini : ∃ (fI : Addr) (fd : FuncData), OexC F.K (F.ca c) ∧ PySem.W.findIn F.K (.ref (F.ca c)) "__init__" = some (some (.ref fI)) ∧ PySem.W.typeIn F.K (.ref fI) = some (.type "function") ∧ Binds F.K fd (("self" : Str) :: F.fl c) [] ∧
    FnOk F.P F.w F.K F.mg F.base (CX F.P F.w) 1 fI fd (("self" : Str) :: F.fl c) (spI (F.ca c) (F.fl c))
section
variable {F : Fx} {n k : Nat} {X : Cx} {W : WX} {L : Lc} {Pt : Prv} {ρ ρx : List Sl} {r : Ev} {M : Gn}
/-- the classes that can be raised: their numbers and how many fields -/
def raiW (M : Gn) (L : Lc) (fl : Nat → List Str) (ok : Nat → Bool) (c : Nat) (x : Str) (es : List Xp) : Bool :=
  decide (M.cls[c]? = some x) && (glB L.sc x && (L.calm && (noStar es && (!es.isEmpty && (Nat.beq es.length (fl c).length && (Nat.ble es.length 100 && ok c))))))
theorem snd_rai (GO : GnOk F M) (C : Ctx F (k + 2) X) (O : LcOk L X) (tk : Takes X W) {ok : Nat → Bool} (EO : ∀ c, ok c = true → ErrOk F c) {c : Nat} {x : Str} {es : List Xp} {q1 q p : Pos} (hw : raiW M L F.fl ok c x es = true) (h : ∀ e ∈ es, SndI F X W Pt ρ r true e) (le : LeS ρx ρ) :
    PS X (Sm.rai c x es q1 q p).un (tS F Pt ρ ρx (fun g => stepS F.T r ρ g (.rai c x es q1 q p)) W) := by
  obtain ⟨h1, hw⟩ := and2 hw
  obtain ⟨h2, hw⟩ := and2 hw
  obtain ⟨h3, hw⟩ := and2 hw
  obtain ⟨h4, hw⟩ := and2 hw
  obtain ⟨h5, hw⟩ := and2 hw
  obtain ⟨h6, hw⟩ := and2 hw
  obtain ⟨h7, h8⟩ := and2 hw
  have h1 := of_decide_eq_true h1
  have h6 := Nat.eq_of_beq_eq_true h6
  have h7 := Nat.le_of_ble_eq_true h7
  rw [← O.sc] at h2
  obtain ⟨g1, g2⟩ := glB_ok h2
  obtain ⟨nd, fI, fd, T, iC, tI, hb, fn⟩ := EO c h8
  have eu : (Sm.rai c x es q1 q p).un = .Raise (some (.Call (.Name x q1) (Xp.uns es) [] q)) none p := by simp only [Sm.un]
  rw [eu]
  obtain ⟨e0, es', rfl⟩ : ∃ e0 es', es = e0 :: es' := by
    cases es with
    | nil => simp at h5
    | cons e0 es' => exact ⟨e0, es', rfl⟩
  obtain ⟨s1, s2⟩ := and2 h4
  have hst := star_cons (not_of s1) es' X.env
  have eus : Xp.uns (e0 :: es') = e0.un :: Xp.uns es' := by simp only [Xp.uns]
  have hA := snd_L (F := F) (Pt := Pt) (ρ := ρ) (r := r) (W := W) C h
  rw [eus] at hst hA ⊢
  have hT : OexC X.K (F.ca c) := by rw [C.K]; exact T
  have hfn : FnOk X.prog X.w X.K X.mg X.base (CX X.prog X.w) 1 fI fd (("self" : Str) :: F.fl c) (spI (F.ca c) (F.fl c)) := by rw [C.prog, C.w, C.K, C.mg, C.base]; exact fn
  refine PS.imp (ps_raise (by rw [O.calm]; exact h3) tk (pmk_oex (ds := []) (dvs := []) hT (by rw [C.K]; exact iC) (by rw [C.K]; exact tI) hfn (C.room.mono (by omega)) (by rw [C.K]; exact hb) .nil (passes_call tk fun _ _ _ _ h => h.elim) g1 (by rw [C.mg]; exact GO.cls c x h1) hA g2 hst (star_none q X.env s2))) ?_
  rintro D σ H ⟨z, G, g, rel, rng, out⟩
  refine ⟨z, G, g, rel, rng, ?_⟩
  have out : OutS F Pt ρx z G H ((evL r ρ g (e0 :: es')).bind fun ds g => .ex c ds g) D W := out
  dsimp only
  cases qe : evL r ρ g (e0 :: es') with
  | no => rw [qe] at out; exact out
  | ex cl fs g' =>
    rw [qe] at out
    exact fun da z' G' H' gr rn rp => out da σ z' G' H' (.of rel gr) ((rel.grow gr).le le) rn rp
  | ok ds g1 =>
    rw [qe] at out
    intro vs z1 G1 H1 gr rn rp
    have lv : vs.length = (e0 :: es').length := by rw [rp.len, evL_len h4 qe]
    refine ⟨by rw [lv]; omega, fun a na => ⟨a, vs, by simp, by rw [lv, h6], upd_same, fun dx H' n1 n2 k1 k2 k3 => ⟨rfl, dx, _, k1, k2, ?_, ?_⟩⟩⟩
    · rw [upd_ne n2] at n1; exact n1
    · rw [upd_ne n2] at n1
      have eq : upd (del H' a) dx (.xd ((F.fl c).zip vs).reverse) = upd H1 dx (.xd ((F.fl c).zip vs).reverse) := by
        funext b
        by_cases e : b = dx
        · subst e; rw [upd_same, upd_same]
        · rw [upd_ne e, upd_ne e]
          by_cases e2 : b = a
          · subst e2; rw [del_same, na]
          · rw [del_ne e2, k3 b e2 e, upd_ne e2]
      rw [eq]
      obtain ⟨gr2, rn2⟩ := laid_rep (o := .xd ((F.fl c).zip vs).reverse) gr.sub' gr.zG rn n1
      have gr3 := gr.trans gr2
      refine out (some dx) σ z1 _ _ (.of rel gr3) ((rel.grow gr3).le le) rn2 ⟨dx, rfl, _, upd_same, fun m f x e1 e2 => ?_⟩
      obtain ⟨v, v1, v2⟩ := rp.all.get e2
      exact ⟨v, rev_lookupV nd e1 v1, v2.mono (.refl z1) gr2.sub⟩
end
end Fp
end
section
set_option Elab.async false
set_option linter.all false
set_option maxRecDepth 100000
set_option autoImplicit false
set_option maxHeartbeats 1000000
/-! try: several except clauses, with and without a name. -/
namespace Fp
open PySem PySem.Spec PyProof.Rows L2

abbrev Hl := List (Value × Option Nat × (Addr → Value → Option Addr → TS))
/-- the ends of a suite whose name goes -/
def endsAt (D : Ends) (i : Nat) : Ends := { nx := fun σ' H' => D.nx (σ'.set i none) H', rt := D.rt, bk := fun σ' H' => D.bk (σ'.set i none) H', ct := fun σ' H' => D.ct (σ'.set i none) H' }
def wMG (K : PySem.W.Frag) (Wout : WX) (D : Ends) : Hl → WX
  | [] => Wout
  | (c, o, ts) :: r => fun cls d σ H => ∃ b, PySem.W.exmOne K cls c = some b ∧ (b = true → ∀ a, H a = none → match o with
    | none => ts a cls d D σ H
    | some i => ts a cls d (endsAt D i) (σ.set i (some (.ref a))) H) ∧ (b = false → wMG K Wout D r cls d σ H)
inductive HdsG (X : Cx) : List ExceptHandler → Hl → Prop
  | nil : HdsG X [] []
  | bare {x : Str} {c : Value} {ts : Addr → Value → Option Addr → TS} {b₀ : Stmt} {suite : List Stmt} {np pos' : Pos} {hds : List ExceptHandler} {l : Hl} (hc : Names X x c)
      (hsu : ∀ (a : Addr) (oe : Obj) (cls : Value) (d : Option Addr) (pn : List (Addr × Obj)), Zc cls d oe → (∃ vs, oe.data = .fields vs) → PSs (X.suite a ((a, oe) :: pn)) (b₀ :: suite) (ts a cls d)) (r : HdsG X hds l) :
      HdsG X (.ExceptHandler (some (.Name x np)) none (b₀ :: suite) pos' :: hds) ((c, none, ts) :: l)
  | named {x n : Str} {i : Nat} {c : Value} {ts : Addr → Value → Option Addr → TS} {b₀ : Stmt} {suite : List Stmt} {np pos' : Pos} {hds : List ExceptHandler} {l : Hl} (hc : Names X x c) (hi : X.N[i]? = some n) (hln : X.env.kindOf n = some .local)
      (hsu : ∀ (a : Addr) (oe : Obj) (cls : Value) (d : Option Addr) (pn : List (Addr × Obj)), Zc cls d oe → (∃ vs, oe.data = .fields vs) → PSs (X.suite a ((a, oe) :: pn)) (b₀ :: suite) (ts a cls d)) (r : HdsG X hds l) :
      HdsG X (.ExceptHandler (some (.Name x np)) (some n) (b₀ :: suite) pos' :: hds) ((c, some i, ts) :: l)
section
variable {X : Cx} {body : List Stmt} {h₀ : ExceptHandler} {hds : List ExceptHandler} {l : Hl} {pos : Pos} {tb : WX → TS} {Wout : WX}
theorem ps_tryG (hs : X.stack = X.env :: X.outer) (hf : X.env.frame = some X.env.locals) (hN : X.N.Nodup) (tk : Takes X Wout)
    (hb : ∀ (W : WX) (pn : List (Addr × Obj)) (xe : Value → Shared → Prop), Takes (X.tr pn xe) W → PassesOwn (model X.prog X.w) X.A X.env xe → PSs (X.tr pn xe) body (tb W))
    (hh : HdsG X (h₀ :: hds) l) : PS X (.Try body (h₀ :: hds) [] [] pos) (fun D σ H => tb (wMG X.K Wout D l) D σ H) := by
  refine ⟨fun pins s σ H D I h => ?_⟩
  have ok := I.ok
  have hfr : X.A.frames = some (X.env :: X.outer) := by rw [ok.frames, hs]
  refine wpAny_Try_except ?_
  refine wpAny_mono ((hb (wMG X.K Wout D l) (X.pn ++ pins) (fun e s₁ => wpAny (model X.prog X.w) X.A (noteFrame e X.env) (fun _ s₂ => wpAny (model X.prog X.w) X.A (setFlight e none) (fun _ s₃ =>
    wpAny (model X.prog X.w) X.A (handleBy e X.env (h₀ :: hds)) (SP X pins D) X.xe s₃) X.xe s₂) X.xe s₁) (fun u s' xx => ?_) PassesOwn.looking).run [] s σ H D (I.toTry _) h) (fun f s1 hsp => ?_) (fun e s1 he => he)
  · -- the catch
    obtain ⟨a, B, sI, pins', σ', H', cls, d, rfl, J', nb, up, sky, na, os, ag, w⟩ := xx
    have J : Inv X pins σ' H' sI := J'.ofTry ok
    have sky' : Sky B (X.env :: X.outer) a (Zc cls d) X.env.locals s'.heap := by rw [← hs]; exact sky
    show wpAny (model X.prog X.w) X.A (noteFrame (.ref a) X.env) _ _ _
    refine Sky.land Zc.steady hfr hf sky' fun h3 fl3 up3 => ?_
    have J3 : Inv X pins σ' H' { s' with heap := h3 } := J.landed nb fl3.1 (up.trans up3) os ag
    obtain ⟨oe3, vs3, he3, hz3, hd3⟩ := fl3.there
    have notFr : ∀ {h : Heap} {o : Obj} {vs : Array Value}, h.FunFrames B (X.env :: X.outer) → h.get? a = some o → o.data = .fields vs → a ∉ frs (X.env :: X.outer) := fun {h o vs} ff e dd hm => by
      obtain ⟨_, o', e', hnf⟩ := ff.mem hm
      rw [e] at e'; cases e'
      exact hnf _ dd
    have nfr := notFr fl3.2.2.1 he3 hd3
    have nL : a ≠ X.env.locals := fun z => nfr (List.mem_filterMap.mpr ⟨X.env, List.mem_cons_self, by rw [hf, z]⟩)
    have nF : a ∉ X.fs := fun hm => by
      obtain ⟨e, he, q⟩ := List.mem_filterMap.mp hm
      exact nfr (List.mem_filterMap.mpr ⟨e, List.mem_cons_of_mem _ he, q⟩)
    have S3 := J3.suite he3 hd3 na nL nF
    have test : ∀ {x : Str} {c : Value} {np : Pos} {Q : Value → Shared → Prop} {E : Value → Shared → Prop}, Names X x c → Q c { s' with heap := h3 } → wpAny (model X.prog X.w) (X.A.mark (some (.ref a))) (eval (.Name x np) X.env) Q E { s' with heap := h3 } := fun {x c np Q E} hc q => by
      obtain ⟨hg, hdbg, hm | ⟨hm, hv, hnn⟩⟩ := hc
      · exact ld_glob (X := X.suite a ((a, oe3) :: (X.pn ++ pins))) S3 hg hm q hdbg
      · exact ld_blt (X := X.suite a ((a, oe3) :: (X.pn ++ pins))) S3 hg hm hv q hnn hdbg
    have LT : PySem.W.Looks (model X.prog X.w) h3 (typeOf (.ref a)) cls := fun A Q E s k q => wpAny_typeOf_ref (k _ _ he3) (by rw [hz3.1]; exact q)
    have go : ∀ {hds' : List ExceptHandler} {l' : Hl}, HdsG X hds' l' → wMG X.K Wout D l' cls d σ' H' →
        wpAny (model X.prog X.w) X.A (handleBy (.ref a) X.env hds') (SP X pins D) X.xe { s' with heap := h3 } := by
      intro hds' l' hk
      induction hk with
      | nil =>
        intro w
        refine wpAny_handleBy_nil ?_
        obtain ⟨k1, k2, k3, oe, vs, T, oT, ts', he, hz, hd, h1, hr⟩ := id fl3
        unfold PySem.passOn
        refine wpAny_bind (wpAny_field he hd h1 ?_)
        rw [if_neg (show ¬ ((Value.ref T == Value.none) = true) from by simp)]
        have fin : wpAny (model X.prog X.w) X.A (setFlight (.ref a) X.env.frame) (fun _ s4 => wpAny (model X.prog X.w) X.A (throw (.ref a) : Sem Flow) (SP X pins D) X.xe s4) X.xe { s' with heap := h3 } := by
          rw [hf]
          refine HandSPX.setFlight_upZ fl3 fun h4 hh4 up4 => wpAny_throw (tk _ _ ?_)
          exact ⟨a, B, sI, pins, σ', H', cls, d, rfl, J, nb, (up.trans up3).trans up4, .inr (.inr (by rw [hs]; exact hh4)), na, os, ag, w⟩
        first
          | exact wpAny_bind (wpAny_pure (wpAny_bind fin))
          | exact wpAny_bind fin
      | @bare x c ts b₀ suite np pos' hds2 l2 hc hsu r ih =>
        intro w
        obtain ⟨b, hb1, hyes, hno⟩ := w
        refine wpAny_handleBy_cons (codeAny_handlers_test ?_) (by intro q; cases q)
        have LM := PySem.W.exm_one (M := model X.prog X.w) (J3.kIn) LT hb1
        refine test hc (LM.here ?_)
        cases b with
        | true =>
          refine codeAny_handlers_suite ?_
          refine HandSPX.lands_againZ fl3 fun h4 fl4 up4 => ?_
          have J4 : Inv X pins σ' H' { s' with heap := h4 } := J.landed nb fl4.1 ((up.trans up3).trans up4) os ag
          obtain ⟨oe4, vs4, he4, hz4, hd4⟩ := fl4.there
          have S4 := J4.suite he4 hd4 na nL nF
          refine wpAny_mono ((hsu a oe4 cls d (X.pn ++ pins) hz4 ⟨_, hd4⟩).run [] _ _ H' _ S4 (hyes rfl a na)) (fun f s6 hsp => ?_) (fun _ _ z => False.elim z)
          cases f with
          | next =>
            obtain ⟨σ6, H6, S6, q6⟩ := hsp
            exact ⟨_, _, S6.unsuite ok, q6⟩
          | brk =>
            obtain ⟨σ6, H6, S6, q6⟩ := hsp
            exact ⟨_, _, S6.unsuite ok, q6⟩
          | cont =>
            obtain ⟨σ6, H6, S6, q6⟩ := hsp
            exact ⟨_, _, S6.unsuite ok, q6⟩
          | ret u =>
            obtain ⟨v6, σ6, H6, S6, r6, q6⟩ := hsp
            exact ⟨_, _, _, S6.unsuite ok, r6, q6⟩
        | false =>
          show wpAny _ X.A (handleBy (.ref a) X.env hds2) _ _ _
          exact ih (hno rfl)
      | @named x n i c ts b₀ suite np pos' hds2 l2 hc hi hln hsu r ih =>
        intro w
        obtain ⟨b, hb1, hyes, hno⟩ := w
        have hloc : Loc X.env.scope n := .inl hln
        refine wpAny_handleBy_cons (codeAny_handlers_test ?_) (by intro q; cases q)
        have LM := PySem.W.exm_one (M := model X.prog X.w) (J3.kIn) LT hb1
        refine test hc (LM.here ?_)
        cases b with
        | true =>
          refine codeAny_handlers_suite_as ?_
          refine HandSPX.lands_againZ fl3 fun h4 fl4 up4 => ?_
          have J4 : Inv X pins σ' H' { s' with heap := h4 } := J.landed nb fl4.1 ((up.trans up3).trans up4) os ag
          obtain ⟨oe4, vs4, he4, hz4, hd4⟩ := fl4.there
          have S4 := J4.suite he4 hd4 na nL nF
          refine store_ok (X := X.suite a ((a, oe4) :: (X.pn ++ pins))) (v := .ref a) S4 hN hi hloc rfl (fun s5 S5 => ?_) (.inr hln)
          refine wpAny_mono ((hsu a oe4 cls d (X.pn ++ pins) hz4 ⟨_, hd4⟩).run [] s5 _ H' _ S5 (hyes rfl a na)) (fun f s6 hsp => ?_) (fun _ _ z => False.elim z)
          have end_ : ∀ {σ6 : L2.St} {H6 : Hp} {Q : Shared → Prop}, Inv (X.suite a ((a, oe4) :: (X.pn ++ pins))) [] σ6 H6 s6 → (∀ s7, Inv X pins (σ6.set i none) H6 s7 → Q s7) →
              wpAny (model X.prog X.w) X.A (do bindName X.env n .none; unbindBehindTheSuite X.env n pos') (fun _ s7 => Q s7) X.xe s6 := fun {σ6 H6 Q} S6 hq => gone_ok (S6.unsuite ok) hN hi hln hq
          cases f with
          | next =>
            obtain ⟨σ6, H6, S6, q6⟩ := hsp
            exact end_ S6 fun s7 J7 => ⟨_, _, J7, q6⟩
          | brk =>
            obtain ⟨σ6, H6, S6, q6⟩ := hsp
            exact end_ S6 fun s7 J7 => ⟨_, _, J7, q6⟩
          | cont =>
            obtain ⟨σ6, H6, S6, q6⟩ := hsp
            exact end_ S6 fun s7 J7 => ⟨_, _, J7, q6⟩
          | ret u =>
            obtain ⟨v6, σ6, H6, S6, r6, q6⟩ := hsp
            exact end_ S6 fun s7 J7 => ⟨_, _, _, J7, r6, q6⟩
        | false =>
          show wpAny _ X.A (handleBy (.ref a) X.env hds2) _ _ _
          exact ih (hno rfl)
    exact go hh w
  · cases f with
    | next =>
      obtain ⟨σ', H', J', q⟩ := hsp
      exact wpAny_execs_nil ⟨σ', H', J'.ofTry ok, q⟩
    | brk =>
      obtain ⟨σ', H', J', q⟩ := hsp
      exact ⟨σ', H', J'.ofTry ok, q⟩
    | cont =>
      obtain ⟨σ', H', J', q⟩ := hsp
      exact ⟨σ', H', J'.ofTry ok, q⟩
    | ret u =>
      obtain ⟨v, σ', H', J', r, q⟩ := hsp
      exact ⟨v, σ', H', J'.ofTry ok, r, q⟩
end

/-! ### slots of a suite -/
section
variable {F : Fx} {Pt Pt' : Prv} {z z' : List Addr} {ρ : List Sl} {σ : L2.St} {G H G' H' : Hp}
theorem noXc_get : ∀ {ρ : List Sl}, noXc ρ = true → ∀ (i c : Nat) (fs : List D), ρ[i]? ≠ some (.xc c fs)
  | [], _, i, c, fs => by simp
  | s :: r, h, 0, c, fs => by
    intro e
    simp at e
    subst e
    simp [noXc] at h
  | s :: r, h, i + 1, c, fs => by
    have : noXc r = true := by cases s <;> simp [noXc] at h ⊢ <;> exact h
    simpa using noXc_get this i c fs
/-- no error is kept: others may be handled -/
theorem Rel.re (r : Rel F Pt z ρ σ G H) (h : noXc ρ = true) (e : Pt'.own = Pt.own) : Rel F Pt' z ρ σ G H :=
  ⟨r.sub, r.zG, r.len, r.sh, fun i d q => by rw [e]; exact r.ow i d q, r.inj, fun a p => r.pt a (by rw [← e]; exact p), fun i c fs q => absurd q (noXc_get h i c fs)⟩
theorem GrowS.re (g : GrowS Pt z G H z' G' H') (e : Pt'.own = Pt.own) : GrowS Pt' z G H z' G' H' :=
  ⟨g.zl, fun a o p => g.same a o (by rw [← e]; exact p), g.sub', g.sub, fun a h => by rw [e]; exact g.new a h, g.zG, fun q c m => by rw [e]; exact g.zn q c m⟩
/-- a slot gets the error -/
theorem Rel.setXc (r : Rel F Pt z ρ σ G H) {i c : Nat} {fs : List D} {a d : Addr} (hp : Pt.xp a c d) (hx : XfAt F z G c fs d) : Rel F Pt z (ρ.set i (.xc c fs)) (σ.set i (some (.ref a))) G H where
  sub := r.sub
  zG := r.zG
  len := by rw [List.length_set, List.length_set]; exact r.len
  sh := fun j e hj => by
    rw [getSet] at hj ⊢
    rw [← r.len]
    by_cases q : i = j ∧ i < ρ.length
    · rw [if_pos q] at hj; cases hj
    · rw [if_neg q] at hj ⊢
      exact r.sh j e hj
  ow := fun j e hj => by
    rw [getSet] at hj ⊢
    rw [← r.len]
    by_cases q : i = j ∧ i < ρ.length
    · rw [if_pos q] at hj; cases hj
    · rw [if_neg q] at hj ⊢
      exact r.ow j e hj
  inj := fun j k e f b h1 h2 h3 h4 => by
    rw [getSet] at h1 h2 h3 h4
    rw [← r.len] at h3 h4
    by_cases c1 : i = j ∧ i < ρ.length
    · rw [if_pos c1] at h1; cases h1
    · by_cases c2 : i = k ∧ i < ρ.length
      · rw [if_pos c2] at h2; cases h2
      · rw [if_neg c1] at h1 h3
        rw [if_neg c2] at h2 h4
        exact r.inj j k e f b h1 h2 h3 h4
  pt := r.pt
  xc := fun j c' fs' hj => by
    rw [getSet] at hj ⊢
    rw [← r.len]
    by_cases q : i = j ∧ i < ρ.length
    · rw [if_pos q] at hj ⊢
      cases hj
      exact ⟨a, d, rfl, hp, hx⟩
    · rw [if_neg q] at hj ⊢
      exact r.xc j c' fs' hj
end
end Fp
end
section
set_option Elab.async false
set_option linter.all false
set_option maxRecDepth 100000
set_option autoImplicit false
set_option maxHeartbeats 1000000
/-! Except suites; try. -/
namespace Fp
open PySem PySem.Spec PyProof.Rows L2

/-- what is known of the classes -/
structure XOk (F : Fx) (M : Gn) : Prop where
  nc : F.T.sup.length = M.cls.length
  exm : ∀ c h, c < M.cls.length → h < M.cls.length → PySem.W.exmOne F.K (.ref (F.ca c)) (.ref (F.ca h)) = some (F.T.under 8 c h)
  flds : ∀ c, c < M.cls.length → F.T.flds[c]? = some ((F.fl c).map keyOf)
  xfc : ∀ c, c < M.cls.length → XfC F.K (F.ca c) ∧ ∀ f ∈ F.fl c, PySem.W.findIn F.K (.ref (F.ca c)) f = some none
  err : ∀ c, c < M.cls.length → F.fl c ≠ [] → ErrOk F c
/-- a context without room: an except suite's -/
structure Ctx0 (F : Fx) (X : Cx) : Prop where
  K : X.K = F.K
  mg : X.mg = F.mg
  nd : X.N.Nodup
/-- the field f -/
def attW (fl : Nat → List Str) (nc : Nat) (L : Lc) (i : Nat) (x : Str) (j : Nat) (f : Str) : Bool := nameOk L i x && (List.range nc).all fun c => match posN j 0 ((fl c).map keyOf) with
  | some m => decide ((fl c)[m]? = some f)
  | none => true
mutual
def suEW (M : Gn) (fl : Nat → List Str) (L : Lc) : Xp → Bool
  | .c k _ _ => (cOf k).isSome
  | .v i x _ => nameOk L i x
  | .gc j x _ => decide (M.cons[j]? = some x) && glB L.sc x
  | .att i x j f _ _ => attW fl M.cls.length L i x j f
  | .tup es _ _ => suEsW M fl L es
  | _ => false
def suEsW (M : Gn) (fl : Nat → List Str) (L : Lc) : List Xp → Bool
  | [] => true
  | e :: es => suEW M fl L e && suEsW M fl L es
end
def suSW (M : Gn) (fl : Nat → List Str) (L : Lc) : Sm → Bool
  | .ret e _ => suEW M fl L e
  | .retN _ => true
  | .asg m i x e _ _ => !m && (nmW L i x && suEW M fl L e)
  | .pas _ => true
  | _ => false
section
variable {F : Fx} {X : Cx} {L : Lc} {M : Gn} {ρ ρx : List Sl} {own : Addr → Prop} {a dd : Addr} {oe : Obj} {c0 : Nat} {pn : List (Addr × Obj)}
/-- the error at a is handled -/
def prX (own : Addr → Prop) (a : Addr) (c : Nat) (dd : Addr) : Prv := ⟨own, fun a' c' d' => a' = a ∧ c' = c ∧ d' = dd⟩
theorem PE.no {e : Expr} {Pt : Prv} {c : Bool} {f : Gs → Rs D} {W : WX} (h : ∀ g, f g = .no) : PE X e (tX F Pt ρ c f W) := ⟨fun pins s σ H Q I hw => by
  obtain ⟨z, G, g, rel, rng, out⟩ := hw
  rw [h] at out
  exact out.elim⟩
theorem PSs.no {ss : List Stmt} {Pt : Prv} {f : Gs → Rs Flw} {W : WX} (h : ∀ g, f g = .no) : PSs X ss (tS F Pt ρ ρx f W) := ⟨fun pins s σ H D I hw => by
  obtain ⟨z, G, g, rel, rng, out⟩ := hw
  rw [h] at out
  exact out.elim⟩
theorem suE_star {es : List Xp} {e : Xp} (h : suEW M F.fl L e = true) : isStar e = false := by cases e <;> first | rfl | simp [suEW] at h
theorem suEs_all {fl : Nat → List Str} : ∀ {es : List Xp}, suEsW M fl L es = true → ∀ e ∈ es, suEW M fl L e = true
  | [], _, e, he => by cases he
  | x :: xs, hw, e, he => by
    obtain ⟨w1, w2⟩ := and2 (show (suEW M fl L x && suEsW M fl L xs) = true by simpa [suEsW] using hw)
    rcases List.mem_cons.mp he with rfl | he
    · exact w1
    · exact suEs_all w2 e he
/-- a list of such expressions -/
theorem su_L {r : Ev} {Pt : Prv} {W : WX} : ∀ {es : List Xp}, suEsW M F.fl L es = true → (∀ e ∈ es, PE X e.un (tX F Pt ρ true (fun g => r.e ρ g e) W)) → PA X (Xp.uns es) (tL F Pt ρ true (fun g => evL r ρ g es) W)
  | [], _, _ => by
    refine PA.imp pa_nil ?_
    rintro σ H Q ⟨z, G, g, rel, rng, out⟩
    exact out [] z G H (.refl rel.sub rel.zG) rng .nil
  | e :: es, hw, h => by
    obtain ⟨w1, w2⟩ := and2 (show (suEW M F.fl L e && suEsW M F.fl L es) = true by simpa [suEsW] using hw)
    have ih := su_L w2 fun x hx => h x (List.mem_cons_of_mem _ hx)
    have hst := suE_star (es := es) w1
    have ev1 : ∀ g, evL r ρ g (e :: es) = (r.e ρ g e).bind fun d g => (evL r ρ g es).bind fun ds g => .ok (d :: ds) g := fun g => by
      cases e <;> first | rfl | simp [isStar] at hst
    have eus : Xp.uns (e :: es) = e.un :: Xp.uns es := by simp only [Xp.uns]
    have eu := star_cons hst es X.env
    rw [eus] at eu ⊢
    refine PA.imp (pa_cons (h e (by simp)) ih eu) ?_
    rintro σ H Q ⟨z, G, g, rel, rng, out⟩
    refine ⟨z, G, g, rel, rng, ?_⟩
    rw [show (fun g => evL r ρ g (e :: es)) g = evL r ρ g (e :: es) from rfl, ev1] at out
    dsimp only
    cases q : r.e ρ g e with
    | no => rw [q] at out; exact out
    | ex cl fs g' => rw [q] at out; exact out
    | ok d g1 =>
      rw [q] at out
      intro v z1 G1 H1 gr rn rp
      have out := out.grow gr
      simp only [Rs.bind] at out
      refine ⟨z1, G1, g1, rel.grow gr, rn, ?_⟩
      dsimp only
      cases q2 : evL r ρ g1 es with
      | no => rw [q2] at out; exact out
      | ex cl fs g' => rw [q2] at out; exact out
      | ok ds g2 =>
        rw [q2] at out
        intro ws z2 G2 H2 gr2 rn2 rp2
        exact out (v :: ws) z2 G2 H2 gr2 rn2 (.cons (rp.grow gr2) rp2)
theorem su_e (GO : GnOk F M) (XO : XOk F M) (C : Ctx0 F X) (O : LcOk L (X.suite a ((a, oe) :: pn))) (hz : Zc (.ref (F.ca c0)) (some dd) oe) (hf : ∃ vs, oe.data = .fields vs) (hc : c0 < M.cls.length) :
    ∀ (n : Nat) (e : Xp) (c : Bool), suEW M F.fl L e = true → PE (X.suite a ((a, oe) :: pn)) e.un (tX F (prX own a c0 dd) ρ c (fun g => (ev F.T n).e ρ g e) W0)
  | 0, e, c, _ => PE.no fun _ => rfl
  | n + 1, .c kc j p, c, hw => snd_c (r := ev F.T n) (by simpa [suEW] using hw)
  | n + 1, .v i x p, c, hw => snd_v (r := ev F.T n) O (by simpa [suEW] using hw)
  | n + 1, .gc j x p, c, hw => by
    obtain ⟨h1, h2⟩ := and2 (show (decide (M.cons[j]? = some x) && glB L.sc x) = true by simpa [suEW] using hw)
    have h1 := of_decide_eq_true h1
    rw [← O.sc] at h2
    obtain ⟨g1, g2⟩ := glB_ok h2
    cases e : F.T.cons[j]? with
    | none => exact PE.no fun g => by show stepE F.T (ev F.T n) ρ g (.gc j x p) = .no; simp only [stepE, e, Rs.of]
    | some d =>
      obtain ⟨v, u, hm, rv, rp, _⟩ := GO.cons j x d h1 e
      refine PE.imp (pe_glob g1 (by show X.mg x = _; rw [C.mg]; exact hm) rv g2) ?_
      rintro σ H Q ⟨z, G, g, rel, rng, out⟩
      have out : Out F c z G H (stepE F.T (ev F.T n) ρ g (.gc j x p)) Q _ := out
      simp only [stepE, e] at out
      exact out v z G H (.refl rel.sub rel.zG) rng (.of (rp z G))
  | n + 1, .tup es k p, c, hw => by
    have hw : suEsW M F.fl L es = true := by simpa [suEW] using hw
    have all := suEs_all hw
    have eu : (Xp.tup es k p).un = .Tuple (Xp.uns es) k p := by simp only [Xp.un]
    rw [eu]
    refine PE.imp (pe_tup (su_L (r := ev F.T n) hw fun e he => su_e GO XO C O hz hf hc n e true (all e he))) ?_
    rintro σ H Q ⟨z, G, g, rel, rng, out⟩
    have out : Out F c z G H ((evL (ev F.T n) ρ g es).bind fun ds g => (match fits ds.length with | true => .ok (.tup ds) g | false => .no)) Q _ := out
    refine ⟨z, G, g, rel, rng, outL_bind out ?_⟩
    intro ds g1 vs z1 G1 H1 gr rn rp out
    cases t : fits ds.length with
    | false => rw [t] at out; exact out.elim
    | true =>
      rw [t] at out
      exact ⟨by rw [rp.len]; exact fits_size t, fun a n => new_tup gr.sub' gr.zG rn n rp.all fun v G' H' g' r' rp' => out v z1 G' H' g' r' (.of rp')⟩
  | n + 1, .att i x j f q p, c, hw => by
    obtain ⟨w1, w2⟩ := and2 (show attW F.fl M.cls.length L i x j f = true by simpa [suEW] using hw)
    obtain ⟨T, hno⟩ := XO.xfc c0 hc
    have eu : (Xp.att i x j f q p).un = .Attribute (.Name x q) f p := by simp only [Xp.un]
    rw [eu]
    have w2 := List.all_eq_true.mp w2 c0 (by simpa using hc)
    cases hm : posN j 0 ((F.fl c0).map keyOf) with
    | none =>
      refine ⟨fun pins s σ H Q I hh => ?_⟩
      obtain ⟨z, G, g, rel, rng, out⟩ := hh
      have out : Out F c z G H (stepE F.T (ev F.T n) ρ g (.att i x j f q p)) Q _ := out
      simp only [stepE] at out
      split at out
      · rename_i c fs hρ
        obtain ⟨a', d', k1, ⟨_, rfl, _⟩, k3⟩ := rel.xc i c fs hρ
        rw [XO.flds c hc] at out
        simp only [hm] at out
        exact out.elim
      · exact out.elim
    | some m =>
      rw [hm] at w2
      have w2 := of_decide_eq_true w2
      have hno := hno f (List.mem_of_getElem? w2)
      refine PE.imp (pe_xf (X := X) (C := F.ca c0) (by rw [C.K]; exact T) (by rw [C.K]; exact hno) hz hf (var_of O w1 q) rfl) ?_
      rintro σ H Q ⟨z, G, g, rel, rng, out⟩
      have out : Out F c z G H (stepE F.T (ev F.T n) ρ g (.att i x j f q p)) Q _ := out
      simp only [stepE] at out
      split at out
      · rename_i c fs hρ
        obtain ⟨a', d', k1, ⟨rfl, rfl, rfl⟩, xs, k3, k4⟩ := rel.xc i c fs hρ
        rw [XO.flds c hc] at out
        simp only [hm] at out
        obtain ⟨d, hd, qq⟩ := out_of out
        obtain ⟨v, v1, v2⟩ := k4 m f d w2 hd
        exact ⟨.ref a', k1, rfl, rfl, d', xs, v, rfl, rel.sub _ _ k3, v1, qq v z G H (.refl rel.sub rel.zG) rng (.of v2)⟩
      · exact out.elim
  | n + 1, .pk .., _, hw => by simp [suEW] at hw
  | n + 1, .gf .., _, hw => by simp [suEW] at hw
  | n + 1, .lst .., _, hw => by simp [suEW] at hw
  | n + 1, .star .., _, hw => by simp [suEW] at hw
  | n + 1, .dis .., _, hw => by simp [suEW] at hw
  | n + 1, .bin .., _, hw => by simp [suEW] at hw
  | n + 1, .neg .., _, hw => by simp [suEW] at hw
  | n + 1, .not .., _, hw => by simp [suEW] at hw
  | n + 1, .and .., _, hw => by simp [suEW] at hw
  | n + 1, .or .., _, hw => by simp [suEW] at hw
  | n + 1, .cmp .., _, hw => by simp [suEW] at hw
  | n + 1, .chain .., _, hw => by simp [suEW] at hw
  | n + 1, .ife .., _, hw => by simp [suEW] at hw
  | n + 1, .sub .., _, hw => by simp [suEW] at hw
  | n + 1, .slc .., _, hw => by simp [suEW] at hw
  | n + 1, .call .., _, hw => by simp [suEW] at hw
  | n + 1, .callV .., _, hw => by simp [suEW] at hw
  | n + 1, .bi .., _, hw => by simp [suEW] at hw
  | n + 1, .lrng .., _, hw => by simp [suEW] at hw
  | n + 1, .isi .., _, hw => by simp [suEW] at hw
  | n + 1, .meth .., _, hw => by simp [suEW] at hw
  | n + 1, .lc .., _, hw => by simp [suEW] at hw
  | n + 1, .dc .., _, hw => by simp [suEW] at hw
theorem su_s (GO : GnOk F M) (XO : XOk F M) (C : Ctx0 F X) (O : LcOk L (X.suite a ((a, oe) :: pn))) (hz : Zc (.ref (F.ca c0)) (some dd) oe) (hf : ∃ vs, oe.data = .fields vs) (hc : c0 < M.cls.length) (n : Nat) {s : Sm} (hw : suSW M F.fl L s = true) (le : LeS ρx ρ) :
    PS (X.suite a ((a, oe) :: pn)) s.un (tS F (prX own a c0 dd) ρ ρx (fun g => stepS F.T (ev F.T n) ρ g s) W0) := by
  cases s with
  | ret e p => exact snd_ret (su_e GO XO C O hz hf hc n e true hw) le
  | retN p => exact snd_retN
  | pas p => exact snd_pas
  | asg m i x e q p =>
    obtain ⟨h0, hw⟩ := and2 hw
    obtain ⟨h1, h2⟩ := and2 hw
    have hm := not_of h0
    subst hm
    obtain ⟨h1, h3⟩ := and2 h1
    obtain ⟨l1, l2⟩ := locB_ok O h3
    have eu : (Sm.asg false i x e q p).un = .Assign [.Name x q] e.un p := by simp only [Sm.un]
    rw [eu]
    have hcm : isComp e = false := by cases e <;> first | rfl | simp [suEW] at h2
    refine PS.imp (ps_set (i := i) C.nd (by rw [O.N]; exact of_decide_eq_true h1) l1 (su_e (own := own) (ρ := ρ) GO XO C O hz hf hc n e true h2) (sw_plain hcm _ _ _) l2) ?_
    rintro D σ H ⟨z, G, g, rel, rng, out⟩
    refine ⟨z, G, g, rel, rng, outS_bind out rel le ?_⟩
    intro d g1 v z1 G1 H1 gr rn rp rel1 out
    exact out _ z1 G1 H1 (.refl rel1) (rel1.setSh rp) rn
  | _ => simp [suSW] at hw
theorem su_ss (GO : GnOk F M) (XO : XOk F M) (C : Ctx0 F X) (O : LcOk L (X.suite a ((a, oe) :: pn))) (hz : Zc (.ref (F.ca c0)) (some dd) oe) (hf : ∃ vs, oe.data = .fields vs) (hc : c0 < M.cls.length) (n : Nat) : ∀ {ss : List Sm} {ρ : List Sl}, ss.all (suSW M F.fl L) = true → LeS ρx (wipeN ρ (Sm.asgds ss)) →
    PSs (X.suite a ((a, oe) :: pn)) (Sm.uns ss) (tS F (prX own a c0 dd) ρ ρx (fun g => stepSs F.T (ev F.T n) ρ g ss) W0)
  | [], ρ, _, _ => snd_nil
  | s :: ss, ρ, hw, le => by
    rw [List.all_cons] at hw
    obtain ⟨h1, h2⟩ := and2 hw
    refine snd_cons (keeps_ev F.T n) (by cases s <;> first | rfl | simp [suSW] at h1) (su_s GO XO C O hz hf hc n h1 le.le) (fun ρ' le' => su_ss GO XO C O hz hf hc n h2 le') le
end
end Fp
end
section
set_option Elab.async false
set_option linter.all false
set_option maxRecDepth 100000
set_option autoImplicit false
set_option maxHeartbeats 1000000
/-! try. -/
namespace Fp
open PySem PySem.Spec PyProof.Rows L2

/-- the context of a block -/
structure BCtx (F : Fx) (k : Nat) (L : Lc) (X : Cx) (W : WX) : Prop where
  C : Ctx F k X
  O : LcOk L X
  tk : Takes X W
  po : PassesOwn (model X.prog X.w) X.A X.env X.xe
  hs : X.stack = X.env :: X.outer
  hf : X.env.frame = some X.env.locals
theorem BCtx.tr {F : Fx} {k : Nat} {L : Lc} {X : Cx} {W W' : WX} {pn : List (Addr × Obj)} {xe : Value → Shared → Prop} (B : BCtx F k L X W) (tk : Takes (X.tr pn xe) W') (po : PassesOwn (model X.prog X.w) X.A X.env xe) : BCtx F k L (X.tr pn xe) W' :=
  ⟨⟨B.C.prog, B.C.w, B.C.K, B.C.mg, B.C.base, B.C.nd, B.C.room⟩, ⟨B.O.N, B.O.sc, B.O.fn, B.O.calm⟩, tk, po, B.hs, B.hf⟩
theorem BCtx.nox {F : Fx} {k : Nat} {L : Lc} {X : Cx} {W : WX} (B : BCtx F k L X W) : BCtx F k L X.nox W0 :=
  ⟨⟨B.C.prog, B.C.w, B.C.K, B.C.mg, B.C.base, B.C.nd, B.C.room⟩, ⟨B.O.N, B.O.sc, B.O.fn, B.O.calm⟩, takes_none5, PassesOwn.never, B.hs, B.hf⟩
def offL (L : Lc) : Lc := ⟨L.N, L.sc, L.fn, false⟩
def hdW (M : Gn) (fl : Nat → List Str) (L : Lc) : Hd → Bool
  | .mk [(h, x, _)] none n (b :: bs) _ => decide (M.cls[h]? = some x) && (glB L.sc x && ((match n with | none => true | some (i, y) => decide (L.N[i]? = some y) && lcl L y) && (b :: bs).all (suSW M fl (offL L))))
  | _ => false
/-- a suite's reading -/
def tSu (F : Fx) (nc n : Nat) (own : Addr → Prop) (b : List Sm) : Addr → Value → Option Addr → TS := fun a cls d D σ H =>
  ∃ c0 dd ρ1, c0 < nc ∧ cls = .ref (F.ca c0) ∧ d = some dd ∧ tS F (prX own a c0 dd) ρ1 (wipeN ρ1 (Sm.asgds b)) (fun g => (ev F.T n).ss ρ1 g b) W0 D σ H
def hlOf (F : Fx) (nc n : Nat) (own : Addr → Prop) : List Hd → Hl
  | .mk ((h, _, _) :: _) _ nm b _ :: hs => (.ref (F.ca h), nm.map (·.1), tSu F nc n own b) :: hlOf F nc n own hs
  | _ => []
section
variable {F : Fx} {n k : Nat} {X : Cx} {W : WX} {L : Lc} {Pt : Prv} {ρ ρx : List Sl} {M : Gn}
theorem su_all (GO : GnOk F M) (XO : XOk F M) (B : BCtx F k L X W) {b : List Sm} (hw : b.all (suSW M F.fl (offL L)) = true) : ∀ (a : Addr) (oe : Obj) (cls : Value) (d : Option Addr) (pn : List (Addr × Obj)), Zc cls d oe → (∃ vs, oe.data = .fields vs) →
    PSs (X.suite a ((a, oe) :: pn)) (Sm.uns b) (tSu F M.cls.length n Pt.own b a cls d) := by
  intro a oe cls d pn hz hf
  refine ⟨fun pins s σ H D I hh => ?_⟩
  obtain ⟨c0, dd, ρ1, hc, rfl, rfl, hh⟩ := hh
  have O' : LcOk (offL L) (X.suite a ((a, oe) :: pn)) := ⟨B.O.N, B.O.sc, B.O.fn, rfl⟩
  cases n with
  | zero =>
    obtain ⟨z, G, g, rel, rng, out⟩ := hh
    exact out.elim
  | succ n => exact (su_ss (own := Pt.own) GO XO ⟨B.C.K, B.C.mg, B.C.nd⟩ O' hz hf hc n hw (.refl _)).run pins s σ H D I hh
theorem hdsG_of (GO : GnOk F M) (XO : XOk F M) (B : BCtx F k L X W) : ∀ {hs : List Hd}, hs.all (hdW M F.fl L) = true → HdsG X (Hd.uns hs) (hlOf F M.cls.length n Pt.own hs)
  | [], _ => .nil
  | h :: hs, hw => by
    rw [List.all_cons] at hw
    obtain ⟨h1, h2⟩ := and2 hw
    have ih := hdsG_of GO XO B h2
    match h, h1 with
    | .mk [(h, x, np)] none nm (b :: bs) p', h1 =>
      obtain ⟨w1, h1⟩ := and2 h1
      obtain ⟨w2, h1⟩ := and2 h1
      obtain ⟨w3, w4⟩ := and2 h1
      rw [← B.O.sc] at w2
      obtain ⟨g1, g2⟩ := glB_ok w2
      have nms : Names X x (.ref (F.ca h)) := ⟨g1, g2, .inl (by rw [B.C.mg]; exact GO.cls h x (of_decide_eq_true w1))⟩
      have su := su_all (n := n) (Pt := Pt) GO XO B w4
      have nf : isFrz b = false := by
        rw [List.all_cons] at w4
        have := (and2 w4).1
        cases b <;> first | rfl | simp [suSW] at this
      have eb : Sm.uns (b :: bs) = b.un :: Sm.uns bs := by
        cases b <;> first
          | (simp [isFrz] at nf; done)
          | (simp only [Sm.uns])
      rw [eb] at su
      cases nm with
      | none =>
        have eu : Hd.uns (.mk [(h, x, np)] none none (b :: bs) p' :: hs) = .ExceptHandler (some (.Name x np)) none (b.un :: Sm.uns bs) p' :: Hd.uns hs := by simp only [Hd.uns, Hd.un, clUn1, nmUn, eb]
        rw [eu]
        exact .bare nms su ih
      | some iy =>
        obtain ⟨i, y⟩ := iy
        obtain ⟨v1, v2⟩ := and2 w3
        have eu : Hd.uns (.mk [(h, x, np)] none (some (i, y)) (b :: bs) p' :: hs) = .ExceptHandler (some (.Name x np)) (some y) (b.un :: Sm.uns bs) p' :: Hd.uns hs := by simp only [Hd.uns, Hd.un, clUn1, nmUn, eb]
        rw [eu]
        exact .named nms (by rw [B.O.N]; exact of_decide_eq_true v1) (by show X.env.scope.names.lookup y = _; rw [B.O.sc]; exact of_decide_eq_true v2) su ih
theorem handle_ok (XO : XOk F M) (B : BCtx F k L X W) {D : Ends} {c : Nat} {fs : List Fp.D} {g : Gs} {z : List Addr} {G H : Hp} {σ : L2.St} {dd : Addr} (hc : c < M.cls.length) (rel : Rel F Pt z ρ σ G H) (rng : RngAt F z g H) (xf : XfAt F z G c fs dd) (le : LeS ρx ρ) :
    ∀ {hs : List Hd}, hs.all (hdW M F.fl L) = true → OutS F Pt ρx z G H (handle F.T (ev F.T n) ρ g c fs hs) D W → wMG X.K W D (hlOf F M.cls.length n Pt.own hs) (.ref (F.ca c)) (some dd) σ H
  | [], _, out => out (some dd) σ z G H (.refl rel) (rel.le le) rng ⟨dd, rfl, xf⟩
  | h :: hs, hw, out => by
    rw [List.all_cons] at hw
    obtain ⟨h1, h2⟩ := and2 hw
    match h, h1 with
    | .mk [(h, x, np)] none nm (b :: bs) p', h1 =>
      obtain ⟨w1, h1⟩ := and2 h1
      have hh : h < M.cls.length := (List.getElem?_eq_some_iff.mp (of_decide_eq_true w1)).1
      rw [handle] at out
      have ea : ([(h, x, np)].any fun h => F.T.under 8 c h.1) = F.T.under 8 c h := by simp
      rw [ea] at out
      refine ⟨F.T.under 8 c h, by rw [B.C.K]; exact XO.exm c h hc hh, fun e a na => ?_, fun e => ?_⟩
      · rw [e] at out
        simp only at out
        cases nx : noXc ρ with
        | false => rw [nx] at out; exact out.elim
        | true =>
          rw [nx] at out
          simp only at out
          cases nm with
          | none =>
            refine ⟨c, dd, ρ, hc, rfl, rfl, z, G, g, rel.re nx rfl, rng, ?_⟩
            dsimp only [suIn] at out ⊢
            cases q : (ev F.T n).ss ρ g (b :: bs) with
            | no => rw [q] at out; exact out.elim
            | ex c' fs' g' => rw [q] at out; exact out.elim
            | ok f g2 =>
              rw [q] at out
              cases f with
              | next ρ2 =>
                simp only [suEnd] at out
                cases nx2 : noXc ρ2 with
                | false => rw [nx2] at out; exact out.elim
                | true =>
                  rw [nx2] at out
                  exact fun σ2 z2 G2 H2 gr rel2 rn2 => out σ2 z2 G2 H2 (gr.re rfl) (rel2.re nx2 rfl) rn2
              | brk ρ2 => exact out.elim
              | cnt ρ2 => exact out.elim
              | ret d => exact fun v z2 G2 H2 gr => out v z2 G2 H2 (gr.re rfl)
          | some iy =>
            obtain ⟨i, y⟩ := iy
            refine ⟨c, dd, ρ.set i (.xc c fs), hc, rfl, rfl, z, G, g, (rel.re (Pt' := prX Pt.own a c dd) nx rfl).setXc ⟨rfl, rfl, rfl⟩ xf, rng, ?_⟩
            dsimp only [suIn] at out ⊢
            cases q : (ev F.T n).ss (ρ.set i (.xc c fs)) g (b :: bs) with
            | no => rw [q] at out; exact out.elim
            | ex c' fs' g' => rw [q] at out; exact out.elim
            | ok f g2 =>
              rw [q] at out
              cases f with
              | next ρ2 =>
                simp only [suEnd] at out
                cases nx2 : noXc (ρ2.set i .un) with
                | false => rw [nx2] at out; exact out.elim
                | true =>
                  rw [nx2] at out
                  exact fun σ2 z2 G2 H2 gr rel2 rn2 => out (σ2.set i none) z2 G2 H2 (gr.re rfl) ((rel2.setUn i).re nx2 rfl) rn2
              | brk ρ2 => exact out.elim
              | cnt ρ2 => exact out.elim
              | ret d => exact fun v z2 G2 H2 gr => out v z2 G2 H2 (gr.re rfl)
      · rw [e] at out
        exact handle_ok XO B hc rel rng xf le h2 out
def tryW (M : Gn) (fl : Nat → List Str) (L : Lc) (kk : Bool) (hs : List Hd) : Bool := !hs.isEmpty && (!kk || hs.all (hdW M fl L))
theorem snd_try (GO : GnOk F M) (XO : XOk F M) (B : BCtx F k L X W) {kk : Bool} {b : List Sm} {hs : List Hd} {p : Pos} (hw : tryW M F.fl L kk hs = true) (hb : ∀ X' W', BCtx F k L X' W' → BlkS F X' Pt (ev F.T n) W' b) (le : LeS ρx (wipeN ρ (Sm.asgds b ++ Hd.asgds hs))) :
    PS X (Sm.try kk b hs p).un (tS F Pt ρ ρx (fun g => stepS F.T (ev F.T n) ρ g (.try kk b hs p)) W) := by
  obtain ⟨h1, h2⟩ := and2 hw
  obtain ⟨h0, hs', rfl⟩ : ∃ h0 hs', hs = h0 :: hs' := by
    cases hs with
    | nil => simp at h1
    | cons h0 hs' => exact ⟨h0, hs', rfl⟩
  have eu : (Sm.try kk b (h0 :: hs') p).un = .Try (Sm.uns b) (Hd.un h0 :: Hd.uns hs') [] [] p := by simp only [Sm.un, Hd.uns]
  rw [eu]
  have leb : LeS ρx (wipeN ρ (Sm.asgds b)) := LeS.sub le fun i hi => mem_l hi
  cases kk with
  | false =>
    refine PS.imp (ps_try_thru0 (hb _ _ B.nox ρ (wipeN ρ (Sm.asgds b)) (.refl _))) ?_
    rintro D σ H ⟨z, G, g, rel, rng, out⟩
    refine ⟨z, G, g, rel, rng, ?_⟩
    simp only [stepS] at out
    dsimp only
    cases q : (ev F.T n).ss ρ g b with
    | no => rw [q] at out; exact out.elim
    | ex c fs g' => rw [q] at out; exact out.elim
    | ok f g' =>
      rw [q] at out
      cases f <;> exact out
  | true =>
    have hall : (h0 :: hs').all (hdW M F.fl L) = true := by simpa using h2
    have hg := hdsG_of (n := n) (Pt := Pt) GO XO B hall
    have eh : Hd.uns (h0 :: hs') = Hd.un h0 :: Hd.uns hs' := by simp only [Hd.uns]
    rw [eh] at hg
    refine PS.imp (ps_tryG (tb := fun W' => tS F Pt ρ (wipeN ρ (Sm.asgds b)) (fun g => (ev F.T n).ss ρ g b) W') B.hs B.hf B.C.nd B.tk (fun W' pn xe tk po => hb _ _ (B.tr tk po) ρ _ (.refl _)) hg) ?_
    rintro D σ H ⟨z, G, g, rel, rng, out⟩
    refine ⟨z, G, g, rel, rng, ?_⟩
    simp only [stepS] at out
    dsimp only
    cases q : (ev F.T n).ss ρ g b with
    | no => rw [q] at out; exact out.elim
    | ok f g' =>
      rw [q] at out
      cases f <;> exact out
    | ex c fs g' =>
      rw [q] at out
      simp only [Bool.true_and] at out
      cases hc : Nat.blt c F.T.sup.length with
      | false => rw [hc] at out; exact out.elim
      | true =>
        rw [hc] at out
        have hc : c < M.cls.length := by rw [← XO.nc]; exact Nat.le_of_ble_eq_true hc
        intro da σ' z' G' H' gr rel' rn ea
        obtain ⟨dd, rfl, xf⟩ := ea
        exact handle_ok XO B hc rel' rn xf leb hall (OutS.grow out gr)
end
end Fp
end
section
set_option Elab.async false
set_option linter.all false
set_option maxRecDepth 100000
set_option autoImplicit false
set_option maxHeartbeats 1000000
/-! What is asked of a text. -/
namespace Fp
open PySem PySem.Spec PyProof.Rows L2

mutual
/-- a value; o: as an operand -/
def Xp.w (M : Gn) (T : Tab) : Nat → Lc → Bool → Xp → Bool
  | 0, _, _, _ => false
  | n + 1, L, o, e => match e with
    | .v i x _ => nameOk L i x
    | .pk i x _ => o && nameOk L i x
    | .c k _ _ => (cOf k).isSome
    | .gc j x _ => gcOk M T L j x
    | .gf f x _ => gfOk M L f x
    | .tup es _ _ => Xp.ws M T n L false es
    | .lst es _ => Xp.ws M T n L false es
    | .star _ _ => false
    | .dis ks vs _ => disW ks vs && (noStar ks && (noStar vs && (Xp.ws M T n L false ks && Xp.ws M T n L false vs)))
    | .bin a _ b _ => Xp.w M T n L true a && Xp.w M T n L true b
    | .neg a _ => Xp.w M T n L true a
    | .not a _ => Xp.w M T n L true a
    | .and es _ => noStar es && (!es.isEmpty && Xp.ws M T n L o es)
    | .or es _ => noStar es && (!es.isEmpty && Xp.ws M T n L o es)
    | .cmp a _ b _ => Xp.w M T n L true a && Xp.w M T n L true b
    | .chain a _ b _ c _ => Xp.w M T n L true a && (Xp.w M T n L true b && Xp.w M T n L true c)
    | .ife t a b _ => Xp.wt M T n L t && (Xp.w M T n L o a && Xp.w M T n L o b)
    | .sub a i _ => Xp.w M T n L true a && Xp.w M T n L true i
    | .slc a lo hi _ _ => Xp.w M T n L true a && (Xp.wo M T n L lo && Xp.wo M T n L hi)
    | .call f x es _ _ => callW M L f x es && Xp.ws M T n L false es
    | .callV i x es _ _ => callVW L i x es && Xp.ws M T n L false es
    | .bi b x es _ _ => biW M L b x es && Xp.ws M T n L true es
    | .lrng x y es _ _ _ _ => lrngW M L x y es && Xp.ws M T n L true es
    | .isi a ts tp _ _ => isiW M L a ts tp && Xp.w M T n L true a
    | .meth m x a es q p => meW L m x a es q p && (Xp.w M T n L true a && Xp.ws M T n L false es)
    | .lc e tg it ifs own sc _ => lcW L tg ifs own sc && (Src.w M T n L true tg it && (Xp.wts M T n (blkL L sc) ifs && Xp.w M T n (blkL L sc) false e))
    | .dc k e tg it ifs own sc _ => lcW L tg ifs own sc && (Src.w M T n L true tg it && (Xp.wts M T n (blkL L sc) ifs && (Xp.w M T n (blkL L sc) false k && Xp.w M T n (blkL L sc) false e)))
    | .att .. => false
/-- one of a list, or behind a star -/
def Xp.wi (M : Gn) (T : Tab) : Nat → Lc → Bool → Xp → Bool
  | 0, _, _, _ => false
  | n + 1, L, o, e => match e with
    | .star e _ => Xp.w M T n L true e
    | e => Xp.w M T n L o e
def Xp.ws (M : Gn) (T : Tab) : Nat → Lc → Bool → List Xp → Bool
  | 0, _, _, _ => false
  | _ + 1, _, _, [] => true
  | n + 1, L, o, e :: es => Xp.wi M T n L o e && Xp.ws M T n L o es
def Xp.wo (M : Gn) (T : Tab) : Nat → Lc → Option Xp → Bool
  | 0, _, _ => false
  | _ + 1, _, none => true
  | n + 1, L, some e => Xp.w M T n L true e
/-- a test -/
def Xp.wt (M : Gn) (T : Tab) : Nat → Lc → Xp → Bool
  | 0, _, _ => false
  | n + 1, L, e => match e with
    | .not a _ => Xp.wt M T n L a
    | .cmp a _ b _ => Xp.w M T n L true a && Xp.w M T n L true b
    | .chain a _ b _ c _ => Xp.w M T n L true a && (Xp.w M T n L true b && Xp.w M T n L true c)
    | .and es _ => !es.isEmpty && Xp.wts M T n L es
    | .or es _ => !es.isEmpty && Xp.wts M T n L es
    | .ife t a b _ => Xp.wt M T n L t && (Xp.wt M T n L a && Xp.wt M T n L b)
    | e => plainT e && Xp.w M T n L true e
def Xp.wts (M : Gn) (T : Tab) : Nat → Lc → List Xp → Bool
  | 0, _, _ => false
  | _ + 1, _, [] => true
  | n + 1, L, e :: es => Xp.wt M T n L e && Xp.wts M T n L es
def Src.w (M : Gn) (T : Tab) : Nat → Lc → Bool → Tg → Src → Bool
  | 0, _, _, _, _ => false
  | n + 1, L, o, tg, s => match s with
    | .src e => Xp.w M T n L o e
    | .rng x es q p => srcW M L tg (.rng x es q p) && Xp.ws M T n L true es
    | .enum x e q p => srcW M L tg (.enum x e q p) && Xp.wi M T n L o e
    | .zip x a b q p => srcW M L tg (.zip x a b q p) && (Xp.wi M T n L o a && Xp.wi M T n L o b)
end
mutual
def Sm.w (M : Gn) (T : Tab) (fl : Nat → List Str) : Nat → Lc → Sm → Bool
  | 0, _, _ => false
  | n + 1, L, s => match s with
    | .asg _ i x e _ _ => asgW L i x && (!isStar e && Xp.w M T n L false e)
    | .asgT ms ts es _ _ _ _ _ => asgTW L ms ts es && Xp.ws M T n L false es
    | .unp ts e _ _ _ => unpW L ts e && Xp.w M T n L false e
    | .setI i x k e _ _ _ => nameOk L i x && (Xp.w M T n L false k && Xp.w M T n L false e)
    | .app i x e _ q2 q _ => appW L i x e q2 q && Xp.w M T n L false e
    | .ext i x e _ q2 q _ => appW L i x e q2 q && Xp.w M T n L true e
    | .expr e _ => !isComp e && Xp.w M T n L true e
    | .ret e _ => Xp.w M T n L false e
    | .retN _ => true
    | .iff t a b _ => Xp.wt M T n L t && (Sm.ws M T fl n L a && Sm.ws M T fl n L b)
    | .for tg it b _ => forW L tg && (Src.w M T n L false tg it && Sm.ws M T fl n L b)
    | .whl t b _ => Xp.wt M T n L t && Sm.ws M T fl n L b
    | .rai c x es _ _ _ => raiW M L fl (fun c => Nat.blt c M.cls.length && !(fl c).isEmpty) c x es && Xp.ws M T n L false es
    | .try k b hs _ => tryW M fl L k hs && Sm.ws M T fl n L b
    | .pas _ => true
    | .brk _ => true
    | .cnt _ => true
    | .frz _ => true
def Sm.ws (M : Gn) (T : Tab) (fl : Nat → List Str) : Nat → Lc → List Sm → Bool
  | 0, _, _ => false
  | _ + 1, _, [] => true
  | n + 1, L, s :: r => Sm.w M T fl n L s && Sm.ws M T fl n L r
end
section
variable {M : Gn} {T : Tab}
theorem ws_all {o : Bool} {L : Lc} : ∀ {m : Nat} {es : List Xp}, Xp.ws M T m L o es = true → ∀ e ∈ es, ∃ m', Xp.wi M T m' L o e = true
  | _, [], _, e, he => by cases he
  | 0, x :: xs, h, e, he => by cases h
  | m + 1, x :: xs, h, e, he => by
    obtain ⟨h1, h2⟩ := and2 (show (Xp.wi M T m L o x && Xp.ws M T m L o xs) = true from h)
    rcases List.mem_cons.mp he with rfl | he
    · exact ⟨m, h1⟩
    · exact ws_all h2 e he
theorem wts_all {L : Lc} : ∀ {m : Nat} {es : List Xp}, Xp.wts M T m L es = true → ∀ e ∈ es, ∃ m', Xp.wt M T m' L e = true
  | _, [], _, e, he => by cases he
  | 0, x :: xs, h, e, he => by cases h
  | m + 1, x :: xs, h, e, he => by
    obtain ⟨h1, h2⟩ := and2 (show (Xp.wt M T m L x && Xp.wts M T m L xs) = true from h)
    rcases List.mem_cons.mp he with rfl | he
    · exact ⟨m, h1⟩
    · exact wts_all h2 e he
theorem wi_w {o : Bool} {m : Nat} {L : Lc} {e : Xp} (h : isStar e = false) (hw : Xp.wi M T m L o e = true) : ∃ m', Xp.w M T m' L o e = true := by
  cases m with
  | zero => cases hw
  | succ m =>
    refine ⟨m, ?_⟩
    cases e <;> first | exact hw | simp [isStar] at h
end
end Fp
end
section
set_option Elab.async false
set_option linter.all false
set_option maxRecDepth 100000
set_option autoImplicit false
set_option maxHeartbeats 1000000
/-! The evaluator's answers are the model's: by its fuel. -/
namespace Fp
open PySem PySem.Spec PyProof.Rows L2

theorem Ctx.mono {F : Fx} {j k : Nat} {X : Cx} (C : Ctx F k X) (h : j ≤ k) : Ctx F j X := ⟨C.prog, C.w, C.K, C.mg, C.base, C.nd, C.room.mono h⟩
theorem BCtx.mono {F : Fx} {j k : Nat} {X : Cx} {L : Lc} {W : WX} (B : BCtx F k L X W) (h : j ≤ k) : BCtx F j L X W := ⟨B.C.mono h, B.O, B.tk, B.po, B.hs, B.hf⟩
/-- what holds with fuel n -/
structure Snd (F : Fx) (M : Gn) (n : Nat) : Prop where
  e : ∀ {X : Cx} {W : WX} {L : Lc} {Pt : Prv} {ρ : List Sl} (m : Nat) (c : Bool) (e : Xp), Ctx F (2 * n + 2) X → LcOk L X → Takes X W → Xp.w M F.T m L (!c) e = true → PE X e.un (tX F Pt ρ c (fun g => (ev F.T n).e ρ g e) W)
  t : ∀ {X : Cx} {W : WX} {L : Lc} {Pt : Prv} {ρ : List Sl} (m : Nat) (e : Xp), Ctx F (2 * n + 2) X → LcOk L X → Takes X W → Xp.wt M F.T m L e = true → PT X e.un (tB F Pt ρ (fun g => evB (ev F.T n) ρ g e) W)
  nw : ∀ {X : Cx} {W : WX} {L : Lc} {Pt : Prv} {ρ : List Sl} (m : Nat) (e : Xp), Ctx F (2 * n + 2) X → LcOk L X → Takes X W → fresh e = true → Xp.w M F.T m L false e = true → PE X e.un (tN F Pt ρ (fun g => (ev F.T n).e ρ g e) W)
  st : ∀ {X : Cx} {W : WX} {L : Lc} {Pt : Prv} {ρ : List Sl} (m : Nat) (e : Xp), Ctx F (2 * n + 2) X → LcOk L X → Takes X W → isComp e = true → Xp.w M F.T m L false e = true → ∀ (i : Nat) (y : Str) (py spos : Pos), X.N[i]? = some y → X.env.scope.names.lookup y = some .local →
    swapsWith e.un (some (.Name y py)) spos.line X.env = pure true → PS X (.Assign [.Name y py] e.un spos) (tAsg (tN F Pt ρ (fun g => (ev F.T n).e ρ g e) W) (gName i))
  s : ∀ {X : Cx} {W : WX} {L : Lc} {Pt : Prv} (m : Nat) (b : List Sm), BCtx F (2 * n + 2) L X W → Sm.ws M F.T F.fl m L b = true → BlkS F X Pt (ev F.T n) W b
section
variable {F : Fx} {M : Gn} {n : Nat}
theorem snd_zero : Snd F M 0 where
  e := fun m c e _ _ _ _ => PE.no fun _ => rfl
  t := fun m e _ _ _ _ => ⟨fun pins s σ H Q I hw => by
    obtain ⟨z, G, g, rel, rng, out⟩ := hw
    exact out.elim⟩
  nw := fun m e _ _ _ _ _ => ⟨fun pins s σ H Q I hw => by
    obtain ⟨z, G, g, rel, rng, out⟩ := hw
    exact out.elim⟩
  st := fun m e _ _ _ _ _ i y py spos _ _ _ => ⟨fun pins s σ H D I hw => by
    obtain ⟨z, G, g, rel, rng, out⟩ := hw
    exact out.elim⟩
  s := fun m b _ _ ρ ρx _ => PSs.no fun _ => rfl
/-- what the whole stands on -/
structure Gnd (F : Fx) (M : Gn) : Prop where
  go : GnOk F M
  xo : XOk F M
  nf : F.T.nf ≤ M.fns.length
section
variable {X : Cx} {W : WX} {L : Lc} {Pt : Prv} {ρ ρx : List Sl} {m : Nat}
theorem Snd.i (S : Snd F M n) {c : Bool} (C : Ctx F (2 * n + 2) X) (O : LcOk L X) (tk : Takes X W) {e : Xp} (h : Xp.wi M F.T m L (!c) e = true) : SndI F X W Pt ρ (ev F.T n) c e := by
  cases m with
  | zero => cases h
  | succ m =>
    cases hs : isStar e with
    | true =>
      cases e with
      | star e p => exact S.e m false e C O tk h
      | _ => simp [isStar] at hs
    | false =>
      obtain ⟨m', h⟩ := wi_w hs h
      have := S.e (Pt := Pt) (ρ := ρ) m' c e C O tk h
      cases e <;> first | exact this | simp [isStar] at hs
theorem Snd.l (S : Snd F M n) {c : Bool} (C : Ctx F (2 * n + 2) X) (O : LcOk L X) (tk : Takes X W) {es : List Xp} (h : Xp.ws M F.T m L (!c) es = true) : ∀ e ∈ es, SndI F X W Pt ρ (ev F.T n) c e := fun e he => by
  obtain ⟨m', h⟩ := ws_all h e he
  exact S.i C O tk h
theorem Snd.p (S : Snd F M n) {c : Bool} (C : Ctx F (2 * n + 2) X) (O : LcOk L X) (tk : Takes X W) {es : List Xp} (hn : noStar es = true) (h : Xp.ws M F.T m L (!c) es = true) : ∀ e ∈ es, PE X e.un (tX F Pt ρ c (fun g => (ev F.T n).e ρ g e) W) := fun e he => by
  obtain ⟨m', h⟩ := ws_all h e he
  obtain ⟨m2, h⟩ := wi_w (noStar_all hn e he) h
  exact S.e m2 c e C O tk h
theorem Snd.src (G : Gnd F M) (S : Snd F M n) {c : Bool} (C : Ctx F (2 * n + 2) X) (O : LcOk L X) (tk : Takes X W) {tg : Tg} {it : Src} (h : Src.w M F.T m L (!c) tg it = true) : PI X tg.un it.un (tI F Pt ρ c (fun g => evI (ev F.T n) ρ g it) W) := by
  cases m with
  | zero => cases h
  | succ m =>
    cases it with
    | src e => exact snd_src C (S.e m c e C O tk h)
    | rng x es q p =>
      obtain ⟨h1, h2⟩ := and2 h
      exact snd_rng G.go C O h1 (S.l (c := false) C O tk h2)
    | enum x e q p =>
      obtain ⟨h1, h2⟩ := and2 h
      exact snd_enum G.go C O h1 (S.i C O tk h2)
    | zip x a b q p =>
      obtain ⟨h1, h2⟩ := and2 h
      obtain ⟨h2, h3⟩ := and2 h2
      exact snd_zip G.go C O h1 (S.i C O tk h2) (S.i C O tk h3)
theorem Snd.parts (G : Gnd F M) (S : Snd F M n) (C : Ctx F (2 * n + 4) X) (O : LcOk L X) (tk : Takes X W) {tg : Tg} {it : Src} {ifs : List Xp} {sc : Scope} (h1 : Src.w M F.T m L true tg it = true) (h2 : Xp.wts M F.T m (blkL L sc) ifs = true) : LcParts F (2 * n + 4) X L Pt ρ (ev F.T n) W tg it ifs sc where
  hi := S.src (c := false) G (C.mono (by omega)) O tk h1
  ht := fun X' O' C' tk' ρ' e he => by
    obtain ⟨m', h⟩ := wts_all h2 e he
    exact S.t m' e (C'.mono (by omega)) O' tk' h
theorem Snd.inb (S : Snd F M n) {sc : Scope} {e : Xp} (h : Xp.w M F.T m (blkL L sc) false e = true) : ∀ X', LcOk (blkL L sc) X' → Ctx F (2 * n + 4) X' → Takes X' W0 → ∀ ρ, PE X' e.un (tX F Pt ρ true (fun g => (ev F.T n).e ρ g e) W0) :=
  fun X' O' C' tk' ρ' => S.e m true e (C'.mono (by omega)) O' tk' h
theorem step_e (G : Gnd F M) (FO : FnsOk F M n) (S : Snd F M n) (C : Ctx F (2 * n + 4) X) (O : LcOk L X) (tk : Takes X W) (c : Bool) (e : Xp) (h : Xp.w M F.T m L (!c) e = true) : PE X e.un (tX F Pt ρ c (fun g => stepE F.T (ev F.T n) ρ g e) W) := by
  have C2 : Ctx F (2 * n + 2) X := C.mono (by omega)
  cases m with
  | zero => cases h
  | succ m =>
    cases e with
    | v i x p => exact snd_v O h
    | pk i x p =>
      obtain ⟨h1, h2⟩ := and2 h
      cases c with
      | true => cases h1
      | false => exact snd_pk O h2
    | c k j p => exact snd_c h
    | gc j x p => exact snd_gc G.go C O h
    | gf f x p => exact snd_gf G.go C O h
    | tup es k p => exact snd_tup C (S.l (c := true) C2 O tk h)
    | lst es p => exact PE.ofN (snd_lstN C (S.l (c := true) C2 O tk h))
    | star e p => cases h
    | dis ks vs p =>
      obtain ⟨h1, h⟩ := and2 h
      obtain ⟨h2, h⟩ := and2 h
      obtain ⟨h3, h⟩ := and2 h
      obtain ⟨h4, h5⟩ := and2 h
      exact PE.ofN (snd_disN C h1 (S.p (c := true) C2 O tk h2 h4) (S.p (c := true) C2 O tk h3 h5))
    | bin a op b p =>
      obtain ⟨h1, h2⟩ := and2 h
      exact snd_bin C (S.e m false a C2 O tk h1) (S.e m false b C2 O tk h2)
    | neg a p => exact snd_neg C (S.e m false a C2 O tk h)
    | not a p => exact snd_not C (S.e m false a C2 O tk h)
    | and es p =>
      obtain ⟨h1, h⟩ := and2 h
      obtain ⟨h2, h3⟩ := and2 h
      have eu : (Xp.and es p).un = .BoolOp .And (Xp.uns es) p := by simp only [Xp.un]
      rw [eu]
      exact snd_and C (by intro q; subst q; simp at h2) (S.p C2 O tk h1 h3)
    | or es p =>
      obtain ⟨h1, h⟩ := and2 h
      obtain ⟨h2, h3⟩ := and2 h
      have eu : (Xp.or es p).un = .BoolOp .Or (Xp.uns es) p := by simp only [Xp.un]
      rw [eu]
      exact snd_or C (by intro q; subst q; simp at h2) (S.p C2 O tk h1 h3)
    | cmp a op b p =>
      obtain ⟨h1, h2⟩ := and2 h
      exact snd_cmp C (S.e m false a C2 O tk h1) (S.e m false b C2 O tk h2)
    | chain a op b op' d p =>
      obtain ⟨h1, h⟩ := and2 h
      obtain ⟨h2, h3⟩ := and2 h
      exact snd_chain C (S.e m false a C2 O tk h1) (S.e m false b C2 O tk h2) (S.e m false d C2 O tk h3)
    | ife t a b p =>
      obtain ⟨h1, h⟩ := and2 h
      obtain ⟨h2, h3⟩ := and2 h
      exact snd_ife (S.t m t C2 O tk h1) (S.e m c a C2 O tk h2) (S.e m c b C2 O tk h3)
    | sub a i p =>
      obtain ⟨h1, h2⟩ := and2 h
      exact snd_sub C (S.e m false a C2 O tk h1) (S.e m false i C2 O tk h2)
    | slc a lo hi q p =>
      obtain ⟨h1, h⟩ := and2 h
      obtain ⟨h2, h3⟩ := and2 h
      refine snd_slc C (S.e m false a C2 O tk h1) (fun e he => ?_) fun e he => ?_
      · subst he
        cases m with
        | zero => cases h2
        | succ m => exact S.e m false e C2 O tk h2
      · subst he
        cases m with
        | zero => cases h3
        | succ m => exact S.e m false e C2 O tk h3
    | call f x es q p =>
      obtain ⟨h1, h2⟩ := and2 h
      exact snd_call G.go FO C O tk h1 (S.l (c := true) C2 O tk h2)
    | callV i x es q p =>
      obtain ⟨h1, h2⟩ := and2 h
      exact snd_callV FO G.nf C O tk h1 (S.l (c := true) C2 O tk h2)
    | bi b x es q p =>
      obtain ⟨h1, h2⟩ := and2 h
      exact snd_bi G.go C O h1 (S.l (c := false) C2 O tk h2)
    | lrng x y es q1 q2 q p =>
      obtain ⟨h1, h2⟩ := and2 h
      exact snd_lrng G.go C O h1 (S.l (c := false) C2 O tk h2)
    | isi a ts tp q p =>
      obtain ⟨h1, h2⟩ := and2 h
      exact snd_isi G.go C O h1 (S.e m false a C2 O tk h2)
    | meth me x a es q p =>
      obtain ⟨h1, h⟩ := and2 h
      obtain ⟨h2, h3⟩ := and2 h
      cases hg : isGc a with
      | true =>
        cases a with
        | gc j y p' =>
          have hgc : gcOk M F.T L j y = true := by
            cases m with
            | zero => cases h2
            | succ m => exact h2
          refine snd_meth G.go C O h1 (P := KTup F) (fun _ v d hv => hv) (gc_P G.go C O hgc fun g => ?_) (S.l (c := true) C2 O tk h3)
          cases n with
          | zero => exact .inr rfl
          | succ n => exact .inl rfl
        | _ => simp [isGc] at hg
      | false => exact snd_meth G.go C O h1 (P := fun _ _ => True) (fun q => by rw [hg] at q; cases q) (any_P (S.e m false a C2 O tk h2)) (S.l (c := true) C2 O tk h3)
    | lc e tg it ifs own sc p =>
      obtain ⟨h1, h⟩ := and2 h
      obtain ⟨h2, h⟩ := and2 h
      obtain ⟨h3, h4⟩ := and2 h
      exact PE.ofN (snd_lcN C O h1 (S.parts G C O tk h2 h3) (S.inb h4))
    | dc k e tg it ifs own sc p =>
      obtain ⟨h1, h⟩ := and2 h
      obtain ⟨h2, h⟩ := and2 h
      obtain ⟨h3, h⟩ := and2 h
      obtain ⟨h4, h5⟩ := and2 h
      exact PE.ofN (snd_dcN C O h1 (S.parts G C O tk h2 h3) (S.inb h4) (S.inb h5))
    | att i x j f q p => cases h
theorem step_nw (G : Gnd F M) (S : Snd F M n) (C : Ctx F (2 * n + 4) X) (O : LcOk L X) (tk : Takes X W) (e : Xp) (hf : fresh e = true) (h : Xp.w M F.T m L false e = true) : PE X e.un (tN F Pt ρ (fun g => stepE F.T (ev F.T n) ρ g e) W) := by
  have C2 : Ctx F (2 * n + 2) X := C.mono (by omega)
  cases m with
  | zero => cases h
  | succ m =>
    cases e with
    | lst es p => exact snd_lstN C (S.l (c := true) C2 O tk h)
    | dis ks vs p =>
      obtain ⟨h1, h⟩ := and2 h
      obtain ⟨h2, h⟩ := and2 h
      obtain ⟨h3, h⟩ := and2 h
      obtain ⟨h4, h5⟩ := and2 h
      exact snd_disN C h1 (S.p (c := true) C2 O tk h2 h4) (S.p (c := true) C2 O tk h3 h5)
    | bin a op b p =>
      obtain ⟨h1, h2⟩ := and2 h
      exact snd_binN C (S.e m false a C2 O tk h1) (S.e m false b C2 O tk h2)
    | lc e tg it ifs own sc p =>
      obtain ⟨h1, h⟩ := and2 h
      obtain ⟨h2, h⟩ := and2 h
      obtain ⟨h3, h4⟩ := and2 h
      exact snd_lcN C O h1 (S.parts G C O tk h2 h3) (S.inb h4)
    | dc k e tg it ifs own sc p =>
      obtain ⟨h1, h⟩ := and2 h
      obtain ⟨h2, h⟩ := and2 h
      obtain ⟨h3, h⟩ := and2 h
      obtain ⟨h4, h5⟩ := and2 h
      exact snd_dcN C O h1 (S.parts G C O tk h2 h3) (S.inb h4) (S.inb h5)
    | _ => simp [fresh] at hf
theorem step_st (G : Gnd F M) (S : Snd F M n) (C : Ctx F (2 * n + 4) X) (O : LcOk L X) (tk : Takes X W) (e : Xp) (hf : isComp e = true) (h : Xp.w M F.T m L false e = true) (i : Nat) (y : Str) (py spos : Pos) (hy : X.N[i]? = some y) (hyl : X.env.scope.names.lookup y = some .local)
    (hsw : swapsWith e.un (some (.Name y py)) spos.line X.env = pure true) : PS X (.Assign [.Name y py] e.un spos) (tAsg (tN F Pt ρ (fun g => stepE F.T (ev F.T n) ρ g e) W) (gName i)) := by
  cases m with
  | zero => cases h
  | succ m =>
    cases e with
    | lc e tg it ifs own sc p =>
      obtain ⟨h1, h⟩ := and2 h
      obtain ⟨h2, h⟩ := and2 h
      obtain ⟨h3, h4⟩ := and2 h
      exact snd_setLc C O h1 (S.parts G C O tk h2 h3) (S.inb h4) hy hyl hsw
    | dc k e tg it ifs own sc p =>
      obtain ⟨h1, h⟩ := and2 h
      obtain ⟨h2, h⟩ := and2 h
      obtain ⟨h3, h⟩ := and2 h
      obtain ⟨h4, h5⟩ := and2 h
      exact snd_setDc C O h1 (S.parts G C O tk h2 h3) (S.inb h4) (S.inb h5) hy hyl hsw
    | _ => simp [isComp] at hf
theorem wt_plain {T : Tab} {e : Xp} (hp : plainT e = true) (h : Xp.wt M T (m + 1) L e = true) : Xp.w M T m L true e = true := by
  cases e <;> first
    | (simp [plainT] at hp; done)
    | (have h' := h
       simp only [Xp.wt, plainT, Bool.true_and] at h'
       exact h')
theorem step_t (G : Gnd F M) (FO : FnsOk F M n) (S : Snd F M n) (C : Ctx F (2 * n + 4) X) (O : LcOk L X) (tk : Takes X W) (e : Xp) (h : Xp.wt M F.T m L e = true) : PT X e.un (tB F Pt ρ (fun g => (stepE F.T (ev F.T n) ρ g e).bind fun d g => Rs.of (truth d) g) W) := by
  have C2 : Ctx F (2 * n + 2) X := C.mono (by omega)
  cases m with
  | zero => cases h
  | succ m =>
    have plain : ∀ {e : Xp}, plainT e = true → Xp.w M F.T m L true e = true → PT X e.un (tB F Pt ρ (fun g => (stepE F.T (ev F.T n) ρ g e).bind fun d g => Rs.of (truth d) g) W) := fun {e} h1 h2 => snd_test C h1 (step_e G FO S C O tk false e h2)
    cases e with
    | not a p => exact snt_not (S.t m a C2 O tk h)
    | cmp a op b p =>
      obtain ⟨h1, h2⟩ := and2 h
      exact snt_cmp C (S.e m false a C2 O tk h1) (S.e m false b C2 O tk h2)
    | chain a op b op' d p =>
      obtain ⟨h1, h⟩ := and2 h
      obtain ⟨h2, h3⟩ := and2 h
      exact snt_chain C (S.e m false a C2 O tk h1) (S.e m false b C2 O tk h2) (S.e m false d C2 O tk h3)
    | and es p =>
      obtain ⟨h1, h2⟩ := and2 h
      have eu : (Xp.and es p).un = .BoolOp .And (Xp.uns es) p := by simp only [Xp.un]
      rw [eu]
      exact (snt_and (by intro q; subst q; simp at h1) fun e he => by
        obtain ⟨m', h⟩ := wts_all h2 e he
        exact S.t m' e C2 O tk h).pt
    | or es p =>
      obtain ⟨h1, h2⟩ := and2 h
      have eu : (Xp.or es p).un = .BoolOp .Or (Xp.uns es) p := by simp only [Xp.un]
      rw [eu]
      exact (snt_or (by intro q; subst q; simp at h1) fun e he => by
        obtain ⟨m', h⟩ := wts_all h2 e he
        exact S.t m' e C2 O tk h).pt
    | ife t a b p =>
      obtain ⟨h1, h⟩ := and2 h
      obtain ⟨h2, h3⟩ := and2 h
      exact snt_ife (S.t m t C2 O tk h1) (S.t m a C2 O tk h2) (S.t m b C2 O tk h3)
    | _ => exact plain rfl (wt_plain rfl h)
theorem Snd.set (S : Snd F M n) (C : Ctx F (2 * n + 2) X) (O : LcOk L X) (tk : Takes X W) {e : Xp} (h : Xp.w M F.T m L false e = true) : SetOk F X Pt ρ (ev F.T n) W e :=
  ⟨S.e m true e C O tk h, fun hf => S.nw m e C O tk hf h, fun hc => S.st m e C O tk hc h⟩
theorem step_s (G : Gnd F M) (S : Snd F M n) (B : BCtx F (2 * n + 4) L X W) {s : Sm} (h : Sm.w M F.T F.fl m L s = true) (hfz : isFrz s = false) (le : LeS ρx (wipeN ρ s.asgd)) : PS X s.un (tS F Pt ρ ρx (fun g => stepS F.T (ev F.T n) ρ g s) W) := by
  have B2 : BCtx F (2 * n + 2) L X W := B.mono (by omega)
  have C2 := B2.C
  have O := B.O
  have tk := B.tk
  have kp := keeps_ev F.T n
  cases m with
  | zero => cases h
  | succ m =>
    cases s with
    | asg mm i x e q p =>
      obtain ⟨h1, h⟩ := and2 h
      obtain ⟨h2, h3⟩ := and2 h
      exact snd_asg B.C O h1 (S.set C2 O tk h3) le.le
    | asgT ms ts es k k' q q' p =>
      obtain ⟨h1, h2⟩ := and2 h
      have hn : noStar es = true := by
        obtain ⟨_, h⟩ := and2 h1
        obtain ⟨_, h⟩ := and2 h
        exact (and2 h).1
      refine snd_asgT B.C O h1 (fun e he => ?_) le.le
      obtain ⟨m', h⟩ := ws_all h2 e he
      obtain ⟨m2, h⟩ := wi_w (noStar_all hn e he) h
      exact S.set C2 O tk h
    | unp ts e k q p =>
      obtain ⟨h1, h2⟩ := and2 h
      exact snd_unp B.C O h1 (S.e m true e C2 O tk h2) le.le
    | setI i x k e q1 q p =>
      obtain ⟨h1, h⟩ := and2 h
      obtain ⟨h2, h3⟩ := and2 h
      exact snd_setI B.C O h1 (S.e m true e C2 O tk h3) (S.e m true k C2 O tk h2) le.le
    | app i x e q1 q2 q p =>
      obtain ⟨h1, h2⟩ := and2 h
      exact snd_app B.C O h1 (S.e m true e C2 O tk h2) le.le
    | ext i x e q1 q2 q p =>
      obtain ⟨h1, h2⟩ := and2 h
      exact snd_ext B.C O h1 (S.e m false e C2 O tk h2) le.le
    | expr e p =>
      obtain ⟨h1, h2⟩ := and2 h
      exact snd_exprS (not_of h1) (S.e m false e C2 O tk h2) le.le
    | ret e p => exact snd_ret (S.e m true e C2 O tk h) le.le
    | retN p => exact snd_retN
    | iff t a b p =>
      obtain ⟨h1, h⟩ := and2 h
      obtain ⟨h2, h3⟩ := and2 h
      exact snd_iff (S.t m t C2 O tk h1) (S.s m a B2 h2 ρ ρx (LeS.sub le fun i hi => by rw [Sm.asgd]; exact mem_l hi)) (S.s m b B2 h3 ρ ρx (LeS.sub le fun i hi => by rw [Sm.asgd]; exact mem_r hi)) le.le
    | «for» tg it b p =>
      obtain ⟨h1, h⟩ := and2 h
      obtain ⟨h2, h3⟩ := and2 h
      exact snd_for kp B.po B.C O h1 (S.src (c := true) G C2 O tk h2) (S.s m b B2 h3) le
    | whl t b p =>
      obtain ⟨h1, h2⟩ := and2 h
      exact snd_whl kp B.po (fun ρ => S.t m t C2 O tk h1) (S.s m b B2 h2) le
    | rai c x es q1 q p =>
      obtain ⟨h1, h2⟩ := and2 h
      refine snd_rai (k := 2 * n + 2) G.go B.C O tk (fun c hc => ?_) h1 (S.l (c := true) C2 O tk h2) le.le
      obtain ⟨k1, k2⟩ := and2 hc
      exact G.xo.err c (Nat.le_of_ble_eq_true k1) (by intro q; rw [q] at k2; simp at k2)
    | «try» k b hs p =>
      obtain ⟨h1, h2⟩ := and2 h
      exact snd_try G.go G.xo B h1 (fun X' W' B' => S.s m b (B'.mono (by omega)) h2) le
    | pas p => exact snd_pas
    | brk p => exact snd_brk
    | cnt p => exact snd_cnt
    | frz i => simp [isFrz] at hfz
theorem step_ss (G : Gnd F M) (S : Snd F M n) (B : BCtx F (2 * n + 4) L X W) : ∀ {m : Nat} {b : List Sm} {ρ : List Sl}, Sm.ws M F.T F.fl m L b = true → LeS ρx (wipeN ρ (Sm.asgds b)) → PSs X (Sm.uns b) (tS F Pt ρ ρx (fun g => stepSs F.T (ev F.T n) ρ g b) W)
  | 0, _, _, h, _ => by cases h
  | m + 1, [], ρ, _, _ => snd_nil
  | m + 1, s :: b, ρ, h, le => by
    obtain ⟨h1, h2⟩ := and2 (show (Sm.w M F.T F.fl m L s && Sm.ws M F.T F.fl m L b) = true from h)
    cases hf : isFrz s with
    | true =>
      cases s with
      | frz i => exact snd_frz (fun ρ' le' => step_ss G S B h2 le') le
      | _ => simp [isFrz] at hf
    | false => exact snd_cons (keeps_ev F.T n) hf (step_s G S B h1 hf (LeS.sub le fun i hi => by rw [Sm.asgds]; exact mem_l hi)) (fun ρ' le' => step_ss G S B h2 le') le
end
theorem snd_succ (G : Gnd F M) (FO : FnsOk F M n) (S : Snd F M n) : Snd F M (n + 1) where
  e := fun m c e C O tk h => step_e G FO S C O tk c e h
  t := fun m e C O tk h => step_t G FO S C O tk e h
  nw := fun m e C O tk hf h => step_nw G S C O tk e hf h
  st := fun m e C O tk hf h i y py spos h1 h2 h3 => step_st G S C O tk e hf h i y py spos h1 h2 h3
  s := fun m b B h ρ ρx le => step_ss G S B h le
end
end Fp
end
section
set_option Elab.async false
set_option linter.all false
set_option maxRecDepth 100000
set_option autoImplicit false
set_option maxHeartbeats 1000000
/-! Defs keep their promises. -/
namespace Fp
open PySem PySem.Spec PyProof.Rows L2

theorem GrowS.toGrow {Pt : Prv} {z z' : List Addr} {G H G' H' : Hp} (g : GrowS Pt z G H z' G' H') (sb : Sub G H) (hp : ∀ a, (∃ o, H a = some o) → G a = none → a ∉ z → Pt.own a) : Grow z G H z' G' H' where
  zl := g.zl
  same := fun a o h n => by
    cases e : G a with
    | none => exact g.same a o (hp a ⟨o, h⟩ e n) h
    | some o' =>
      have h1 := sb a o' e
      rw [h] at h1
      cases h1
      exact g.sub' a o (g.sub a o e)
  sub' := g.sub'
  sub := g.sub
  new := fun a h => by
    rcases g.new a h with q | q
    · exact .inl q
    · cases e : G a with
      | some o => exact .inl (by simp)
      | none =>
        cases eh : H a with
        | none => exact .inr rfl
        | some o =>
          exfalso
          by_cases m : a ∈ z
          · rcases g.zl with w | w
            · rw [w] at m; cases m
            · exact h (g.zG a (by rw [w]; exact m))
          · exact q (hp a ⟨o, eh⟩ e m)
  zG := g.zG
  zn := fun e c m => by
    obtain ⟨n1, n2⟩ := g.zn e c m
    cases eh : H c with
    | none => rfl
    | some o => exact absurd (hp c ⟨o, eh⟩ n2 (by rw [e]; simp)) n1

/-- a def of the text, as it stands in the written part -/
structure Plain (F : Fx) (M : Gn) (f : Nat) (fdv : FuncData) (ps : List Str) : Prop where
  at_ : ∃ (d : Fd) (m : Nat) (N : List Str) (name qual : Str) (params : Arguments) (scope : Scope) (dV kV doc pm cdv ct oc : Value) (an od : Option Addr) (osl : Array (Option Value)),
    Tre.get 12 F.T.fns f = some (some d) ∧ d.prim = 0 ∧ d.np = ps.length ∧ d.n = N.length ∧ fdv = PySem.W.fnOf name qual params (Sm.uns d.body) scope dV kV doc pm an cdv ct ∧
    F.K.lookup (F.fa f) = some ⟨oc, od, .func (PySem.W.fnOf name qual params (Sm.uns d.body) scope dV kV doc pm an cdv ct), osl⟩ ∧ PySem.W.codeIn F.K cdv qual = true ∧ FnScope N ps scope ∧ Sm.ws M F.T F.fl m ⟨N, scope, fun _ => true, true⟩ d.body = true
section
variable {F : Fx} {M : Gn} {n : Nat}
theorem fn_no {f : Nat} {fdv : FuncData} {ps : List Str} {k : Nat} {call : List D → Gs → Rs D} (h : ∀ ds g, call ds g = .no) : FnOk F.P F.w F.K F.mg F.base (CX F.P F.w) k (F.fa f) fdv ps (spF F call) := by
  refine ⟨fun vs H Q E hs => ?_, fun A outer s H args us vs Q E _ _ _ _ hs => ?_⟩
  · obtain ⟨z, G, g, ds, _, _, _, _, out⟩ := hs
    rw [h] at out
    exact out.elim
  · obtain ⟨z, G, g, ds, _, _, _, _, out⟩ := hs
    rw [h] at out
    exact out.elim
theorem fn_plain (G0 : Gnd F M) (S : Snd F M n) {f : Nat} {fdv : FuncData} {ps : List Str} (P : Plain F M f fdv ps) : FnOk F.P F.w F.K F.mg F.base (CX F.P F.w) (2 * n + 4) (F.fa f) fdv ps (spF F fun ds g => (ev F.T (n + 1)).call f ds g) := by
  obtain ⟨d, m, N, name, qual, params, scope, dV, kV, doc, pm, cdv, ct, oc, an, od, osl, hd, hp, hnp, hn, rfl, lk, hcd, Sc, hw⟩ := P.at_
  have call : ∀ ds g, (ev F.T (n + 1)).call f ds g = (match Nat.beq ds.length ps.length with
      | true => ((ev F.T n).ss (ds.map Sl.sh ++ List.replicate (N.length - ps.length) Sl.un) g d.body).bind fun f g => match f with
        | .next _ => .ok .non g
        | .ret d => .ok d g
        | _ => .no
      | false => .no) := by
    intro ds g
    show stepC F.T (ev F.T n) f ds g = _
    simp only [stepC, hd, hp, hnp, hn]
    try rfl
  have hpl : ps.length ≤ N.length := by have := congrArg List.length Sc.pre; rw [List.length_take] at this; omega
  have hlen : ∀ {ds : List D} {g : Gs} {z : List Addr} {G H : Hp} {Q : VK} {E : XK}, Out F true z G H ((ev F.T (n + 1)).call f ds g) Q E → ds.length = ps.length := by
    intro ds g z G H Q E out
    rw [call] at out
    cases q : Nat.beq ds.length ps.length with
    | false => rw [q] at out; exact out.elim
    | true => exact Nat.eq_of_beq_eq_true q
  refine fn_of lk hcd Sc (fun vs H Q E hs => ?_) fun A outer s H vs Q E hr hs => ?_
  · obtain ⟨z, G, g, ds, _, _, _, rp, out⟩ := hs
    rw [rp.length]; exact hlen out
  · obtain ⟨z, G, g, ds, sb, hz, rng, rp, out⟩ := hs
    have hl := hlen out
    have hv : vs.length = ps.length := rp.length.trans hl
    have out : Out F true z G H ((ev F.T (n + 1)).call f ds g) Q E := out
    rw [call, show Nat.beq ds.length ps.length = true by rw [hl]; exact Nat.beq_refl _] at out
    simp only at out
    generalize hX : cxOf (CX F.P F.w) F.P F.w F.K F.mg F.base N qual scope (F.fa f) cdv A outer s H E = X
    have B : BCtx F (2 * n + 2) ⟨N, scope, fun _ => true, true⟩ X (fun cls d _ H => E cls d H) := by
      subst hX
      exact ⟨⟨rfl, rfl, rfl, rfl, rfl, Sc.nd, hr.mono (by omega)⟩, ⟨rfl, rfl, rfl, rfl⟩, takes_of rfl rfl rfl rfl, passes_of rfl, rfl, rfl⟩
    have pss := S.s (Pt := ⟨fun a => (∃ o, H a = some o) ∧ G a = none ∧ a ∉ z, fun _ _ _ => False⟩) m d.body B hw (ds.map Sl.sh ++ List.replicate (N.length - ps.length) Sl.un) _ (.refl _)
    refine ⟨_, pss, z, G, g, ?_, rng, ?_⟩
    · have get : ∀ (i : Nat) (sl : Sl), (ds.map Sl.sh ++ List.replicate (N.length - ps.length) Sl.un)[i]? = some sl → (∃ x, sl = .sh x ∧ ds[i]? = some x ∧ i < ds.length) ∨ sl = .un := by
        intro i sl e
        by_cases hi : i < ds.length
        · rw [List.getElem?_append_left (by simpa using hi), List.getElem?_map] at e
          cases q : ds[i]? with
          | none => rw [q] at e; cases e
          | some x => rw [q] at e; cases e; exact .inl ⟨x, rfl, rfl, hi⟩
        · rw [List.getElem?_append_right (by simpa using hi), List.getElem?_replicate] at e
          split at e
          · cases e; exact .inr rfl
          · cases e
      refine ⟨sb, hz, ?_, fun i x e => ?_, fun i x e => ?_, fun i j x y a e1 _ _ _ => ?_, fun a p => ⟨p.2.1, p.1, p.2.2⟩, fun i c fs e => ?_⟩
      · unfold L2.start
        simp only [List.length_append, List.length_map, List.length_replicate]
        omega
      · rcases get i _ e with ⟨y, e1, e2, hi⟩ | e1
        · cases e1
          obtain ⟨v, v1, v2⟩ := rp.get e2
          refine ⟨v, ?_, v2⟩
          unfold L2.start
          rw [List.getElem?_append_left (by rw [List.length_map, hv, ← hl]; exact hi), List.getElem?_map, v1]
          rfl
        · cases e1
      · rcases get i _ e with ⟨y, e1, _⟩ | e1 <;> cases e1
      · rcases get i _ e1 with ⟨y, e2, _⟩ | e2 <;> cases e2
      · rcases get i _ e with ⟨y, e1, _⟩ | e1 <;> cases e1
    · have back : ∀ {z' : List Addr} {G' H' : Hp}, GrowS ⟨fun a => (∃ o, H a = some o) ∧ G a = none ∧ a ∉ z, fun _ _ _ => False⟩ z G H z' G' H' → Grow z G H z' G' H' := fun gr => gr.toGrow sb fun a h1 h2 h3 => ⟨h1, h2, h3⟩
      dsimp only
      cases q : (ev F.T n).ss (ds.map Sl.sh ++ List.replicate (N.length - ps.length) Sl.un) g d.body with
      | no => rw [q] at out; exact out.elim
      | ex cl fs g' =>
        rw [q] at out
        exact fun da σ' z' G' H' gr rel' rn ea => out da z' G' H' (back gr) rn ea
      | ok fl g' =>
        rw [q] at out
        cases fl with
        | next ρ' => exact fun σ' z' G' H' gr rel' rn => out .non z' G' H' (back gr) rn (.non)
        | ret x => exact fun v z' G' H' gr rn rp' => out v z' G' H' (back gr) rn rp'
        | brk ρ' => exact out.elim
        | cnt ρ' => exact out.elim
/-- each def: without an answer, a plain one, or one that is told by hand -/
structure DefsOk (F : Fx) (M : Gn) : Prop where
  at_ : ∀ f, f < M.fns.length → ∃ (fd : FuncData) (ps : List Str), PySem.W.keepIn F.K (.ref (F.fa f)) = true ∧ Binds F.K fd ps [] ∧
    ((∀ n ds g, (ev F.T n).call f ds g = .no) ∨ Plain F M f fd ps ∨ ∀ n, Snd F M n → FnsOk F M n → FnOk F.P F.w F.K F.mg F.base (CX F.P F.w) (2 * n + 4) (F.fa f) fd ps (spF F fun ds g => (ev F.T (n + 1)).call f ds g))
theorem snd_all (G : Gnd F M) (D : DefsOk F M) : ∀ n, Snd F M n ∧ FnsOk F M n
  | 0 => ⟨snd_zero, fun f hf => by
    obtain ⟨fd, ps, h1, h2, _⟩ := D.at_ f hf
    exact ⟨fd, ps, h1, h2, fn_no fun _ _ => rfl⟩⟩
  | n + 1 => by
    obtain ⟨S, FO⟩ := snd_all G D n
    refine ⟨snd_succ G FO S, fun f hf => ?_⟩
    obtain ⟨fd, ps, h1, h2, h3⟩ := D.at_ f hf
    refine ⟨fd, ps, h1, h2, ?_⟩
    rcases h3 with h3 | h3 | h3
    · exact fn_no (h3 (n + 1))
    · exact fn_plain G S h3
    · exact h3 n S FO
end
end Fp
end
section
set_option Elab.async false
set_option linter.all false
set_option maxRecDepth 100000
set_option autoImplicit false
set_option maxHeartbeats 1000000
/-! Arguments by position. -/
namespace Fp
open PySem PySem.Spec PyProof.Rows L2

theorem zip_lookup : ∀ {ps : List Str} {us : List Value}, us.length = ps.length → ∀ x ∈ ps, ((ps.zip us).lookup x).isNone = false
  | [], _, _, x, h => by cases h
  | p :: ps, [], l, x, h => by simp at l
  | p :: ps, u :: us, l, x, h => by
    rw [List.zip_cons_cons, List.lookup_cons]
    cases q : x == p with
    | true => rfl
    | false =>
      refine zip_lookup (by simpa using l) x ?_
      rcases List.mem_cons.mp h with e | e
      · rw [e] at q; simp at q
      · exact e
theorem filterMap_cg {α β : Type} {f g : α → Option β} : ∀ {l : List α}, (∀ x ∈ l, f x = g x) → l.filterMap f = l.filterMap g
  | [], _ => rfl
  | x :: l, h => by
    rw [List.filterMap_cons, List.filterMap_cons, h x (by simp), filterMap_cg fun y hy => h y (List.mem_cons_of_mem _ hy)]
theorem zip_filter : ∀ {ps : List Str} {us : List Value}, ps.Nodup → us.length = ps.length → ps.filterMap (fun n => ((ps.zip us).lookup n).map (n, ·)) = ps.zip us
  | [], us, _, l => by simp
  | p :: ps, [], _, l => by simp at l
  | p :: ps, u :: us, nd, l => by
    obtain ⟨n1, n2⟩ := List.nodup_cons.mp nd
    rw [List.zip_cons_cons, List.filterMap_cons, List.lookup_cons]
    simp only [beq_self_eq_true, Option.map_some]
    congr 1
    refine (filterMap_cg fun x hx => ?_).trans (zip_filter n2 (by simpa using l : us.length = ps.length))
    rw [List.lookup_cons]
    have : (x == p) = false := by
      cases q : x == p with
      | false => rfl
      | true => exact absurd (by rw [← eq_of_beq q]; exact hx) n1
    rw [this]
theorem bind_all {name qual : Str} {params : Arguments} {body : List Stmt} {scope : Scope} {cl : List (Str × Addr)} {kV doc pm cdv ct : Value} {an : Option Addr} {ps : List Str} {us : List Value} (h0 : params.posonlyargs = []) (h1 : params.args.map (·.arg) = ps) (h2 : params.vararg = none) (h3 : params.kwonlyargs = []) (h4 : params.kwarg = none) (nd : ps.Nodup) (hl : us.length = ps.length) :
    bindArgs (PySem.W.fnX name qual params body scope cl .none kV doc pm an cdv ct) ⟨us, []⟩ = pure (ps.zip us) := by
  have f : (ps.filter fun n => ((ps.zip us).lookup n).isNone) = [] := by
    rw [List.filter_eq_nil_iff]
    intro x hx
    rw [zip_lookup hl x hx]
    simp
  have sq : seqItems? .none = pure none := rfl
  unfold bindArgs
  simp only [List.forIn_nil, pure_bind, sq, Option.getD_none, List.forIn'_nil, h0, h1, h2, h3, h4, List.map_nil, List.nil_append, List.append_nil, hl, gt_iff_lt, Nat.lt_irrefl, decide_false, Bool.false_and, Bool.false_eq_true, if_false, List.length_nil, Nat.zero_sub, List.drop_nil, Nat.sub_zero, List.take_length, f, List.isEmpty_nil, Bool.not_true, zip_filter nd hl, List.zip_nil_right, List.zip_nil_left]
end Fp
end
section
set_option Elab.async false
set_option linter.all false
set_option maxRecDepth 100000
set_option autoImplicit false
set_option maxHeartbeats 1000000
/-! What the written part says: one look at the heap. -/
namespace Fp
open PySem PySem.Spec PyProof.Rows L2

/-! ### the text -/
/- what a law's text is, to the head -/
/-! ### looks at the heap -/
def Txt.M (t : Txt) : Gn := ⟨t.fns.map (·.name), t.cls.map (·.name), t.cons, t.free⟩
theorem nonB_ok {v : Value} (h : nonB v = true) : v = .none := by cases v <;> first | rfl | cases h
theorem fn_got {K : PySem.W.Frag} {a : Addr} {f : FnT} (e : fnU K a = f.val) (c : fnB K a = true) :
    ∃ oc od osl name qual kV doc pm an cdv ct, K.lookup a = some ⟨oc, od, .func (PySem.W.fnOf name qual f.args f.body f.sc .none kV doc pm an cdv ct), osl⟩ ∧ PySem.W.codeIn K cdv qual = true := by
  unfold fnU at e
  unfold fnB at c
  cases q : K.lookup a with
  | none => rw [q] at c; cases c
  | some o =>
    obtain ⟨oc, od, dt, osl⟩ := o
    rw [q] at c e
    cases dt with
    | func fd =>
      obtain ⟨n1, n2, n3, n4, n5, n6, n7, n8, n9, n10, n11, n12, n13, n14, n15⟩ := fd
      have e2 : (some (n3, n4, n5) : FnU) = some (f.args, .stmts f.body, f.sc) := e
      simp only [Option.some.injEq, Prod.mk.injEq] at e2
      obtain ⟨h3, h4, h5⟩ := e2
      obtain ⟨c1, c⟩ := and2 c
      obtain ⟨c2, c⟩ := and2 c
      obtain ⟨c3, c⟩ := and2 c
      obtain ⟨c4, c5⟩ := and2 c
      have h6 : n6 = mainGlobals := Nat.eq_of_beq_eq_true c2
      have h15 : n15 = builtinsNs := Nat.eq_of_beq_eq_true c3
      have h7 : n7 = [] := by
        cases n7 with
        | nil => rfl
        | cons _ _ => cases c4
      have h8 : n8 = .none := nonB_ok c5
      subst h3 h4 h5 h6 h7 h8 h15
      exact ⟨oc, od, osl, n1, n2, n9, n10, n11, n12, n13, n14, rfl, c1⟩
    | _ => cases c
theorem ini_got {K : PySem.W.Frag} {file : Str} {C a : Addr} {f : FnT} (e : fnU K a = f.val) (c : iniB K file C a = true) :
    ∃ oc od osl name qual kV doc pm an cda ct cc y ccl cdd vs ccs tf cl cld csl, K.lookup a = some ⟨oc, od, .func (PySem.W.fnX name qual f.args f.body f.sc [("__class__", cc)] .none kV doc pm an (.ref cda) ct), osl⟩ ∧ PySem.W.codeIn K (.ref cda) qual = true ∧
      K.lookup cda = some ⟨ccl, cdd, .fields vs, ccs⟩ ∧ vs[2]? = some (.str y tf) ∧ (file == y) = true ∧ K.lookup cc = some ⟨cl, cld, .cell (some (.ref C)), csl⟩ := by
  unfold fnU at e
  unfold iniB at c
  cases q : K.lookup a with
  | none => rw [q] at c; cases c
  | some o =>
    obtain ⟨oc, od, dt, osl⟩ := o
    rw [q] at c e
    cases dt with
    | func fd =>
      obtain ⟨n1, n2, n3, n4, n5, n6, n7, n8, n9, n10, n11, n12, n13, n14, n15⟩ := fd
      have e2 : (some (n3, n4, n5) : FnU) = some (f.args, .stmts f.body, f.sc) := e
      simp only [Option.some.injEq, Prod.mk.injEq] at e2
      obtain ⟨h3, h4, h5⟩ := e2
      dsimp only at c
      split at c
      · rename_i _ _ k cc cda
        obtain ⟨c1, c⟩ := and2 c
        obtain ⟨c2, c⟩ := and2 c
        obtain ⟨c3, c⟩ := and2 c
        obtain ⟨c4, c⟩ := and2 c
        obtain ⟨c5, c⟩ := and2 c
        obtain ⟨c6, c7⟩ := and2 c
        have h6 : n6 = mainGlobals := Nat.eq_of_beq_eq_true c3
        have h15 : n15 = builtinsNs := Nat.eq_of_beq_eq_true c4
        have h8 : n8 = .none := nonB_ok c5
        have hk : k = (("__class__" : String) : Str) := of_decide_eq_true c1
        split at c6
        · rename_i ccl cdd vs ccs q2
          split at c6
          · rename_i y tf q3
            split at c7
            · rename_i cl cld E csl q4
              have hE : E = C := Nat.eq_of_beq_eq_true c7
              subst h3 h4 h5 h6 h8 h15 hk hE
              exact ⟨oc, od, osl, n1, n2, n9, n10, n11, n12, cda, n14, cc, y, ccl, cdd, vs, ccs, tf, cl, cld, csl, rfl, c2, q2, q3, c6, q4⟩
            · cases c7
          · cases c6
        · cases c6
      · cases c
    | _ => cases c

/-! ### constants -/
mutual
theorem repB_ok {F : Fx} : ∀ {n : Nat} {u : Value} {d : D}, repB F.K n u d = true → ∃ v, RelV v u ∧ (∀ z G, Rep F z G v d) ∧ ∀ a xs, v = .ref a → d = .tup xs → ∃ o, F.K.lookup a = some o ∧ o.cls = .type "tuple" ∧ o.dict = none
  | 0, u, d, h => by simp [repB] at h
  | n + 1, u, d, h => by
    unfold repB at h
    split at h
    · exact ⟨.non, rfl, fun _ _ => .non, fun a xs e => by cases e⟩
    · rename_i b c _
      have e : b = c := eq_of_beq h
      subst e
      exact ⟨.bl b, rfl, fun _ _ => .bl b, fun a xs e => by cases e⟩
    · rename_i i t j _
      have e : i = j := of_decide_eq_true h
      subst e
      exact ⟨.int i, ⟨t, rfl⟩, fun _ _ => .int i, fun a xs e => by cases e⟩
    · rename_i x t y _
      have e : x = y := of_decide_eq_true h
      subst e
      exact ⟨.str x, ⟨t, rfl⟩, fun _ _ => .str x, fun a xs e => by cases e⟩
    · rename_i m a ds em
      cases em
      split at h
      · rename_i c its ep sl q
        obtain ⟨h1, h⟩ := and2 h
        obtain ⟨h2, h3⟩ := and2 h
        have h1 : c = "tuple" := of_decide_eq_true h1
        have h2 : its.size ≤ sizeLine := of_decide_eq_true h2
        subst h1
        obtain ⟨vs, rv, rp⟩ := repsB_ok (F := F) h3
        exact ⟨.ref a, rfl, fun z G => .tup (.inr ⟨_, its, ep, q, rfl, rfl, h2, rv⟩) (rp z G), fun b xs e _ => by
          cases e
          exact ⟨_, q, rfl, rfl⟩⟩
      · cases h
    · cases h
theorem repsB_ok {F : Fx} : ∀ {n : Nat} {us : List Value} {ds : List D}, repsB F.K n us ds = true → ∃ vs, Vals vs us ∧ ∀ z G, RepAll F z G vs ds
  | 0, us, ds, h => by simp [repsB] at h
  | n + 1, [], [], _ => ⟨[], .nil, fun _ _ => .nil⟩
  | n + 1, [], _ :: _, h => by simp [repsB] at h
  | n + 1, _ :: _, [], h => by simp [repsB] at h
  | n + 1, u :: us, d :: ds, h => by
    obtain ⟨h1, h2⟩ := and2 (show (repB F.K n u d && repsB F.K n us ds) = true by rw [repsB] at h; exact h)
    obtain ⟨v, rv, rp, _⟩ := repB_ok (F := F) h1
    obtain ⟨vs, rvs, rps⟩ := repsB_ok (F := F) h2
    exact ⟨v :: vs, .cons rv rvs, fun z G => .cons (rp z G) (rps z G)⟩
end
theorem conB_ok {K : PySem.W.Frag} : ∀ {xs : List Str} {ds : List D} {j : Nat} {x : Str} {d : D}, conB K xs ds = true → xs[j]? = some x → ds[j]? = some d → ∃ u, PySem.W.nsIn K mainGlobals x = some (some u) ∧ repB K 20 u d = true
  | [], _, j, x, d, _, h, _ => by simp at h
  | _ :: _, [], j, x, d, _, _, h => by simp at h
  | y :: xs, e :: ds, 0, x, d, c, h1, h2 => by
    simp at h1 h2
    subst h1 h2
    obtain ⟨c1, _⟩ := and2 c
    split at c1
    · rename_i u q
      exact ⟨u, q, c1⟩
    · cases c1
  | y :: xs, e :: ds, j + 1, x, d, c, h1, h2 => conB_ok (and2 c).2 (by simpa using h1) (by simpa using h2)
end Fp
end
section
set_option Elab.async false
set_option linter.all false
set_option maxRecDepth 100000
set_option autoImplicit false
set_option maxHeartbeats 1000000
/-! Error classes; the Hook. -/
namespace Fp
open PySem PySem.Spec PyProof.Rows L2 PySem.W

/-! ### an own error class -/
theorem excB_ok {K : Frag} {C : Addr} (q : excB K C = true) : ∃ nm q N bs bm sn sub ab col dd k0 k1 k2 k3 k5, K.lookup C = some (excClassObj nm q C N bs bm true sn sub ab col dd k0 k1 k2 k3 k5 "ValueError.__new__") ∧ PySem.HandSPX.refsVE bm = true := by
  unfold excB at q
  split at q
  · rename_i dd cd sl ho
    split at q
    · rename_i C' bm k0 k1 k2 k3 n k5 hm hs
      obtain ⟨q1, q⟩ := and2 q
      obtain ⟨q2, q⟩ := and2 q
      obtain ⟨q3, q⟩ := and2 q
      obtain ⟨q4, q5⟩ := and2 q
      obtain rfl : C' = C := eq_of_beq q1
      obtain rfl : n = "ValueError.__new__" := eq_of_beq q2
      obtain ⟨nm, bs, mro, ns, qn, hd, sn, sub, ab, col, del⟩ := cd
      dsimp only at hm q3 q4
      subst hm q4
      have hdel : del = false := by cases del <;> first | rfl | cases q3
      subst hdel
      have hsl : sl = #[k0, k1, k2, k3, some (.builtin "ValueError.__new__"), k5] := by
        obtain ⟨l⟩ := sl
        simp only at hs
        rw [hs]
      subst hsl
      exact ⟨nm, qn, ns, bs, bm, sn, sub, ab, col, dd, k0, k1, k2, k3, k5, ho, q5⟩
    · cases q
  · cases q
theorem oexB_ok {K : Frag} {C : Addr} (q : oexB K C = true) : OexC K C := by
  obtain ⟨q1, q⟩ := and2 q
  obtain ⟨q2, q⟩ := and2 q
  obtain ⟨q3, q⟩ := and2 q
  obtain ⟨q4, q5⟩ := and2 q
  exact ⟨excB_ok q1, He.eqO_ok q2, of_decide_eq_true q3, of_decide_eq_true q4, q5⟩
/- its __init__ -/
/- the classes, one under the other -/
/-! ### all of it -/
/- the addresses that are looked at -/
theorem obsRG_eq {t : Txt} {g : Addr → Option Obj} {s : Shared} (h : ∀ a, g a = s.heap.get? a) : obsRG t g = (hookR t).obs s := by
  have e : g = s.heap.get? := funext h
  rw [e] <;> rfl

/-! ### what follows -/
section
variable {t : Txt} {K : Frag} {h : Heap} {mg : Str → Option Value}
theorem SaysR.all (c : SaysR t K) : allB t K = true := congrArg (fun z : AlR => z.1) c
theorem glo_of (X : K.In h) (G : h.Ns mainGlobals mg) {x : Str} (c : gloB K x = true) : mg x = some (.ref (He.ga K x)) := mg_of X G (He.eqO_ok c)
theorem SaysR.fn (c : SaysR t K) {i : Nat} {f : FnT} (e : t.fns[i]? = some f) : gloB K f.name = true ∧
    ∃ oc od osl name qual kV doc pm an cdv ct, K.lookup (He.ga K f.name) = some ⟨oc, od, .func (fnOf name qual f.args f.body f.sc .none kV doc pm an cdv ct), osl⟩ ∧ codeIn K cdv qual = true := by
  have a := List.all_eq_true.mp (and2 c.all).1 f (List.mem_of_getElem? e)
  obtain ⟨a1, a2⟩ := and2 a
  have q : t.fns.map (fun f => fnU K (He.ga K f.name)) = t.fns.map FnT.val := congrArg (fun z : AlR => z.2.1) c
  have q2 : (t.fns.map fun f => fnU K (He.ga K f.name))[i]? = (t.fns.map FnT.val)[i]? := by rw [q]
  rw [List.getElem?_map, List.getElem?_map, e] at q2
  exact ⟨a1, fn_got (Option.some.inj q2) a2⟩
theorem map_mem_eq {α β : Type} {f g : α → β} : ∀ {l : List α} {x : α}, l.map f = l.map g → x ∈ l → f x = g x
  | [], _, _, h => by cases h
  | y :: l, x, e, h => by
    simp only [List.map_cons, List.cons.injEq] at e
    rcases List.mem_cons.mp h with q | q
    · rw [q]; exact e.1
    · exact map_mem_eq e.2 q
theorem SaysR.ini (c : SaysR t K) {d : ClT} {f : FnT} (m : d ∈ t.cls) (e : d.ini = some f) : fnU K (ia K (He.ga K d.name)) = f.val := by
  have q : (inis t.cls).map (fun c => fnU K (ia K (He.ga K c.1))) = (inis t.cls).map (fun c => c.2.val) := congrArg (fun z : AlR => z.2.2) c
  have mm : (d.name, f) ∈ inis t.cls := List.mem_filterMap.mpr ⟨d, m, by rw [e]; rfl⟩
  exact map_mem_eq q mm
end
end Fp
end
section
set_option Elab.async false
set_option linter.all false
set_option maxRecDepth 100000
set_option autoImplicit false
set_option maxHeartbeats 1000000
/-! The text alone; what the whole stands on. -/
namespace Fp
open PySem PySem.Spec PyProof.Rows L2 PySem.W

/-! ### a def's head -/
def argsB (a : Arguments) (ps : List Str) : Bool := a.posonlyargs.isEmpty && (a.vararg.isNone && (a.kwonlyargs.isEmpty && (a.kwarg.isNone && (decide (a.args.map (·.arg) = ps) && decide ps.Nodup))))
structure ArgsOk (a : Arguments) (ps : List Str) : Prop where
  h0 : a.posonlyargs = []
  h2 : a.vararg = none
  h3 : a.kwonlyargs = []
  h4 : a.kwarg = none
  h1 : a.args.map (·.arg) = ps
  nd : ps.Nodup
theorem argsB_ok {a : Arguments} {ps : List Str} (h : argsB a ps = true) : ArgsOk a ps := by
  obtain ⟨h0, h⟩ := and2 h
  obtain ⟨h2, h⟩ := and2 h
  obtain ⟨h3, h⟩ := and2 h
  obtain ⟨h4, h⟩ := and2 h
  obtain ⟨h1, h5⟩ := and2 h
  exact ⟨List.isEmpty_iff.mp h0, Option.isNone_iff_eq_none.mp h2, List.isEmpty_iff.mp h3, Option.isNone_iff_eq_none.mp h4, of_decide_eq_true h1, of_decide_eq_true h5⟩
theorem ArgsOk.binds {K : Frag} {name qual : Str} {params : Arguments} {body : List Stmt} {scope : Scope} {cl : List (Str × Addr)} {kV doc pm cdv ct : Value} {an : Option Addr} {ps : List Str} (A : ArgsOk params ps) :
    Binds K (fnX name qual params body scope cl .none kV doc pm an cdv ct) ps [] := Binds.all fun us hl => bind_all A.h0 A.h1 A.h2 A.h3 A.h4 A.nd hl
def scB (N ps : List Str) (sc : Scope) : Bool := decide (sc.kind = .function) && (!sc.isCoroutine && (!sc.isGenerator && (decide N.Nodup && (decide (N.take ps.length = ps) && ((ps.all fun x => decide (sc.names.lookup x = some .local) || decide (sc.names.lookup x = some .cell)) && (sc.names.all fun y => !decide (y.2 = .free)))))))
theorem scB_ok {N ps : List Str} {sc : Scope} (h : scB N ps sc = true) : FnScope N ps sc := by
  obtain ⟨h1, h⟩ := and2 h
  obtain ⟨h2, h⟩ := and2 h
  obtain ⟨h3, h⟩ := and2 h
  obtain ⟨h4, h⟩ := and2 h
  obtain ⟨h5, h⟩ := and2 h
  obtain ⟨h6, h7⟩ := and2 h
  refine ⟨of_decide_eq_true h1, not_of h2, not_of h3, of_decide_eq_true h4, of_decide_eq_true h5, fun x hx => ?_, fun y hy e => ?_⟩
  · rcases Bool.or_eq_true_iff.mp (List.all_eq_true.mp h6 x hx) with q | q
    · exact .inl (of_decide_eq_true q)
    · exact .inr (of_decide_eq_true q)
  · have := not_of (List.all_eq_true.mp h7 y hy)
    rw [decide_eq_true e] at this
    cases this

/-! ### an error class's __init__ -/
def setsB : List Str → List Stmt → Bool
  | [], [] => true
  | f :: fs, .Assign [.Attribute (.Name s _) g _] (.Name g' _) _ :: r => decide (s = "self") && (decide (g = f) && (decide (g' = f) && setsB fs r))
  | _, _ => false
theorem setsB_ok : ∀ {fs : List Str} {r : List Stmt}, setsB fs r = true → IsSets fs r
  | [], r, h => by
    unfold setsB at h
    split at h
    · exact .nil
    · rename_i e; cases e
    · cases h
  | f :: fs, r, h => by
    unfold setsB at h
    split at h
    · rename_i e; cases e
    · rename_i f' fs' s q1 g q2 g' q3 q4 r' e
      cases e
      obtain ⟨h1, h⟩ := and2 h
      obtain ⟨h2, h⟩ := and2 h
      obtain ⟨h3, h4⟩ := and2 h
      have h1 := of_decide_eq_true h1
      have h2 := of_decide_eq_true h2
      have h3 := of_decide_eq_true h3
      subst h1 h2 h3
      exact .cons (setsB_ok h4)
    · cases h
def iniScB (ns : List Str) (sc : Scope) : Bool := decide (sc.kind = .function) && (!sc.isCoroutine && (!sc.isGenerator && (decide (("self" : Str) :: ns).Nodup && (((("self" : Str) :: ns).all fun x => decide (sc.names.lookup x = some .local)) && ((sc.names.all fun y => !decide (y.2 = .cell)) && (decide (sc.names.lookup ("super" : Str) = some .globalImplicit) &&
  (decide (sc.names.lookup ("__class__" : Str) = some .free) && (sc.names.all fun y => !decide (y.2 = .free) || decide (y.1 = "__class__")))))))))
theorem iniScB_ok {ns : List Str} {sc : Scope} (h : iniScB ns sc = true) : IniScope ns sc := by
  obtain ⟨h1, h⟩ := and2 h
  obtain ⟨h2, h⟩ := and2 h
  obtain ⟨h3, h⟩ := and2 h
  obtain ⟨h4, h⟩ := and2 h
  obtain ⟨h5, h⟩ := and2 h
  obtain ⟨h6, h⟩ := and2 h
  obtain ⟨h7, h⟩ := and2 h
  obtain ⟨h8, h9⟩ := and2 h
  refine ⟨of_decide_eq_true h1, not_of h2, not_of h3, of_decide_eq_true h4, fun x hx => of_decide_eq_true (List.all_eq_true.mp h5 x hx), fun y hy e => ?_, of_decide_eq_true h7, of_decide_eq_true h8, fun y hy e => ?_⟩
  · have := not_of (List.all_eq_true.mp h6 y hy)
    rw [decide_eq_true e] at this
    cases this
  · rcases Bool.or_eq_true_iff.mp (List.all_eq_true.mp h9 y hy) with q | q
    · have := not_of q
      rw [decide_eq_true e] at this
      cases this
    · exact of_decide_eq_true q
def iniBodyB (ns : List Str) : List Stmt → Bool
  | .Expr (.Call (.Attribute (.Call (.Name su _) [] [] _) ini p2) [.Constant (.str _) _ _] [] p4) _ :: rest => decide (su = "super") && (decide (ini = "__init__") && (setsB ns rest && (p2.endLine == p4.line)))
  | _ => false
theorem iniBodyB_ok {ns : List Str} {b : List Stmt} (h : iniBodyB ns b = true) : ∃ p0 p1 p2 tx j p3 p4 p5 rest, b = .Expr (.Call (.Attribute (.Call (.Name "super" p0) [] [] p1) "__init__" p2) [.Constant (.str tx) j p3] [] p4) p5 :: rest ∧ IsSets ns rest ∧ (p2.endLine == p4.line) = true := by
  unfold iniBodyB at h
  split at h
  · rename_i su p0 p1 ini p2 tx j p3 p4 p5 rest
    obtain ⟨h1, h⟩ := and2 h
    obtain ⟨h2, h⟩ := and2 h
    obtain ⟨h3, h4⟩ := and2 h
    have h1 := of_decide_eq_true h1
    have h2 := of_decide_eq_true h2
    subst h1 h2
    exact ⟨p0, p1, p2, tx, j, p3, p4, p5, rest, rfl, setsB_ok h3, h4⟩
  · cases h
def iniW (f : FnT) (ns : List Str) : Bool := iniBodyB ns f.body && (argsB f.args (("self" : Str) :: ns) && (iniScB ns f.sc && ((((("self" : Str) :: ns).all fun x => !(x == ("__debug__" : Str)) && !(x == ("__classdict__" : Str)))) && (Nat.ble ns.length 800 && !ns.isEmpty))))

/-! ### the whole text -/
def clsW (t : Txt) : Bool := t.cls.all fun c => match c.ini with
  | none => c.fl.isEmpty
  | some f => iniW f c.fl
def topW (t : Txt) (P : Program) : Bool := clsW t && (Nat.beq t.T.sup.length t.cls.length && (decide (t.T.flds = t.cls.map fun c => c.fl.map keyOf) && (t.free.contains ("super" : Str) && ((t.free.all fun x => !decide (x = "__name__")) && (Nat.ble t.T.nf t.fns.length && (!(P.main.scope.names.lookup ("super" : Str)).isSome && (P.main.file : Str) == t.file))))))
def defW (t : Txt) (i : Nat) (f : FnT) : Bool := argsB f.args (f.args.args.map (·.arg)) && (match Tre.get 12 t.T.fns i with
  | some (some d) => (match d.prim with
    | 0 => Nat.beq d.np (f.args.args.map (·.arg)).length && (Nat.beq d.n (namesOf (f.args.args.map (·.arg)) f.body f.sc).length && (scB (namesOf (f.args.args.map (·.arg)) f.body f.sc) (f.args.args.map (·.arg)) f.sc &&
      Sm.ws t.M t.T t.fl 100 ⟨namesOf (f.args.args.map (·.arg)) f.body f.sc, f.sc, fun _ => true, true⟩ d.body))
    | _ => true)
  | _ => true)
def defsW (t : Txt) : Nat → List FnT → Bool
  | _, [] => true
  | i, f :: r => defW t i f && defsW t (i + 1) r
theorem defsW_at {t : Txt} : ∀ {l : List FnT} {i j : Nat} {f : FnT}, defsW t i l = true → l[j]? = some f → defW t (i + j) f = true
  | [], i, j, f, _, h => by simp at h
  | g :: r, i, 0, f, c, h => by
    simp at h
    subst h
    exact (and2 c).1
  | g :: r, i, j + 1, f, c, h => by
    have := defsW_at (and2 c).2 (show r[j]? = some f by simpa using h)
    rw [show i + (j + 1) = i + 1 + j by omega]
    exact this
def unsAt (t : Txt) (i : Nat) (f : FnT) : List Stmt := match Tre.get 12 t.T.fns i with
  | some (some d) => (match d.prim with
    | 0 => Sm.uns d.body
    | _ => f.body)
  | _ => f.body
def unsL (t : Txt) : Nat → List FnT → List (List Stmt)
  | _, [] => []
  | i, f :: r => unsAt t i f :: unsL t (i + 1) r
theorem unsL_at {t : Txt} : ∀ {l : List FnT} {i j : Nat} {f : FnT}, unsL t i l = l.map (·.body) → l[j]? = some f → unsAt t (i + j) f = f.body
  | [], i, j, f, _, h => by simp at h
  | g :: r, i, 0, f, c, h => by
    simp at h
    subst h
    simp only [unsL, List.map_cons, List.cons.injEq] at c
    exact c.1
  | g :: r, i, j + 1, f, c, h => by
    simp only [unsL, List.map_cons, List.cons.injEq] at c
    have := unsL_at c.2 (show r[j]? = some f by simpa using h)
    rw [show i + (j + 1) = i + 1 + j by omega]
    exact this

/-! ### the whole -/
def Txt.fx (t : Txt) (P : Program) (w : World) (K : Frag) (mg : Str → Option Value) (base : Heap) : Fx where
  P := P
  w := w
  K := K
  mg := mg
  base := base
  T := t.T
  fa := fun f => He.ga K (match t.fns[f]? with | some x => x.name | none => Str.empty)
  ca := fun c => He.ga K (match t.cls[c]? with | some x => x.name | none => Str.empty)
  fl := t.fl
section
variable {t : Txt} {P : Program} {w : World} {K : Frag} {h : Heap} {mg : Str → Option Value} {base : Heap}
theorem Txt.fx_fa {f : Nat} {x : FnT} (e : t.fns[f]? = some x) : (t.fx P w K mg base).fa f = He.ga K x.name := by
  show He.ga K (match t.fns[f]? with | some x => x.name | none => Str.empty) = _
  rw [e]
theorem Txt.fx_ca {c : Nat} {x : ClT} (e : t.cls[c]? = some x) : (t.fx P w K mg base).ca c = He.ga K x.name := by
  show He.ga K (match t.cls[c]? with | some x => x.name | none => Str.empty) = _
  rw [e]
theorem Txt.fl_at {c : Nat} {x : ClT} (e : t.cls[c]? = some x) : t.fl c = x.fl := by
  unfold Txt.fl
  rw [e]
theorem get_map {α β : Type} {f : α → β} {l : List α} {i : Nat} {y : β} (h : (l.map f)[i]? = some y) : ∃ x, l[i]? = some x ∧ f x = y := by
  rw [List.getElem?_map] at h
  exact Option.map_eq_some_iff.mp h
theorem cls_at {c : Nat} (hc : c < t.M.cls.length) : ∃ x, t.cls[c]? = some x := by
  have : c < t.cls.length := by simpa [Txt.M] using hc
  exact ⟨_, List.getElem?_eq_getElem this⟩
theorem gnd_of (X : K.In h) (G : h.Ns mainGlobals mg) (c : SaysR t K) (tw : topW t P = true) : Gnd (t.fx P w K mg base) t.M := by
  have a := c.all
  obtain ⟨a1, a⟩ := and2 a
  obtain ⟨a2, a⟩ := and2 a
  obtain ⟨a3, a⟩ := and2 a
  obtain ⟨a4, a⟩ := and2 a
  obtain ⟨a5, a6⟩ := and2 a
  obtain ⟨w1, tw⟩ := and2 tw
  obtain ⟨w2, tw⟩ := and2 tw
  obtain ⟨w3, tw⟩ := and2 tw
  obtain ⟨w4, tw⟩ := and2 tw
  obtain ⟨w5, tw⟩ := and2 tw
  obtain ⟨w6, tw⟩ := and2 tw
  obtain ⟨w7, w8⟩ := and2 tw
  have go : GnOk (t.fx P w K mg base) t.M := by
    refine ⟨fun f x e => ?_, fun i x e => ?_, fun j x d e1 e2 => ?_, fun x hx => ?_⟩
    · obtain ⟨y, e1, rfl⟩ := get_map e
      rw [Txt.fx_fa e1]
      exact glo_of X G (c.fn e1).1
    · obtain ⟨y, e1, rfl⟩ := get_map e
      rw [Txt.fx_ca e1]
      exact glo_of X G (and2 (List.all_eq_true.mp a2 y (List.mem_of_getElem? e1))).1
    · obtain ⟨u, q1, q2⟩ := conB_ok a4 e1 e2
      obtain ⟨v, rv, rp, kt⟩ := repB_ok (F := t.fx P w K mg base) q2
      exact ⟨v, u, mg_of X G q1, rv, rp, kt⟩
    · refine ⟨mg_none_of X G (He.eqO_ok (List.all_eq_true.mp a5 x hx)), fun e => ?_⟩
      have := not_of (List.all_eq_true.mp w5 x hx)
      rw [decide_eq_true e] at this
      cases this
  refine ⟨go, ?_, ?_⟩
  · refine ⟨?_, fun i j hi hj => ?_, fun i hi => ?_, fun i hi => ?_, fun i hi hne => ?_⟩
    · show t.T.sup.length = (t.cls.map (·.name)).length
      rw [List.length_map]
      exact Nat.eq_of_beq_eq_true w2
    · obtain ⟨x, ex⟩ := cls_at hi
      obtain ⟨y, ey⟩ := cls_at hj
      rw [Txt.fx_ca ex, Txt.fx_ca ey]
      have l1 : i ∈ List.range t.cls.length := by rw [List.mem_range]; simpa [Txt.M] using hi
      have l2 : j ∈ List.range t.cls.length := by rw [List.mem_range]; simpa [Txt.M] using hj
      have := List.all_eq_true.mp (List.all_eq_true.mp a3 i l1) j l2
      rw [ex, ey] at this
      exact of_decide_eq_true this
    · obtain ⟨x, ex⟩ := cls_at hi
      show t.T.flds[i]? = some ((t.fl i).map keyOf)
      rw [of_decide_eq_true w3, List.getElem?_map, ex, Txt.fl_at ex]
      rfl
    · obtain ⟨x, ex⟩ := cls_at hi
      obtain ⟨_, b⟩ := and2 (List.all_eq_true.mp a2 x (List.mem_of_getElem? ex))
      obtain ⟨_, b⟩ := and2 b
      obtain ⟨b2, b⟩ := and2 b
      obtain ⟨b3, b⟩ := and2 b
      rw [Txt.fx_ca ex]
      refine ⟨xfB_ok b2, fun f hf => ?_⟩
      have hf : f ∈ t.fl i := hf
      rw [Txt.fl_at ex] at hf
      exact He.eqO_ok (List.all_eq_true.mp b3 f hf)
    · obtain ⟨x, ex⟩ := cls_at hi
      have efl : (t.fx P w K mg base).fl i = x.fl := Txt.fl_at ex
      have mx := List.mem_of_getElem? ex
      obtain ⟨_, b⟩ := and2 (List.all_eq_true.mp a2 x mx)
      obtain ⟨b1, b⟩ := and2 b
      obtain ⟨_, b⟩ := and2 b
      obtain ⟨b3, b⟩ := and2 b
      have w1 := List.all_eq_true.mp w1 x mx
      rw [efl] at hne
      cases ei : x.ini with
      | none =>
        rw [ei] at w1
        exact absurd (List.isEmpty_iff.mp w1) hne
      | some f =>
        rw [ei] at w1 b
        obtain ⟨b4, b⟩ := and2 b
        obtain ⟨b5, b⟩ := and2 b
        obtain ⟨b6, b⟩ := and2 b
        obtain ⟨b7, b⟩ := and2 b
        obtain ⟨b8, b9⟩ := and2 b
        obtain ⟨v1, w1⟩ := and2 w1
        obtain ⟨v2, w1⟩ := and2 w1
        obtain ⟨v3, w1⟩ := and2 w1
        obtain ⟨v4, w1⟩ := and2 w1
        obtain ⟨v5, _⟩ := and2 w1
        obtain ⟨oc, od, osl, name, qual, kV, doc, pm, an, cda, ct, cc, y, ccl, cdd, vs, ccs, tf, cl, cld, csl, k1, k2, k3, k4, k5, k6⟩ := ini_got (c.ini mx ei) b6
        obtain ⟨p0, p1, p2, tx, j, p3, p4, p5, rest, hb, hs, hl⟩ := iniBodyB_ok v1
        have A := argsB_ok v2
        have O := oexB_ok b1
        obtain ⟨cd, hcd⟩ : ∃ cd, clsIn K (He.ga K x.name) = some cd := by
          obtain ⟨nm, q, N, bs, bm, sn, sub, ab, col, dd, k0, k1, k2, k3, k5, hC, _⟩ := O.cls
          unfold clsIn
          rw [hC]
          exact ⟨_, rfl⟩
        have hfile : ((P.main.file : Str) == y) = true := by
          have q1 := eq_of_beq w8
          have q2 := eq_of_beq k5
          rw [q1, q2]
          exact beq_self_eq_true y
        obtain ⟨n1, ns, efs⟩ : ∃ n1 ns, x.fl = n1 :: ns := by
          cases q : x.fl with
          | nil => exact absurd q hne
          | cons n1 ns => exact ⟨n1, ns, rfl⟩
        have hd : ∃ ar, (f.args.posonlyargs ++ f.args.args).head? = some ar ∧ ar.arg = "self" := by
          have := A.h1
          rw [A.h0, List.nil_append]
          cases q : f.args.args with
          | nil => rw [q] at this; cases this
          | cons ar r =>
            rw [q] at this
            simp only [List.map_cons, List.cons.injEq] at this
            exact ⟨ar, rfl, this.1⟩
        obtain ⟨ar, hd1, hd2⟩ := hd
        rw [efs] at v3 v4 v5 hs b3
        have iok := init_ok (CX := CX P w) (P := P) (w := w) (mg := mg) (base := base) (k := 0) k1 k2 hb hs hd1 hd2 (iniScB_ok v3) k3 k4 hfile k6 hcd (of_decide_eq_true b7) (mg_none_of X G (He.eqO_ok (List.all_eq_true.mp a5 "super" (List.contains_iff_mem.mp w4)))) (not_of w7) (He.eqO_ok b8) (of_decide_eq_true b9) (He.eqO_ok a6) O
          (fun g hg => He.eqO_ok (List.all_eq_true.mp b3 g hg)) (by have := Nat.le_of_ble_eq_true v5; simp at this; omega) hl fun z hz => by
            obtain ⟨z1, z2⟩ := and2 (List.all_eq_true.mp v4 z hz)
            exact ⟨not_of z1, not_of z2⟩
        refine ⟨?_, ia K (He.ga K x.name), fnX name qual f.args f.body f.sc [("__class__", cc)] .none kV doc pm an (.ref cda) ct, ?_, ?_, ?_, ?_, ?_⟩
        · rw [efl]
          have := A.nd
          exact (List.nodup_cons.mp this).2
        · rw [Txt.fx_ca ex]; exact O
        · rw [Txt.fx_ca ex]; exact He.eqO_ok b4
        · exact of_decide_eq_true b5
        · rw [efl]; exact A.binds
        · rw [Txt.fx_ca ex, efl, efs]; exact iok
  · show t.T.nf ≤ (t.fns.map (·.name)).length
    rw [List.length_map]
    exact Nat.le_of_ble_eq_true w6
/-- the defs -/
theorem defs_of (c : SaysR t K) (dw : defsW t 0 t.fns = true) (un : unsL t 0 t.fns = t.fns.map (·.body))
    (pr : ∀ f ft d, t.fns[f]? = some ft → Tre.get 12 t.T.fns f = some (some d) → d.prim ≠ 0 → ∀ n, Snd (t.fx P w K mg base) t.M n → FnsOk (t.fx P w K mg base) t.M n → ∀ fd ps, K.lookup (He.ga K ft.name) ≠ none →
      (∃ oc od osl name qual kV doc pm an cdv ct, fd = fnOf name qual ft.args ft.body ft.sc .none kV doc pm an cdv ct ∧ K.lookup (He.ga K ft.name) = some ⟨oc, od, .func fd, osl⟩ ∧ codeIn K cdv qual = true) → ps = ft.args.args.map (·.arg) →
      FnOk P w K mg base (CX P w) (2 * n + 4) (He.ga K ft.name) fd ps (spF (t.fx P w K mg base) fun ds g => (ev t.T (n + 1)).call f ds g)) : DefsOk (t.fx P w K mg base) t.M := by
  refine ⟨fun f hf => ?_⟩
  have hf' : f < t.fns.length := by simpa [Txt.M] using hf
  obtain ⟨ft, ef⟩ : ∃ ft, t.fns[f]? = some ft := ⟨_, List.getElem?_eq_getElem hf'⟩
  obtain ⟨_, oc, od, osl, name, qual, kV, doc, pm, an, cdv, ct, lk, hcd⟩ := c.fn ef
  have dw := defsW_at dw ef
  have un := unsL_at un ef
  rw [Nat.zero_add] at dw un
  obtain ⟨d1, d2⟩ := and2 dw
  refine ⟨_, ft.args.args.map (·.arg), ?_, (argsB_ok d1).binds (name := name) (qual := qual) (body := ft.body) (scope := ft.sc) (cl := []) (kV := kV) (doc := doc) (pm := pm) (cdv := cdv) (ct := ct) (an := an), ?_⟩
  · rw [Txt.fx_fa ef]
    show keepIn K (.ref (He.ga K ft.name)) = true
    unfold keepIn
    simp only [lk]
  · unfold unsAt at un
    cases eg : Tre.get 12 t.T.fns f with
    | none =>
      refine .inl fun n ds g => ?_
      cases n with
      | zero => rfl
      | succ n =>
        show stepC t.T (ev t.T n) f ds g = _
        simp only [stepC, eg]
    | some og =>
      cases og with
      | none =>
        refine .inl fun n ds g => ?_
        cases n with
        | zero => rfl
        | succ n =>
          show stepC t.T (ev t.T n) f ds g = _
          simp only [stepC, eg]
      | some d =>
        rw [eg] at d2 un
        by_cases p0 : d.prim = 0
        · refine .inr (.inl ⟨d, 100, namesOf (ft.args.args.map (·.arg)) ft.body ft.sc, name, qual, ft.args, ft.sc, .none, kV, doc, pm, cdv, ct, oc, an, od, osl, eg, p0, ?_⟩)
          simp only [p0] at d2 un
          obtain ⟨e1, d2⟩ := and2 d2
          obtain ⟨e2, d2⟩ := and2 d2
          obtain ⟨e3, e4⟩ := and2 d2
          refine ⟨Nat.eq_of_beq_eq_true e1, Nat.eq_of_beq_eq_true e2, ?_, ?_, hcd, scB_ok e3, e4⟩
          · rw [un]
          · rw [un, Txt.fx_fa ef]
            exact lk
        · refine .inr (.inr fun n S FO => ?_)
          rw [Txt.fx_fa ef]
          exact pr f ft d ef eg p0 n S FO _ _ (by rw [lk]; simp) ⟨oc, od, osl, name, qual, kV, doc, pm, an, cdv, ct, rfl, lk, hcd⟩ rfl
end
end Fp
end
section
set_option Elab.async false
set_option linter.all false
set_option maxRecDepth 100000
set_option autoImplicit false
set_option maxHeartbeats 1000000
/-! The def that draws, walked. -/
namespace Fp
open PySem PySem.Spec PyProof.Rows L2 PySem.W

/-- its shape, q its places in the text -/
def drawBody (q : Nat → Pos) : List Stmt := [
  .Assign [(.Name "_law_n" (q 0))] (.Subscript (.Name "_law_m" (q 1)) (.Constant (.str "spot") 0 (q 2)) (q 3)) (q 4),
  .Assign [(.Subscript (.Name "_law_m" (q 5)) (.Constant (.str "spot") 0 (q 6)) (q 7))] (.BinOp (.Name "_law_n" (q 8)) .Add (.Constant (.int 1) 0 (q 9)) (q 10)) (q 11),
  .If (.Compare (.Subscript (.Name "_law_m" (q 12)) (.Constant (.str "great") 0 (q 13)) (q 14)) [.NotEq] [(.List [] (q 15))] (q 16)) [.Assign [(.Name "_law_lot" (q 17))] (.Subscript (.Name "_law_m" (q 18)) (.Constant (.str "great") 0 (q 19)) (q 20)) (q 21), .Assign [(.Name "_law_here" (q 22))] (.BinOp (.Call (.Name "int" (q 23)) [(.Name "_law_n" (q 24))] [] (q 25)) .Mod (.Call (.Name "len" (q 26)) [(.Name "_law_lot" (q 27))] [] (q 28)) (q 29)) (q 30), .Assign [(.Name "_law_cell" (q 31))] (.Subscript (.Name "_law_lot" (q 32)) (.Name "_law_here" (q 33)) (q 34)) (q 35), .If (.Compare (.Name "_law_cell" (q 36)) [.Gt] [(.Constant (.int 0) 0 (q 37))] (q 38)) [.Assign [(.Subscript (.Name "_law_lot" (q 39)) (.Name "_law_here" (q 40)) (q 41))] (.BinOp (.Name "_law_cell" (q 42)) .FloorDiv (.Name "_law_limit" (q 43)) (q 44)) (q 45), .Return (some (.BinOp (.Call (.Name "int" (q 46)) [(.Name "_law_cell" (q 47))] [] (q 48)) .Mod (.Name "_law_limit" (q 49)) (q 50))) (q 51)] [] (q 52)] [] (q 53),
  .Assign [(.Name "_law_lot" (q 54))] (.Subscript (.Name "_law_m" (q 55)) (.Constant (.str "cells") 0 (q 56)) (q 57)) (q 58),
  .Return (some (.BinOp (.Call (.Name "int" (q 59)) [(.Call (.Name "_law_mixed" (q 60)) [(.Call (.Name "_law_mixed" (q 61)) [(.BinOp (.Subscript (.Name "_law_lot" (q 62)) (.BinOp (.Call (.Name "int" (q 63)) [(.Name "_law_n" (q 64))] [] (q 65)) .Mod (.Constant (.int 64) 0 (q 66)) (q 67)) (q 68)) .Add (.BinOp (.Constant (.int 31) 0 (q 69)) .Mult (.BinOp (.Name "_law_n" (q 70)) .FloorDiv (.Constant (.int 64) 0 (q 71)) (q 72)) (q 73)) (q 74)), (.Name "_law_n" (q 75))] [] (q 76)), (.BinOp (.Name "_law_n" (q 77)) .Add (.Constant (.int 7) 0 (q 78)) (q 79))] [] (q 80))] [] (q 81)) .Mod (.Name "_law_limit" (q 82)) (q 83))) (q 84)]
def drawPos : List (Nat × Nat × Nat × Nat) := [(0, 4, 0, 10), (0, 13, 0, 19), (0, 20, 0, 26), (0, 13, 0, 27), (0, 4, 0, 27), (1, 4, 1, 10), (1, 11, 1, 17), (1, 4, 1, 18), (1, 21, 1, 27), (1, 30, 1, 31), (1, 21, 1, 31), (1, 4, 1, 31), (2, 7, 2, 13), (2, 14, 2, 21), (2, 7, 2, 22), (2, 26, 2, 28), (2, 7, 2, 28), (3, 8, 3, 16), (3, 19, 3, 25), (3, 26, 3, 33), (3, 19, 3, 34), (3, 8, 3, 34), (4, 8, 4, 17), (4, 20, 4, 23), (4, 24, 4, 30), (4, 20, 4, 31), (4, 34, 4, 37), (4, 38, 4, 46), (4, 34, 4, 47), (4, 20, 4, 47), (4, 8, 4, 47), (5, 8, 5, 17), (5, 20, 5, 28), (5, 29, 5, 38), (5, 20, 5, 39), (5, 8, 5, 39), (6, 11, 6, 20), (6, 23, 6, 24), (6, 11, 6, 24), (7, 12, 7, 20), (7, 21, 7, 30), (7, 12, 7, 31), (7, 34, 7, 43), (7, 47, 7, 57), (7, 34, 7, 57), (7, 12, 7, 57), (8, 19, 8, 22), (8, 23, 8, 32), (8, 19, 8, 33), (8, 36, 8, 46), (8, 19, 8, 46), (8, 12, 8, 46), (6, 8, 8, 46), (2, 4, 8, 46), (9, 4, 9, 12), (9, 15, 9, 21), (9, 22, 9, 29), (9, 15, 9, 30), (9, 4, 9, 30), (10, 11, 10, 14), (10, 15, 10, 25), (10, 26, 10, 36), (10, 37, 10, 45), (10, 46, 10, 49), (10, 50, 10, 56), (10, 46, 10, 57), (10, 60, 10, 62), (10, 46, 10, 62), (10, 37, 10, 63), (10, 66, 10, 68), (10, 72, 10, 78), (10, 82, 10, 84), (10, 72, 10, 84), (10, 66, 10, 85), (10, 37, 10, 85), (10, 87, 10, 93), (10, 26, 10, 94), (10, 96, 10, 102), (10, 105, 10, 106), (10, 96, 10, 106), (10, 15, 10, 107), (10, 11, 10, 108), (10, 111, 10, 121), (10, 11, 10, 121), (10, 4, 10, 121)]

def posOf (ps : List (Nat × Nat × Nat × Nat)) (l : Nat) (i : Nat) : Pos := match ps[i]? with
  | some (a, b, c, d) => ⟨l + a, b, l + c, d⟩
  | none => ⟨0, 0, 0, 0⟩
def drawP : List Str := ["_law_m", "_law_limit"]
def drawN : List Str := ["_law_m", "_law_limit", "_law_cell", "_law_here", "_law_lot", "_law_n"]
/-- the names are the body's own; these are the module's -/
def ownSc (sc : Scope) (N gl : List Str) : Bool := (N.all fun x => decide (sc.names.lookup x = some .local)) && gl.all fun x => decide (sc.names.lookup x = some .globalImplicit)
/-- the state alone is changed -/
theorem Grow.onZ {z : List Addr} {G H H' : Hp} (sb : Sub G H) (hz : ∀ a ∈ z, G a = none) (k : ∀ a o, H a = some o → a ∉ z → H' a = some o) : Grow z G H z G H' where
  zl := .refl z
  same := k
  sub' := fun a o h => k a o (sb a o h) fun m => by rw [hz a m] at h; cases h
  sub := .refl G
  new := fun _ h => .inl h
  zG := hz
  zn := fun e c m => by rw [e] at m; cases m
def kvs (c r : Addr) (n : Int) : List (Key × V) := [(.inr "cells", .ref c), (.inr "great", .ref r), (.inr "spot", .int n)]
section
variable {F : Fx} {M : Gn} {n : Nat}
theorem atI_int {xs : List Int} {i : Int} {j : Nat} {c : Int} (h0 : 0 ≤ i) (h1 : i.toNat = j) (h2 : xs[j]? = some c) : L2.atI (xs.map V.int) i = some (.int c) := by
  have hl : j < xs.length := (List.getElem?_eq_some_iff.mp h2).1
  unfold L2.atI L2.ixN
  rw [List.length_map, if_pos h0, if_pos (by omega), h1]
  show (xs.map V.int)[j]? = _
  rw [List.getElem?_map, h2]
  rfl
theorem dps_intsN (k : Nat) : ∀ l : List Int, D.dps (l.map D.int) k = true
  | [] => by simp [D.dps]
  | i :: l => by
    simp only [List.map_cons, D.dps, D.dp]
    exact dps_intsN k l
theorem ne_nil (l : List Int) : cop .NotEq (.lst (l.map D.int)) (.lst []) = some (!l.isEmpty) := by
  have h : D.dp (.lst (l.map D.int)) 40 = true := by
    simp only [D.dp]
    exact dps_intsN 39 l
  have h2 : D.dp (.lst []) 40 = true := by simp [D.dp, D.dps]
  simp only [cop, eqO, h, h2, Bool.and_self, negO]
  cases l <;> simp [D.eqb, D.eqbs]
theorem ints_rep {z : List Addr} {G : Hp} : ∀ l : List Int, RepAll F z G (l.map V.int) (l.map D.int)
  | [] => .nil
  | i :: l => .cons (.int i) (ints_rep l)
theorem draw_ok (G0 : Gnd F M) (FO : FnsOk F M n) {a : Addr} {mx : Nat} {q : Nat → Pos} {sc : Scope} {oc : Value} {od an : Option Addr} {osl : Array (Option Value)} {name qual : Str} {params : Arguments} {dV kV doc pm cdv ct : Value}
    (lk : F.K.lookup a = some ⟨oc, od, .func (fnOf name qual params (drawBody q) sc dV kV doc pm an cdv ct), osl⟩) (hcd : codeIn F.K cdv qual = true) (S : FnScope drawN drawP sc) (hs : ownSc sc drawN ["int", "len", "_law_mixed"] = true)
    (hm : M.fns[mx]? = some ("_law_mixed" : Str)) (fi : ("int" : Str) ∈ M.free) (fl : ("len" : Str) ∈ M.free) {call : List D → Gs → Rs D} (hc : ∀ ds g, call ds g = match ds with
      | [.tok, .int l] => drawC (ev F.T n) mx l g
      | _ => .no) :
    FnOk F.P F.w F.K F.mg F.base (CX F.P F.w) (2 * n + 4) a (fnOf name qual params (drawBody q) sc dV kV doc pm an cdv ct) drawP (spF F call) := by
  obtain ⟨s1, s2⟩ := and2 hs
  have loc : ∀ x ∈ drawN, sc.names.lookup x = some .local := fun x hx => of_decide_eq_true (List.all_eq_true.mp s1 x hx)
  have glo : ∀ x ∈ (["int", "len", "_law_mixed"] : List Str), sc.names.lookup x = some .globalImplicit := fun x hx => of_decide_eq_true (List.all_eq_true.mp s2 x hx)
  have shape : ∀ {vs : List V} {H : Hp} {Q : VK} {E : XK}, spF F call vs H Q E → ∃ z G g m l, Sub G H ∧ (∀ a ∈ z, G a = none) ∧ RngAt F z g H ∧ vs = [.ref m, .int l] ∧ (∃ r, z = m :: r) ∧ Out F true z G H (drawC (ev F.T n) mx l g) Q E := by
    rintro vs H Q E ⟨z, G, g, ds, sb, hz, rng, rp, out⟩
    rw [hc] at out
    split at out
    · rename_i l
      cases rp with
      | cons r1 rp =>
        cases rp with
        | cons r2 rp =>
          cases rp
          cases r2
          cases r1 with
          | tok e => exact ⟨z, G, g, _, l, sb, hz, rng, rfl, ⟨_, e⟩, out⟩
    · exact out.elim
  refine fn_of lk hcd S (fun vs H Q E h => ?_) fun A outer s H vs Q E hr h => ?_
  · obtain ⟨z, G, g, m, l, _, _, _, rfl, _⟩ := shape h
    rfl
  obtain ⟨z, G, g, m, l, sb, hz, rng, rfl, ⟨zr, ez⟩, out⟩ := shape h
  generalize hX : cxOf (CX F.P F.w) F.P F.w F.K F.mg F.base drawN qual sc a cdv A outer s H E = X
  have eN : X.N = drawN := by subst hX; rfl
  have eS : X.env.scope = sc := by subst hX; rfl
  have eM : X.mg = F.mg := by subst hX; rfl
  have eK : X.K = F.K := by subst hX; rfl
  have C : Ctx F (2 * n + 3) X := by subst hX; exact ⟨rfl, rfl, rfl, rfl, rfl, S.nd, hr⟩
  have pass : Passes (CX F.P F.w) X (fun _ _ _ => False) := fun _ _ _ _ _ _ _ hc => by
    obtain ⟨_, _, _, _, _, _, _, _, _, _, _, _, z⟩ := hc
    exact z.elim
  have v : ∀ (i : Nat) {x : Str} {p : Pos}, drawN[i]? = some x → (x == ("__debug__" : Str)) = false → (x == ("__classdict__" : Str)) = false → PE X (.Name x p) (tVar i) := fun i {x p} e h1 h2 => pe_var (i := i) (by rw [eN]; exact e) (by rw [eS]; exact .inl (loc x (List.mem_of_getElem? e))) h1 h2
  have gl : ∀ x ∈ (["int", "len", "_law_mixed"] : List Str), Gl X x := fun x hx => by
    have e : X.env.scope.names.lookup x = some .globalImplicit := by rw [eS]; exact glo x hx
    exact e
  obtain ⟨fdm, psm, hkm, hbm, fm⟩ := FO mx (List.getElem?_eq_some_iff.mp hm).1
  have gm : X.mg "_law_mixed" = some (.ref (F.fa mx)) := by rw [eM]; exact G0.go.fns mx _ hm
  have hint : X.mg "int" = none := by rw [eM]; exact (G0.go.free _ fi).1
  have hlen : X.mg "len" = none := by rw [eM]; exact (G0.go.free _ fl).1
  have fm : FnOk X.prog X.w X.K X.mg X.base (CX F.P F.w) (2 * n + 2) (F.fa mx) fdm psm (spF F fun ds g => (ev F.T n).call mx ds g) := by rw [C.prog, C.w, C.K, C.mg, C.base]; exact fm
  rw [← C.K] at hkm hbm
  have rm : Room (2 * n + 2) X.A := C.room.mono (by omega)
  have hu : X.A.units + 1 < cLine := by have := C.un; omega
  have st : ∀ (i : Nat) {x : Str}, drawN[i]? = some x → Loc X.env.scope x := fun i {x} e => by rw [eS]; exact .inl (loc x (List.mem_of_getElem? e))
  have lo : ∀ (i : Nat) {x : Str}, drawN[i]? = some x → X.env.scope.names.lookup x = some .local := fun i {x} e => by rw [eS]; exact loc x (List.mem_of_getElem? e)
  have nd : X.N.Nodup := C.nd
  have gi : Gl X "int" := gl _ (by simp)
  have gn : Gl X "len" := gl _ (by simp)
  have gx : Gl X "_law_mixed" := gl _ (by simp)
  have b_int : bootBuiltins ("int" : Str) = some (.type "int") := bi_boot .int
  have b_len : bootBuiltins ("len" : Str) = some (.builtin "len") := bi_boot .len
  have v0 : ∀ {p : Pos}, PE X (.Name "_law_m" p) (tVar 0) := v 0 rfl (by decide) (by decide)
  have v1 : ∀ {p : Pos}, PE X (.Name "_law_limit" p) (tVar 1) := v 1 rfl (by decide) (by decide)
  have v2 : ∀ {p : Pos}, PE X (.Name "_law_cell" p) (tVar 2) := v 2 rfl (by decide) (by decide)
  have v3 : ∀ {p : Pos}, PE X (.Name "_law_here" p) (tVar 3) := v 3 rfl (by decide) (by decide)
  have v4 : ∀ {p : Pos}, PE X (.Name "_law_lot" p) (tVar 4) := v 4 rfl (by decide) (by decide)
  have v5 : ∀ {p : Pos}, PE X (.Name "_law_n" p) (tVar 5) := v 5 rfl (by decide) (by decide)
  /- where the state lies -/
  obtain ⟨c, r, e3, n1, n2, n3, h1, h2, h3, h4, h5, h6⟩ : ∃ c r, z = [m, c, r] ∧ m ≠ c ∧ m ≠ r ∧ c ≠ r ∧ H m = some (.dK (kvs c r g.spot)) ∧ H c = some (.lst (g.cells.map V.int)) ∧ H r = some (.lst (g.great.map V.int)) ∧ g.cells.length = 64 ∧ 0 ≤ g.spot ∧ g.great.length ≤ 64000 := by
    rcases rng with ⟨e, _⟩ | ⟨m', c, r, e, k⟩
    · rw [e] at ez; cases ez
    · rw [e] at ez
      cases ez
      exact ⟨c, r, e, k⟩
  have hl : intLe l 0 = false ∧ intLe 1073741824 l = false := by
    unfold drawC at out
    cases q : (intLe l 0 || intLe 1073741824 l) with
    | true => rw [q] at out; exact out.elim
    | false => exact Bool.or_eq_false_iff.mp q
  have l0 : 0 < l := by have := hl.1; rw [intLe_iff] at this; have := of_decide_eq_false this; omega
  have l1 : l < 1073741824 := by have := hl.2; rw [intLe_iff] at this; have := of_decide_eq_false this; omega
  have out : Out F true z G H (match drawG g l with
    | some (k, g) => .ok (.int k) g
    | none => (match g.cells[(g.spot % 64).toNat]? with
      | some c => (match (ev F.T n).call mx [.int (c + 31 * (g.spot / 64)), .int g.spot] { g with spot := g.spot + 1 } with
        | .ok (.int i) g1 => (match (ev F.T n).call mx [.int i, .int (g.spot + 7)] g1 with
          | .ok (.int j) g2 => .ok (.int (j % l)) g2
          | _ => .no)
        | _ => .no)
      | none => .no)) Q E := by
    unfold drawC at out
    rw [hl.1, hl.2] at out
    exact out
  have mz : m ∈ z := by rw [e3]; simp
  have cz : c ∈ z := by rw [e3]; simp
  have rz : r ∈ z := by rw [e3]; simp
  /- a mixed number -/
  obtain ⟨tf, hf, far⟩ : ∃ tf, PSs X ((drawBody q).drop 3) tf ∧ ∀ (σ : L2.St) (H2 : Hp), σ.length = 6 → σ[0]? = some (some (.ref m)) → σ[1]? = some (some (.int l)) → σ[5]? = some (some (.int g.spot)) → H2 m = some (.dK (kvs c r (g.spot + 1))) → H2 c = some (.lst (g.cells.map V.int)) →
      Grow z G H z G H2 → RngAt F z { g with spot := g.spot + 1 } H2 → drawG g l = none → tf { nx := fun _ H' => Q .non H', rt := Q } σ H2 := by
    refine ⟨_, (pss_cons (ps_set (hf := .inr (lo 4 rfl)) (i := 4) nd (by rw [eN]; rfl) (st 4 rfl) (pe_dget hu v0 pe_str (fun _ _ => rfl)))
      (pss_one (ps_ret (pe_op op_mod (pe_callTy call_int1 gi hint b_int (pa_cons (pe_call fm rm gx gm hkm hbm .nil pass (pa_cons (pe_call fm rm gx gm hkm hbm .nil pass (pa_cons (pe_op op_add (pe_ix ix_list v4 (pe_op op_mod (pe_callTy call_int1 gi hint b_int (pa_cons v5 pa_nil)) pe_int) (fun _ _ => rfl)) (pe_op op_mul pe_int (pe_op op_fdiv v5 pe_int))) (pa_cons v5 pa_nil))) (pa_cons (pe_op op_add v5 pe_int) pa_nil))) pa_nil)) v1)))), ?_⟩
    intro σ H2 sl s0 s1 s5 k1 k2 gr rn nog
    rw [nog] at out
    have hix : (g.spot % 64).toNat < g.cells.length := by omega
    have ec : g.cells[(g.spot % 64).toNat]? = some (g.cells[(g.spot % 64).toNat]) := List.getElem?_eq_getElem hix
    generalize g.cells[(g.spot % 64).toNat] = cv at ec
    rw [ec] at out
    simp only at out
    have t1 : (σ.set 4 (some (.ref c)))[1]? = some (some (.int l)) := by rw [List.getElem?_set_ne (by omega)]; exact s1
    have t5 : (σ.set 4 (some (.ref c)))[5]? = some (some (.int g.spot)) := by rw [List.getElem?_set_ne (by omega)]; exact s5
    have t4 : (σ.set 4 (some (.ref c)))[4]? = some (some (.ref c)) := by rw [List.getElem?_set_self (by omega)]
    refine ⟨.ref m, s0, m, .ref c, rfl, DGet.k (k := .inr "cells") k1, ?_⟩
    refine ⟨.ref c, t4, .int g.spot, t5, .inl ⟨g.spot, rfl, g.spot, 64, rfl, rfl, show (0 : Int) < 64 by decide, ?_⟩⟩
    refine ⟨c, g.cells.map V.int, g.spot % 64, .int cv, rfl, rfl, by rw [eK]; exact .inl (.inl k2), atI_int (by omega) rfl ec, ?_⟩
    refine ⟨.int g.spot, t5, g.spot, 64, rfl, rfl, ⟨show (0 : Int) < 64 by decide, show (64 : Int) < 1073741824 by decide⟩, 31, g.spot / 64, rfl, rfl, .inl ⟨by decide, by decide⟩, cv, 31 * (g.spot / 64), rfl, rfl, .int g.spot, t5, ?_⟩
    cases ca : (ev F.T n).call mx [.int (cv + 31 * (g.spot / 64)), .int g.spot] { g with spot := g.spot + 1 } with
    | no => rw [ca] at out; exact out.elim
    | ex _ _ _ => rw [ca] at out; exact out.elim
    | ok d g1 =>
      rw [ca] at out
      cases d with
      | int i =>
        refine ⟨z, G, { g with spot := g.spot + 1 }, [.int (cv + 31 * (g.spot / 64)), .int g.spot], gr.sub', gr.zG, rn, .cons (.int _) (.cons (.int _) .nil), ?_⟩
        dsimp only
        rw [ca]
        intro v z1 G1 H3 gr1 rn1 rp1
        have rp1 : Rep F z1 G1 v (.int i) := rp1
        cases rp1
        refine ⟨.int g.spot, t5, g.spot, 7, rfl, rfl, ?_⟩
        simp only at out
        cases cb : (ev F.T n).call mx [.int i, .int (g.spot + 7)] g1 with
        | no => rw [cb] at out; exact out.elim
        | ex _ _ _ => rw [cb] at out; exact out.elim
        | ok d g2 =>
          rw [cb] at out
          cases d with
          | int j =>
            refine ⟨z1, G1, g1, [.int i, .int (g.spot + 7)], gr1.sub', gr1.zG, rn1, .cons (.int _) (.cons (.int _) .nil), ?_⟩
            dsimp only
            rw [cb]
            intro v z2 G2 H4 gr2 rn2 rp2
            have rp2 : Rep F z2 G2 v (.int j) := rp2
            cases rp2
            exact .inl ⟨j, rfl, .int l, t1, j, l, rfl, rfl, l0, out _ z2 G2 H4 (gr.trans (gr1.trans gr2)) rn2 (show Rep F z2 G2 (.int (j % l)) (.int (j % l)) from .int _)⟩
          | _ => exact out.elim
      | _ => exact out.elim
  refine ⟨_, pss_cons (ps_set (hf := .inr (lo 5 rfl)) (i := 5) nd (by rw [eN]; rfl) (st 5 rfl) (pe_dget hu v0 pe_str (fun _ _ => rfl))) (pss_cons (ps_dput hu v0 pe_str (pe_op op_add v5 pe_int) rfl) (pss_cons (ps_if (pt_cmpR (cop_ok C .NotEq) (pe_dget hu v0 pe_str (fun _ _ => rfl)) (pe_lst pa_nil) rfl)
    (pss_cons (ps_set (hf := .inr (lo 4 rfl)) (i := 4) nd (by rw [eN]; rfl) (st 4 rfl) (pe_dget hu v0 pe_str (fun _ _ => rfl))) (pss_cons (ps_set (hf := .inr (lo 3 rfl)) (i := 3) nd (by rw [eN]; rfl) (st 3 rfl) (pe_op op_mod (pe_callTy call_int1 gi hint b_int (pa_cons v5 pa_nil)) (pe_callB call_len gn hlen b_len (pa_cons v4 pa_nil))))
      (pss_cons (ps_set (hf := .inr (lo 2 rfl)) (i := 2) nd (by rw [eN]; rfl) (st 2 rfl) (pe_ix ix_list v4 v3 (fun _ _ => rfl))) (pss_one (ps_if (pt_cmpR op_gt v2 pe_int rfl)
        (pss_cons (ps_asg (pe_op op_fdiv v2 v1) (pg_sub v4 v3 set_list)) (pss_one (ps_ret (pe_op op_mod (pe_callTy call_int1 gi hint b_int (pa_cons v2 pa_nil)) v1)))) pss_nil))))) pss_nil) hf)), ?_⟩
  refine ⟨.ref m, rfl, m, .int g.spot, rfl, DGet.k (k := .inr "spot") h1, ?_⟩
  refine ⟨.int g.spot, rfl, g.spot, 1, rfl, rfl, .ref m, rfl, m, _, rfl, DPut.k (k := .inr "spot") h1 (show 3 < sizeLine by decide), ?_⟩
  have eH : upd H m (.dK (L2.putK (kvs c r g.spot) (.inr "spot") (.int (g.spot + 1)))) = upd H m (.dK (kvs c r (g.spot + 1))) := rfl
  rw [eH]
  generalize hH1 : upd H m (.dK (kvs c r (g.spot + 1))) = H1
  have a1 : H1 m = some (.dK (kvs c r (g.spot + 1))) := by rw [← hH1, upd_same]
  have a2 : H1 c = some (.lst (g.cells.map V.int)) := by rw [← hH1, upd_ne (Ne.symm n1)]; exact h2
  have a3 : H1 r = some (.lst (g.great.map V.int)) := by rw [← hH1, upd_ne (Ne.symm n2)]; exact h3
  have a4 : ∀ b o, H b = some o → b ∉ z → H1 b = some o := fun b o hb nb => by rw [← hH1, upd_ne (fun q => nb (by rw [q]; exact mz))]; exact hb
  refine ⟨.ref m, rfl, m, .ref r, rfl, DGet.k (k := .inr "great") a1, Nat.zero_le _, fun p hp => ?_⟩
  have b1 : upd H1 p (.lst []) m = some (.dK (kvs c r (g.spot + 1))) := by rw [upd_ne (ne_of_none a1 hp)]; exact a1
  have b2 : upd H1 p (.lst []) c = some (.lst (g.cells.map V.int)) := by rw [upd_ne (ne_of_none a2 hp)]; exact a2
  have b3 : upd H1 p (.lst []) r = some (.lst (g.great.map V.int)) := by rw [upd_ne (ne_of_none a3 hp)]; exact a3
  have gr : Grow z G H z G (upd H1 p (.lst [])) := .onZ sb hz fun b o hb nb => by
    have := a4 b o hb nb
    rw [upd_ne (ne_of_none this hp)]; exact this
  have rn : RngAt F z { g with spot := g.spot + 1 } (upd H1 p (.lst [])) := .inr ⟨m, c, r, e3, n1, n2, n3, b1, b2, b3, h4, by show 0 ≤ g.spot + 1; omega, h6⟩
  have pp : upd H1 p (.lst []) p = some (.lst []) := upd_same
  generalize upd H1 p (.lst []) = H2 at b1 b2 b3 gr rn pp
  refine ⟨[], H2, .lst (g.great.map D.int), .lst [], !g.great.isEmpty, .refl _, .inl (.lst b3 (ints_rep g.great)), .inl (.lst pp .nil), ne_nil g.great, _, rfl, ?_⟩
  cases hg : g.great with
  | nil =>
    rw [if_neg (by simp)]
    exact far _ _ rfl rfl rfl rfl b1 b2 gr rn (by unfold drawG; rw [hg])
  | cons g0 gs =>
    rw [if_pos (by simp)]
    have len0 : 0 < g.great.length := by rw [hg]; simp
    have hix : (g.spot % (g.great.length : Int)).toNat < g.great.length := by
      have q1 := Int.emod_nonneg g.spot (show ((g.great.length : Int)) ≠ 0 by omega)
      have q2 := Int.emod_lt_of_pos g.spot (show (0 : Int) < (g.great.length : Int) by omega)
      omega
    have q1 := Int.emod_nonneg g.spot (show ((g.great.length : Int)) ≠ 0 by omega)
    have ec : g.great[(g.spot % (g.great.length : Int)).toNat]? = some (g.great[(g.spot % (g.great.length : Int)).toNat]) := List.getElem?_eq_getElem hix
    generalize g.great[(g.spot % (g.great.length : Int)).toNat] = cv at ec
    have eg : drawG g l = match intLe cv 0 with
        | true => none
        | false => some (cv % l, { g with spot := g.spot + 1, great := g.great.set (g.spot % (g.great.length : Int)).toNat (cv / l) }) := by
      unfold drawG
      rw [hg] at ec
      simp only [hg, ec]
      try (cases intLe cv 0 <;> rfl)
    refine ⟨.ref m, rfl, m, .ref r, rfl, DGet.k (k := .inr "great") b1, ?_⟩
    refine ⟨.int g.spot, rfl, .inl ⟨g.spot, rfl, .ref r, rfl, .ref r, (g.great.map V.int).length, rfl, .inl ⟨g.great.map V.int, .inl (.inl b3), rfl⟩, g.spot, ((g.great.map V.int).length : Int), rfl, rfl, by rw [List.length_map]; omega, ?_⟩⟩
    refine ⟨.ref r, rfl, .int (g.spot % ((g.great.map V.int).length : Int)), rfl, r, g.great.map V.int, g.spot % ((g.great.map V.int).length : Int), .int cv, rfl, rfl, .inl (.inl b3), atI_int (by rw [List.length_map]; omega) rfl (by rw [List.length_map]; exact ec), ?_⟩
    refine ⟨.int cv, rfl, cv, 0, rfl, rfl, _, rfl, ?_⟩
    by_cases hp : 0 < cv
    · dsimp only
      rw [if_pos (decide_eq_true hp)]
      have e0 : intLe cv 0 = false := by rw [intLe_iff]; exact decide_eq_false (by omega)
      rw [eg, e0] at out
      refine ⟨.int cv, rfl, .int l, rfl, cv, l, rfl, rfl, ⟨l0, l1⟩, .ref r, rfl, _, rfl, r, g.great.map V.int, _, (g.spot % (g.great.length : Int)).toNat, rfl, rfl, b3, ?_, ?_⟩
      · unfold L2.ixN
        rw [List.length_map, if_pos q1, if_pos (by omega)]
      · refine ⟨.int cv, rfl, .inl ⟨cv, rfl, .int l, rfl, cv, l, rfl, rfl, l0, ?_⟩⟩
        have em : (g.great.map V.int).set (g.spot % (g.great.length : Int)).toNat (.int (cv / l)) = (g.great.set (g.spot % (g.great.length : Int)).toNat (cv / l)).map V.int := by rw [List.map_set]
        rw [em]
        refine out _ z G _ (.onZ sb hz fun b o hb nb => ?_) (.inr ⟨m, c, r, e3, n1, n2, n3, ?_, ?_, upd_same, h4, by show 0 ≤ g.spot + 1; omega, by show (g.great.set _ _).length ≤ _; rw [List.length_set]; exact h6⟩) (show Rep F z G (.int (cv % l)) (.int (cv % l)) from .int _)
        · rw [upd_ne (fun q => nb (by rw [q]; exact rz))]; exact gr.same b o hb nb
        · rw [upd_ne n2]; exact b1
        · rw [upd_ne n3]; exact b2
    · dsimp only
      rw [if_neg (by simpa using hp)]
      have e0 : intLe cv 0 = true := by rw [intLe_iff]; exact decide_eq_true (by omega)
      exact far _ _ rfl rfl rfl rfl b1 b2 gr rn (by rw [eg, e0])
end
end Fp
end
section
set_option Elab.async false
set_option linter.all false
set_option maxRecDepth 100000
set_option autoImplicit false
set_option maxHeartbeats 1000000
/-! The def that folds, the def that begins, walked. -/
namespace Fp
open PySem PySem.Spec PyProof.Rows L2 PySem.W

/-! ### one block behind another -/
theorem execs_app (b : List Stmt) (env : Env) : ∀ a : List Stmt, execs (a ++ b) env = execs a env >>= fun f => match f with
    | .next => execs b env
    | f => pure f
  | [] => by simp [execs]
  | s :: a => by
    simp only [List.cons_append, execs, bind_assoc]
    congr 1
    funext f
    cases f <;> simp [execs_app b env a]
theorem pss_app {X : Cx} {a b : List Stmt} {t u : TS} (h1 : PSs X a t) (h2 : PSs X b u) : PSs X (a ++ b) (tSeq t u) := by
  refine ⟨fun pins s σ H D I h => ?_⟩
  rw [execs_app]
  refine wpAny_bind (thn (h1.run pins s σ H { D with nx := u D } I h) fun f s1 q => ?_)
  cases f with
  | next =>
    obtain ⟨σ', H', I', q⟩ := q
    exact h2.run pins s1 σ' H' D I' q
  | ret v => exact wpAny_pure q
  | brk => exact wpAny_pure q
  | cont => exact wpAny_pure q

section
variable {F : Fx} {M : Gn} {n : Nat}
/-- what a caller owns -/
def ptOf (z : List Addr) (G H : Hp) : Prv := ⟨fun a => (∃ o, H a = some o) ∧ G a = none ∧ a ∉ z, fun _ _ _ => False⟩
theorem rel_start {z : List Addr} {G H : Hp} {Pt : Prv} {vs : List V} {ds : List D} {N : List Str} {k : Nat} (sb : Sub G H) (hz : ∀ a ∈ z, G a = none) (hp : ∀ a, Pt.own a → G a = none ∧ (∃ o, H a = some o) ∧ a ∉ z) (rp : RepAll F z G vs ds) (hl : N.length = ds.length + k) :
    Rel F Pt z (ds.map Sl.sh ++ List.replicate k Sl.un) (L2.start N vs) G H := by
  have hv : vs.length = ds.length := rp.length
  have get : ∀ (i : Nat) (sl : Sl), (ds.map Sl.sh ++ List.replicate k Sl.un)[i]? = some sl → (∃ x, sl = .sh x ∧ ds[i]? = some x ∧ i < ds.length) ∨ sl = .un := by
    intro i sl e
    by_cases hi : i < ds.length
    · rw [List.getElem?_append_left (by simpa using hi), List.getElem?_map] at e
      cases q : ds[i]? with
      | none => rw [q] at e; cases e
      | some x => rw [q] at e; cases e; exact .inl ⟨x, rfl, rfl, hi⟩
    · rw [List.getElem?_append_right (by simpa using hi), List.getElem?_replicate] at e
      split at e
      · cases e; exact .inr rfl
      · cases e
  refine ⟨sb, hz, ?_, fun i x e => ?_, fun i x e => ?_, fun i j x y a e1 _ _ _ => ?_, hp, fun i c fs e => ?_⟩
  · unfold L2.start
    simp only [List.length_append, List.length_map, List.length_replicate]
    omega
  · rcases get i _ e with ⟨y, e1, e2, hi⟩ | e1
    · cases e1
      obtain ⟨v, v1, v2⟩ := rp.get e2
      refine ⟨v, ?_, v2⟩
      unfold L2.start
      rw [List.getElem?_append_left (by rw [List.length_map, hv]; exact hi), List.getElem?_map, v1]
      rfl
    · cases e1
  · rcases get i _ e with ⟨y, e1, _⟩ | e1 <;> cases e1
  · rcases get i _ e1 with ⟨y, e2, _⟩ | e2 <;> cases e2
  · rcases get i _ e with ⟨y, e1, _⟩ | e1 <;> cases e1

/-! ### the def that folds -/
/-- its list is new -/
def spFo (F : Fx) (n k i : Nat) (pre : List Sm) : Sp := fun vs H Q _ => ∃ z G g ns a, Sub G H ∧ (∀ a ∈ z, G a = none) ∧ RngAt F z g H ∧ vs = [.ref a] ∧ SqL F.K G a (ns.map V.int) ∧
  ∃ ρ g' cs, (ev F.T n).ss (.sh (.scr ns) :: List.replicate k .un) g pre = .ok (.next ρ) g' ∧ ρ[i]? = some (.ow (.lst cs)) ∧
    ∀ p us z' G' H', Grow z G H z' G' H' → RngAt F z' g' H' → H p = none → H' p = some (.lst us) → p ∉ z' → G' p = none → RepAll F z' G' us cs → Q (.ref p) H'
theorem folded_ok (S : Snd F M n) {f : Addr} {k i m : Nat} {pre : List Sm} {N : List Str} {x y : Str} {p p' : Pos} {sc : Scope} {oc : Value} {od an : Option Addr} {osl : Array (Option Value)} {name qual : Str} {params : Arguments} {dV kV doc pm cdv ct : Value}
    (lk : F.K.lookup f = some ⟨oc, od, .func (fnOf name qual params (Sm.uns pre ++ [.Return (some (.Name x p)) p']) sc dV kV doc pm an cdv ct), osl⟩) (hcd : codeIn F.K cdv qual = true) (Sc : FnScope N [y] sc) (hN : N.length = k + 1)
    (hv : nameOk ⟨N, sc, fun _ => true, true⟩ i x = true) (hw : Sm.ws M F.T F.fl m ⟨N, sc, fun _ => true, true⟩ pre = true) :
    FnOk F.P F.w F.K F.mg F.base (CX F.P F.w) (2 * n + 3) f (fnOf name qual params (Sm.uns pre ++ [.Return (some (.Name x p)) p']) sc dV kV doc pm an cdv ct) [y] (spFo F n k i pre) := by
  refine fn_of lk hcd Sc (fun vs H Q E h => ?_) fun A outer s H vs Q E hr h => ?_
  · obtain ⟨z, G, g, ns, a, _, _, _, rfl, _⟩ := h
    rfl
  obtain ⟨z, G, g, ns, a, sb, hz, rng, rfl, sq, ρ1, g1, cs, ev1, ho, fin⟩ := h
  generalize hX : cxOf (CX F.P F.w) F.P F.w F.K F.mg F.base N qual sc f cdv A outer s H E = X
  have B : BCtx F (2 * n + 2) ⟨N, sc, fun _ => true, true⟩ X (fun cls d _ H => E cls d H) := by
    subst hX
    exact ⟨⟨rfl, rfl, rfl, rfl, rfl, Sc.nd, hr⟩, ⟨rfl, rfl, rfl, rfl⟩, takes_of rfl rfl rfl rfl, passes_of rfl, rfl, rfl⟩
  have pss := S.s (Pt := ptOf z G H) m pre B hw (.sh (.scr ns) :: List.replicate k .un) _ (.refl _)
  refine ⟨_, pss_app pss (pss_one (ps_ret (var_of B.O hv p))), z, G, g, ?_, rng, ?_⟩
  · exact rel_start (ds := [.scr ns]) sb hz (fun a p => ⟨p.2.1, p.1, p.2.2⟩) (.cons (.scr sq) .nil) (by rw [hN]; simp; omega)
  · dsimp only
    rw [ev1]
    intro σ' z' G' H' gr rel' rn
    obtain ⟨b, hb, gA, nz, np, us, hus, rus⟩ := rel'.ow i _ ho
    refine ⟨.ref b, hb, fin b us z' G' H' (gr.toGrow sb fun a h1 h2 h3 => ⟨h1, h2, h3⟩) rn ?_ hus nz gA rus⟩
    cases eh : H b with
    | none => rfl
    | some o =>
      refine absurd ⟨⟨o, eh⟩, ?_, ?_⟩ np
      · cases eg : G b with
        | none => rfl
        | some o' => rw [gr.sub b o' eg] at gA; cases gA
      · intro mz
        rcases gr.zl with w | w
        · rw [w] at mz; cases mz
        · rw [w] at nz; exact nz mz

/-! ### the def that begins -/
def begunBody (q : Nat → Pos) (e : Expr) : List Stmt := [
  .Assign [.Name "_law_m" (q 0)] (.Dict [some (.Constant (.str "cells") 0 (q 1)), some (.Constant (.str "great") 0 (q 2)), some (.Constant (.str "spot") 0 (q 3))] [.Call (.Name "_law_folded" (q 4)) [.Name "_law_script" (q 5)] [] (q 6), .List [] (q 7), .Constant (.int 0) 0 (q 8)] (q 9)) (q 10),
  .Assign [.Subscript (.Name "_law_m" (q 11)) (.Constant (.str "great") 0 (q 12)) (q 13)] e (q 14),
  .Return (some (.Name "_law_m" (q 15))) (q 16)]
theorem intsD_ok : ∀ {ds : List D} {is : List Int}, intsD ds = some is → ds = is.map D.int
  | [], is, h => by
    simp only [intsD, Option.some.injEq] at h
    subst h; rfl
  | .int i :: r, is, h => by
    simp only [intsD] at h
    cases q : intsD r with
    | none => rw [q] at h; cases h
    | some js =>
      rw [q] at h
      cases h
      rw [List.map_cons, ← intsD_ok q]
  | .non :: _, _, h => by simp [intsD] at h
  | .bl _ :: _, _, h => by simp [intsD] at h
  | .str _ :: _, _, h => by simp [intsD] at h
  | .tup _ :: _, _, h => by simp [intsD] at h
  | .lst _ :: _, _, h => by simp [intsD] at h
  | .dic _ _ :: _, _, h => by simp [intsD] at h
  | .fn _ :: _, _, h => by simp [intsD] at h
  | .exc _ _ :: _, _, h => by simp [intsD] at h
  | .tok :: _, _, h => by simp [intsD] at h
  | .scr _ :: _, _, h => by simp [intsD] at h
theorem reps_int {z : List Addr} {G : Hp} : ∀ {is : List Int} {us : List V}, RepAll F z G us (is.map D.int) → us = is.map V.int
  | [], us, h => by cases h; rfl
  | i :: is, us, h => by
    cases h with
    | cons a b =>
      cases a
      rw [reps_int b, List.map_cons]
/-- a begun state, as the evaluator has it -/
def BegR (F : Fx) (n kf i kb : Nat) (pre : List Sm) (e : Xp) (ds : List D) (g : Gs) (r : Rs D) : Prop := ∃ ns ρ g1 cs cells gs g2 great, ds = [.scr ns] ∧ g.cells = [] ∧ (ev F.T n).ss (.sh (.scr ns) :: List.replicate kf .un) g pre = .ok (.next ρ) g1 ∧ ρ[i]? = some (.ow (.lst cs)) ∧ intsD cs = some cells ∧ cells.length = 64 ∧
  (ev F.T n).e (.sh (.scr ns) :: List.replicate kb .un) g1 e = .ok (.lst gs) g2 ∧ intsD gs = some great ∧ great.length ≤ 64000 ∧ r = .ok .tok ⟨cells, great, 0⟩
theorem begun_ok (G0 : Gnd F M) (S : Snd F M n) {a : Addr} {q : Nat → Pos} {e : Xp} {N : List Str} {m fo kf i kb : Nat} {pre : List Sm} {ffd : FuncData} {sc : Scope} {oc : Value} {od an : Option Addr} {osl : Array (Option Value)} {name qual : Str} {params : Arguments} {dV kV doc pm cdv ct : Value}
    (lk : F.K.lookup a = some ⟨oc, od, .func (fnOf name qual params (begunBody q e.un) sc dV kV doc pm an cdv ct), osl⟩) (hcd : codeIn F.K cdv qual = true) (Sc : FnScope N ["_law_script"] sc) (hN0 : N[0]? = some ("_law_script" : Str)) (hN1 : N[1]? = some ("_law_m" : Str)) (hNl : N.length = kb + 1)
    (hs : ownSc sc ["_law_script", "_law_m"] ["_law_folded"] = true) (he : Xp.w M F.T m ⟨N, sc, fun _ => true, true⟩ false e = true) (hf : fresh e = true) (hfo : M.fns[fo]? = some ("_law_folded" : Str))
    (ffn : FnOk F.P F.w F.K F.mg F.base (CX F.P F.w) (2 * n + 3) (F.fa fo) ffd ["_law_script"] (spFo F n kf i pre)) (hkf : keepIn F.K (.ref (F.fa fo)) = true) (hbf : Binds F.K ffd ["_law_script"] [])
    {call : List D → Gs → Rs D} (hc : ∀ ds g, call ds g = .no ∨ BegR F n kf i kb pre e ds g (call ds g)) :
    FnOk F.P F.w F.K F.mg F.base (CX F.P F.w) (2 * n + 4) a (fnOf name qual params (begunBody q e.un) sc dV kV doc pm an cdv ct) ["_law_script"] (spF F call) := by
  obtain ⟨s1, s2⟩ := and2 hs
  have loc : ∀ x ∈ (["_law_script", "_law_m"] : List Str), sc.names.lookup x = some .local := fun x hx => of_decide_eq_true (List.all_eq_true.mp s1 x hx)
  have glo : ∀ x ∈ (["_law_folded"] : List Str), sc.names.lookup x = some .globalImplicit := fun x hx => of_decide_eq_true (List.all_eq_true.mp s2 x hx)
  have shape : ∀ {vs : List V} {H : Hp} {Q : VK} {E : XK}, spF F call vs H Q E → ∃ G g b ns ρ g1 cs cells gs g2 great, Sub G H ∧ g.cells = [] ∧ vs = [.ref b] ∧ SqL F.K G b (ns.map V.int) ∧ (ev F.T n).ss (.sh (.scr ns) :: List.replicate kf .un) g pre = .ok (.next ρ) g1 ∧ ρ[i]? = some (.ow (.lst cs)) ∧ intsD cs = some cells ∧ cells.length = 64 ∧
      (ev F.T n).e (.sh (.scr ns) :: List.replicate kb .un) g1 e = .ok (.lst gs) g2 ∧ intsD gs = some great ∧ great.length ≤ 64000 ∧ Out F true [] G H (.ok .tok ⟨cells, great, 0⟩) Q E := by
    rintro vs H Q E ⟨z, G, g, ds, sb, hz, rng, rp, out⟩
    rcases hc ds g with q | ⟨ns, ρ, g1, cs, cells, gs, g2, great, rfl, c0, e1, e2, e3, e4, e5, e6, e7, e8⟩
    · rw [q] at out
      exact out.elim
    · rw [e8] at out
      have ez : z = [] := by
        rcases rng with w | ⟨_, _, _, _, _, _, _, _, _, _, w, _⟩
        · exact w.1
        · rw [c0] at w; cases w
      subst ez
      cases rp with
      | cons r1 rp =>
        cases rp
        cases r1 with
        | scr sq => exact ⟨G, g, _, ns, ρ, g1, cs, cells, gs, g2, great, sb, c0, rfl, sq, e1, e2, e3, e4, e5, e6, e7, out⟩
  refine fn_of lk hcd Sc (fun vs H Q E h => ?_) fun A outer s H vs Q E hr h => ?_
  · obtain ⟨G, g, b, ns, ρ, g1, cs, cells, gs, g2, great, _, _, rfl, _⟩ := shape h
    rfl
  obtain ⟨G, g, b, ns, ρ1, g1, cs, cells, gs, g2, great, sb, c0, rfl, sq, e1, e2, e3, e4, e5, e6, e7, out⟩ := shape h
  generalize hX : cxOf (CX F.P F.w) F.P F.w F.K F.mg F.base N qual sc a cdv A outer s H E = X
  have B : BCtx F (2 * n + 2) ⟨N, sc, fun _ => true, true⟩ X (fun cls d _ H => E cls d H) := by
    subst hX
    exact ⟨⟨rfl, rfl, rfl, rfl, rfl, Sc.nd, hr.mono (by omega)⟩, ⟨rfl, rfl, rfl, rfl⟩, takes_of rfl rfl rfl rfl, passes_of rfl, rfl, rfl⟩
  have C3 : Ctx F (2 * n + 3) X := by subst hX; exact ⟨rfl, rfl, rfl, rfl, rfl, Sc.nd, hr⟩
  have C := B.C
  have eN : X.N = N := by subst hX; rfl
  have eS : X.env.scope = sc := by subst hX; rfl
  have pass : Passes (CX F.P F.w) X (fun _ _ _ => False) := fun _ _ _ _ _ _ _ hc => by
    obtain ⟨_, _, _, _, _, _, _, _, _, _, _, _, z⟩ := hc
    exact z.elim
  have gf : Gl X "_law_folded" := by
    have e : X.env.scope.names.lookup ("_law_folded" : Str) = some .globalImplicit := by rw [eS]; exact glo _ (by simp)
    exact e
  have gm : X.mg "_law_folded" = some (.ref (F.fa fo)) := by rw [C.mg]; exact G0.go.fns fo _ hfo
  have ffn : FnOk X.prog X.w X.K X.mg X.base (CX F.P F.w) (2 * n + 3) (F.fa fo) ffd ["_law_script"] (spFo F n kf i pre) := by rw [C.prog, C.w, C.K, C.mg, C.base]; exact ffn
  rw [← C.K] at hkf hbf
  have hu : X.A.units + 1 < cLine := by have := C.un; omega
  have v0 : ∀ {p : Pos}, PE X (.Name "_law_script" p) (tVar 0) := pe_var (i := 0) (by rw [eN]; exact hN0) (by rw [eS]; exact .inl (loc _ (by simp)))
  have v1 : ∀ {p : Pos}, PE X (.Name "_law_m" p) (tVar 1) := pe_var (i := 1) (by rw [eN]; exact hN1) (by rw [eS]; exact .inl (loc _ (by simp)))
  have lm : X.env.scope.names.lookup ("_law_m" : Str) = some .local := by rw [eS]; exact loc _ (by simp)
  have nw := S.nw (Pt := ⟨fun _ => False, fun _ _ _ => False⟩) (ρ := .sh (.scr ns) :: List.replicate kb .un) m e C B.O B.tk hf he
  refine ⟨_, pss_cons (ps_set (hf := .inr lm) (i := 1) C.nd (by rw [eN]; exact hN1) (.inl lm) (pe_disp (pps_cons pe_str (pe_call ffn C3.room gf gm hkf hbf .nil pass (pa_cons v0 pa_nil)) (pps_cons pe_str (pe_lst pa_nil) (pps_cons pe_str pe_int pps_nil))) rfl rfl (by simp) (show 3 ≤ 15 by decide)))
    (pss_cons (ps_asg nw (pg_sub v1 pe_str (L2.set_dict hu)) (sw_sub e (.Name "_law_m" (q 11)) (.Constant (.str "great") 0 (q 12)) (q 13) (q 14).line X.env) (swS_none e (.Name "_law_m" (q 11)) (.Constant (.str "great") 0 (q 12)) (q 13) X.env) rfl) (pss_one (ps_ret v1))), ?_⟩
  /- the dict stands empty -/
  intro mA hmA
  have hd : ∀ c, upd H mA (.dK []) c = none → H c = none := fun c hc => by
    by_cases q : c = mA
    · rw [q]; exact hmA
    · rw [upd_ne q] at hc; exact hc
  have hd2 : ∀ c o, H c = some o → upd H mA (.dK []) c = some o := fun c o hc => by rw [upd_ne (ne_of_none hc hmA)]; exact hc
  have gmA : G mA = none := by
    cases q : G mA with
    | none => rfl
    | some o => rw [sb mA o q] at hmA; cases hmA
  refine ⟨.ref b, rfl, [], G, g, ns, b, sb.new hmA, (fun _ h => by cases h), .inl ⟨rfl, c0⟩, rfl, sq, ρ1, g1, cs, e1, e2, ?_⟩
  intro cA us z1 G1 H1 gr rn n1 h1 nz g1A rus
  have eus := reps_int (by rw [← intsD_ok e3]; exact rus)
  subst eus
  have m1 : H1 mA = some (.dK []) := gr.same _ _ upd_same (by simp)
  have mz : mA ∉ z1 := fun q => by have := gr.zn rfl mA q; rw [upd_same] at this; cases this
  have gm1 : G1 mA = none := by
    cases q : G1 mA with
    | none => rfl
    | some o =>
      rcases gr.new mA (by rw [q]; simp) with w | w
      · exact absurd gmA w
      · rw [upd_same] at w; cases w
  refine ⟨Nat.zero_le _, fun r0 hr0 => ?_⟩
  have mr : mA ≠ r0 := ne_of_none m1 hr0
  have cr : cA ≠ r0 := ne_of_none h1 hr0
  have mc : mA ≠ cA := fun q => by rw [← q, upd_same] at n1; cases n1
  refine ⟨by rw [upd_ne mr]; exact m1, [(.inr "cells", .ref cA), (.inr "great", .ref r0), (.inr "spot", .int 0)], rfl, show 3 ≤ 15 by decide, ?_⟩
  have eK : mergeK [] [((.inr "cells" : Key), V.ref cA), (.inr "great", .ref r0), (.inr "spot", .int 0)] = kvs cA r0 0 := rfl
  rw [eK]
  generalize hH3 : upd (upd H1 r0 (.lst [])) mA (.dK (kvs cA r0 0)) = H3
  have k3 : ∀ c o, H1 c = some o → c ≠ mA → H3 c = some o := fun c o hc n => by rw [← hH3, upd_ne n, upd_ne (ne_of_none hc hr0)]; exact hc
  have m3 : H3 mA = some (.dK (kvs cA r0 0)) := by rw [← hH3, upd_same]
  have c3 : H3 cA = some (.lst (cells.map V.int)) := k3 _ _ h1 (Ne.symm mc)
  have sb3 : Sub G1 H3 := fun c o hc => k3 c o (gr.sub' c o hc) (fun q => by rw [q, gm1] at hc; cases hc)
  have rn3 : RngAt F z1 g1 H3 := by
    rcases rn with w | ⟨m', c', r', w, w1, w2, w3, w4, w5, w6, w7⟩
    · exact .inl w
    · have ne : ∀ x ∈ z1, x ≠ mA := fun x hx q => mz (by rw [← q]; exact hx)
      rw [w] at ne
      exact .inr ⟨m', c', r', w, w1, w2, w3, k3 _ _ w4 (ne _ (by simp)), k3 _ _ w5 (ne _ (by simp)), k3 _ _ w6 (ne _ (by simp)), w7⟩
  have sqG : SqL F.K G1 b (ns.map V.int) := sqLSub gr.sub sq
  have rel : Rel F ⟨fun _ => False, fun _ _ _ => False⟩ z1 (.sh (.scr ns) :: List.replicate kb .un) ((L2.start N [.ref b]).set 1 (some (.ref mA))) G1 H3 := by
    have r0' := rel_start (F := F) (Pt := ⟨fun _ => False, fun _ _ _ => False⟩) (ds := [.scr ns]) (vs := [.ref b]) (N := N) (k := kb) sb3 gr.zG (fun _ h => h.elim) (.cons (.scr sqG) .nil) (by rw [hNl]; simp; omega)
    have get : ∀ (j : Nat) (sl : Sl), (.sh (.scr ns) :: List.replicate kb .un : List Sl)[j]? = some sl → j = 0 ∨ sl = .un := by
      intro j sl e
      cases j with
      | zero => exact .inl rfl
      | succ j =>
        rw [List.getElem?_cons_succ, List.getElem?_replicate] at e
        split at e
        · cases e; exact .inr rfl
        · cases e
    refine ⟨r0'.sub, r0'.zG, by rw [List.length_set]; exact r0'.len, fun j d e => ?_, fun j d e => ?_, fun j l d e' aa h1 _ _ _ => ?_, r0'.pt, fun j c fs e => ?_⟩
    · rcases get j _ e with w | w
      · subst w
        obtain ⟨v, h1, h2⟩ := r0'.sh 0 d e
        exact ⟨v, by rw [List.getElem?_set_ne (by omega)]; exact h1, h2⟩
      · cases w
    · rcases get j _ e with w | w
      · subst w; cases e
      · cases w
    · rcases get j _ h1 with w | w
      · subst w; cases h1
      · cases w
    · rcases get j _ e with w | w
      · subst w; cases e
      · cases w
  have σ1 : ((L2.start N [.ref b]).set 1 (some (.ref mA)))[1]? = some (some (.ref mA)) := by
    rw [List.getElem?_set_self]
    have : N.length ≠ 1 := fun q => by
      have := (List.getElem?_eq_some_iff.mp hN1).1
      omega
    unfold L2.start
    have := (List.getElem?_eq_some_iff.mp hN1).1
    simp only [List.length_append, List.length_map, List.length_replicate, List.length_cons, List.length_nil]
    omega
  refine ⟨z1, G1, g1, rel, rn3, ?_⟩
  dsimp only
  rw [e5]
  refine ⟨fun w => by simp [isMut] at w, fun rA z2 G2 H4 gr2 rn2 n2 g2A nz2 own => ?_⟩
  obtain ⟨us2, h4, rus2⟩ := own
  have eus2 := reps_int (by rw [← intsD_ok e6]; exact rus2)
  subst eus2
  have m4 : H4 mA = some (.dK (kvs cA r0 0)) := gr2.same _ _ m3 mz
  have c4 : H4 cA = some (.lst (cells.map V.int)) := gr2.same _ _ c3 nz
  have mr2 : mA ≠ rA := ne_of_none m3 n2
  have cr2 : cA ≠ rA := ne_of_none c3 n2
  refine ⟨.ref mA, σ1, mA, _, rfl, DPut.k (k := .inr "great") m4 (show 3 < sizeLine by decide), .ref mA, σ1, ?_⟩
  have eH : L2.putK (kvs cA r0 0) (.inr "great") (.ref rA) = kvs cA rA 0 := rfl
  rw [eH]
  have keep : ∀ c o, H c = some o → upd H4 mA (.dK (kvs cA rA 0)) c = some o := fun c o hc => by
    have q1 := ne_of_none hc hmA
    have q2 := gr.same c o (hd2 c o hc) (by simp)
    have q3 := k3 c o q2 q1
    have q4 := gr2.same c o q3 (fun w => by have := gr.zn rfl c w; rw [hd2 c o hc] at this; cases this)
    rw [upd_ne q1]; exact q4
  have hr0 : H rA = none := by
    cases q : H rA with
    | none => rfl
    | some o =>
      have q1 := ne_of_none q hmA
      have q2 := gr.same _ o (hd2 _ o q) (by simp)
      rw [k3 _ o q2 q1] at n2; cases n2
  have gno : ∀ c, H c = none → G c = none := fun c hc => by
    cases q : G c with
    | none => rfl
    | some o => rw [sb c o q] at hc; cases hc
  refine out _ [mA, cA, rA] G _ ⟨.inl rfl, fun c o hc _ => keep c o hc, fun c o hc => keep c o (sb c o hc), .refl G, fun _ w => .inl w, fun c hc => ?_, fun _ c hc => ?_⟩ (.inr ⟨mA, cA, rA, rfl, mc, mr2, cr2, upd_same, ?_, ?_, e4, Int.le_refl 0, e7⟩) (show Rep F [mA, cA, rA] G (.ref mA) .tok from .tok rfl)
  · simp only [List.mem_cons, List.not_mem_nil, or_false] at hc
    rcases hc with rfl | rfl | rfl
    · exact gmA
    · exact gno _ (hd _ n1)
    · exact gno _ hr0
  · simp only [List.mem_cons, List.not_mem_nil, or_false] at hc
    rcases hc with rfl | rfl | rfl
    · exact hmA
    · exact hd _ n1
    · exact hr0
  · rw [upd_ne (Ne.symm mc)]; exact c4
  · rw [upd_ne (Ne.symm mr2)]; exact h4
end
end Fp
end
section
set_option Elab.async false
set_option linter.all false
set_option maxRecDepth 100000
set_option autoImplicit false
set_option maxHeartbeats 1000000
/-! The two told by hand, out of the text. -/
namespace Fp
open PySem PySem.Spec PyProof.Rows L2 PySem.W

def ftAt (t : Txt) (i : Nat) : FnT := match t.fns[i]? with
  | some f => f
  | none => ⟨Str.empty, ⟨[], [], none, [], [], none, []⟩, [], ⟨.function, [], false, false, []⟩⟩
def fdAt (t : Txt) (i : Nat) : Fd := match Tre.get 12 t.T.fns i with
  | some (some d) => d
  | _ => ⟨0, 0, [], 0⟩
def hasFd (t : Txt) (i : Nat) : Bool := match Tre.get 12 t.T.fns i with
  | some (some _) => true
  | _ => false
def begX (b : List Sm) : Xp := match b with
  | [.expr e _] => e
  | _ => .c .none 0 ⟨0, 0, 0, 0⟩
/-- the name that a block returns at its end -/
def lastV (b : List Sm) : Nat × Str × Pos × Pos := match b.getLast? with
  | some (.ret (.v i x p) p') => (i, x, p, p')
  | _ => (0, Str.empty, ⟨0, 0, 0, 0⟩, ⟨0, 0, 0, 0⟩)
def psOf (f : FnT) : List Str := f.args.args.map (·.arg)
def nsOf (f : FnT) : List Str := namesOf (psOf f) f.body f.sc
def lcOf (f : FnT) : Lc := ⟨nsOf f, f.sc, fun _ => true, true⟩
def primOk (t : Txt) (iD iB : Nat) : Bool := (List.range t.fns.length).all fun i => match Tre.get 12 t.T.fns i with
  | some (some d) => Nat.beq d.prim 0 || (Nat.beq i iD || Nat.beq i iB)
  | _ => true
/-- what is seen of the text, by Bool functions -/
def primB (t : Txt) (iD iB fo mx : Nat) : Bool := primOk t iD iB && (Nat.blt iD t.fns.length && (Nat.blt iB t.fns.length && ((Nat.blt fo t.fns.length && hasFd t fo) &&
  (decide (psOf (ftAt t iD) = drawP) && (scB drawN drawP (ftAt t iD).sc && (ownSc (ftAt t iD).sc drawN ["int", "len", "_law_mixed"] && (Nat.beq (fdAt t iD).prim 1 && (Nat.beq (fdAt t iD).np mx && (decide (t.M.fns[mx]? = some ("_law_mixed" : Str)) && (t.free.contains ("int" : Str) && (t.free.contains ("len" : Str) &&
  (decide (psOf (ftAt t iB) = (["_law_script"] : List Str)) && (scB (nsOf (ftAt t iB)) ["_law_script"] (ftAt t iB).sc && (decide ((nsOf (ftAt t iB))[0]? = some ("_law_script" : Str)) && (decide ((nsOf (ftAt t iB))[1]? = some ("_law_m" : Str)) && (Nat.beq (nsOf (ftAt t iB)).length (fdAt t iB).n && (ownSc (ftAt t iB).sc ["_law_script", "_law_m"] ["_law_folded"] &&
  (Nat.beq (fdAt t iB).prim 2 && (Nat.beq (fdAt t iB).np fo && (Xp.w t.M t.T 100 (lcOf (ftAt t iB)) false (begX (fdAt t iB).body) && (fresh (begX (fdAt t iB).body) && (decide (t.M.fns[fo]? = some ("_law_folded" : Str)) &&
  (argsB (ftAt t fo).args ["_law_script"] && (scB (nsOf (ftAt t fo)) ["_law_script"] (ftAt t fo).sc && (Nat.beq (nsOf (ftAt t fo)).length (fdAt t fo).n && (nameOk (lcOf (ftAt t fo)) (lastV (fdAt t fo).body).1 (lastV (fdAt t fo).body).2.1 && Sm.ws t.M t.T t.fl 100 (lcOf (ftAt t fo)) (fdAt t fo).body.dropLast.dropLast))))))))))))))))))))))))))
/-- .. and by equations -/
structure PrimT (t : Txt) (iD iB fo mx : Nat) (qD qB : Nat → Pos) : Prop where
  b : primB t iD iB fo mx = true
  dr : (ftAt t iD).body = drawBody qD
  bg : (ftAt t iB).body = begunBody qB (begX (fdAt t iB).body).un
  fo : (ftAt t fo).body = Sm.uns (fdAt t fo).body.dropLast.dropLast ++ [.Return (some (.Name (lastV (fdAt t fo).body).2.1 (lastV (fdAt t fo).body).2.2.1)) (lastV (fdAt t fo).body).2.2.2]
theorem ftAt_of {t : Txt} {i : Nat} (h : i < t.fns.length) : t.fns[i]? = some (ftAt t i) := by
  unfold ftAt
  rw [List.getElem?_eq_getElem h]
theorem slotL_last {ρ : List Sl} {b : List Sm} {s : Sl} (h : slotL ρ b = some s) : ρ[(lastV b).1]? = some s := by
  unfold slotL at h
  unfold lastV
  split at h
  · rename_i i x p p' e
    first
      | exact h
      | (rw [e]; exact h)
  · cases h
theorem begunC_R {F : Fx} {n : Nat} {fd : Fd} {ff : Fd} {ns : List Int} {g : Gs} (hT : Tre.get 12 F.T.fns fd.np = some (some ff)) :
    begunC F.T (ev F.T n) fd ns g = .no ∨ BegR F n (ff.n - 1) (lastV ff.body).1 (fd.n - 1) ff.body.dropLast.dropLast (begX fd.body) [.scr ns] g (begunC F.T (ev F.T n) fd ns g) := by
  unfold begunC
  rw [hT]
  split
  · rename_i e p ff' c0 hb hff
    cases hff
    have hx : begX fd.body = e := by rw [hb]; rfl
    cases e1 : (ev F.T n).ss (.sh (.scr ns) :: List.replicate (ff.n - 1) .un) g ff.body.dropLast.dropLast with
    | no => exact .inl rfl
    | ex _ _ _ => exact .inl rfl
    | ok fl g1 =>
      cases fl with
      | next ρ =>
        simp only
        cases e2 : slotL ρ ff.body with
        | none => exact .inl rfl
        | some sl =>
          cases sl with
          | ow d =>
            cases d with
            | lst cs =>
              simp only
              cases e3 : intsD cs with
              | none => exact .inl rfl
              | some cells =>
                simp only
                cases e4 : Nat.beq cells.length 64 with
                | false => exact .inl rfl
                | true =>
                  simp only
                  cases e5 : (ev F.T n).e (.sh (.scr ns) :: List.replicate (fd.n - 1) .un) g1 e with
                  | no => exact .inl rfl
                  | ex _ _ _ => exact .inl rfl
                  | ok d g2 =>
                    cases d with
                    | lst gs =>
                      simp only
                      cases e6 : intsD gs with
                      | none => exact .inl rfl
                      | some great =>
                        simp only
                        cases e7 : Nat.ble great.length 64000 with
                        | false => exact .inl rfl
                        | true => exact .inr ⟨ns, ρ, g1, cs, cells, gs, g2, great, rfl, c0, e1, slotL_last e2, e3, Nat.eq_of_beq_eq_true e4, by rw [hx]; exact e5, e6, Nat.le_of_ble_eq_true e7, rfl⟩
                    | _ => exact .inl rfl
            | _ => exact .inl rfl
          | _ => exact .inl rfl
      | _ => exact .inl rfl
  · exact .inl rfl
section
variable {t : Txt} {P : Program} {w : World} {K : Frag} {mg : Str → Option Value} {base : Heap} {iD iB fo mx : Nat} {qD qB : Nat → Pos}
theorem prims_of (c : SaysR t K) (G0 : Gnd (t.fx P w K mg base) t.M) (T : PrimT t iD iB fo mx qD qB) :
    ∀ f ft d, t.fns[f]? = some ft → Tre.get 12 t.T.fns f = some (some d) → d.prim ≠ 0 → ∀ n, Snd (t.fx P w K mg base) t.M n → FnsOk (t.fx P w K mg base) t.M n → ∀ fd ps, K.lookup (He.ga K ft.name) ≠ none →
      (∃ oc od osl name qual kV doc pm an cdv ct, fd = fnOf name qual ft.args ft.body ft.sc .none kV doc pm an cdv ct ∧ K.lookup (He.ga K ft.name) = some ⟨oc, od, .func fd, osl⟩ ∧ codeIn K cdv qual = true) → ps = ft.args.args.map (·.arg) →
      FnOk P w K mg base (CX P w) (2 * n + 4) (He.ga K ft.name) fd ps (spF (t.fx P w K mg base) fun ds g => (ev t.T (n + 1)).call f ds g) := by
  intro f ft d ef ed pd n S FO fd ps _ hfd hps
  obtain ⟨oc, od, osl, name, qual, kV, doc, pm, an, cdv, ct, rfl, lk, hcd⟩ := hfd
  obtain ⟨a1, b⟩ := and2 T.b
  obtain ⟨a2, b⟩ := and2 b
  obtain ⟨a3, b⟩ := and2 b
  obtain ⟨a4, b⟩ := and2 b
  obtain ⟨b1, b⟩ := and2 b
  obtain ⟨b2, b⟩ := and2 b
  obtain ⟨b3, b⟩ := and2 b
  obtain ⟨b4, b⟩ := and2 b
  obtain ⟨b5, b⟩ := and2 b
  obtain ⟨b6, b⟩ := and2 b
  obtain ⟨b7, b⟩ := and2 b
  obtain ⟨b8, b⟩ := and2 b
  obtain ⟨c1, b⟩ := and2 b
  obtain ⟨c2, b⟩ := and2 b
  obtain ⟨c3, b⟩ := and2 b
  obtain ⟨c4, b⟩ := and2 b
  obtain ⟨c5, b⟩ := and2 b
  obtain ⟨c6, b⟩ := and2 b
  obtain ⟨c7, b⟩ := and2 b
  obtain ⟨c8, b⟩ := and2 b
  obtain ⟨c9, b⟩ := and2 b
  obtain ⟨c10, b⟩ := and2 b
  obtain ⟨c11, b⟩ := and2 b
  obtain ⟨d1, b⟩ := and2 b
  obtain ⟨d2, b⟩ := and2 b
  obtain ⟨d3, b⟩ := and2 b
  obtain ⟨d4, d5⟩ := and2 b
  have lf : f < t.fns.length := (List.getElem?_eq_some_iff.mp ef).1
  have eft : ft = ftAt t f := by
    have := ftAt_of lf
    rw [ef] at this
    exact Option.some.inj this
  have efd : fdAt t f = d := by unfold fdAt; rw [ed]
  have wh := List.all_eq_true.mp a1 f (List.mem_range.mpr lf)
  rw [ed] at wh
  subst hps
  rcases Bool.or_eq_true_iff.mp wh with q | q
  · exact absurd (Nat.eq_of_beq_eq_true q) pd
  rcases Bool.or_eq_true_iff.mp q with q | q
  · obtain rfl : f = iD := Nat.eq_of_beq_eq_true q
    rw [efd] at b4 b5
    have p1 : d.prim = 1 := Nat.eq_of_beq_eq_true b4
    have p2 : d.np = mx := Nat.eq_of_beq_eq_true b5
    have eps : ft.args.args.map (·.arg) = drawP := by
      have := of_decide_eq_true b1
      rw [← eft] at this
      exact this
    have ebd : ft.body = drawBody qD := by rw [eft]; exact T.dr
    rw [eps]
    rw [ebd] at lk ⊢
    rw [← eft] at b2 b3
    refine draw_ok G0 FO lk hcd (scB_ok b2) b3 (of_decide_eq_true b6) (List.contains_iff_mem.mp b7) (List.contains_iff_mem.mp b8) fun ds g => ?_
    show stepC t.T (ev t.T n) f ds g = _
    simp only [stepC, ed, p1, p2]
    rfl
  · obtain rfl : f = iB := Nat.eq_of_beq_eq_true q
    rw [efd] at c5 c7 c8 c9 c10
    have p1 : d.prim = 2 := Nat.eq_of_beq_eq_true c7
    have p2 : d.np = fo := Nat.eq_of_beq_eq_true c8
    have eps : ft.args.args.map (·.arg) = (["_law_script"] : List Str) := by
      have := of_decide_eq_true c1
      rw [← eft] at this
      exact this
    have ebd : ft.body = begunBody qB (begX d.body).un := by rw [eft, ← efd]; exact T.bg
    rw [eps]
    rw [ebd] at lk ⊢
    rw [← eft] at c2 c3 c4 c5 c6 c9
    obtain ⟨a4, a5⟩ := and2 a4
    have lfo : fo < t.fns.length := Nat.le_of_ble_eq_true a4
    obtain ⟨_, oc', od', osl', name', qual', kV', doc', pm', an', cdv', ct', lk', hcd'⟩ := c.fn (ftAt_of lfo)
    rw [T.fo] at lk'
    have fao : (t.fx P w K mg base).fa fo = He.ga K (ftAt t fo).name := Txt.fx_fa (ftAt_of lfo)
    obtain ⟨ff, hff⟩ : ∃ ff, Tre.get 12 t.T.fns fo = some (some ff) := by
      unfold hasFd at a5
      split at a5
      · rename_i ff e; exact ⟨ff, e⟩
      · cases a5
    have eff : fdAt t fo = ff := by unfold fdAt; rw [hff]
    rw [eff] at d3 d4 d5 lk'
    have FF := folded_ok (F := t.fx P w K mg base) (M := t.M) (n := n) S (k := ff.n - 1) (i := (lastV ff.body).1) (m := 100) (pre := ff.body.dropLast.dropLast) (N := nsOf (ftAt t fo)) (f := (t.fx P w K mg base).fa fo) (by rw [fao]; exact lk') hcd' (scB_ok d2) (by
      have := Nat.eq_of_beq_eq_true d3
      have l0 : 0 < (nsOf (ftAt t fo)).length := by
        have := (scB_ok d2).pre
        cases q : nsOf (ftAt t fo) with
        | nil => rw [q] at this; cases this
        | cons _ _ => simp
      omega) d4 d5
    refine begun_ok (F := t.fx P w K mg base) G0 S lk hcd (scB_ok c2) (of_decide_eq_true c3) (of_decide_eq_true c4) (kb := d.n - 1) (by
      have := Nat.eq_of_beq_eq_true c5
      have l0 := (List.getElem?_eq_some_iff.mp (of_decide_eq_true c4)).1
      omega) c6 c9 c10 (of_decide_eq_true c11) FF ?_ (argsB_ok d1).binds fun ds g => ?_
    · rw [fao]
      show keepIn K (.ref (He.ga K (ftAt t fo).name)) = true
      unfold keepIn
      simp only [lk']
    · have ec : (ev t.T (n + 1)).call f ds g = match ds with
          | [.scr ns] => begunC t.T (ev t.T n) d ns g
          | _ => .no := by
        show stepC t.T (ev t.T n) f ds g = _
        simp only [stepC, ed, p1]
        try rfl
      rw [ec]
      split
      · rename_i ns
        exact begunC_R (F := t.fx P w K mg base) (fd := d) (ff := ff) (by rw [p2]; exact hff)
      · exact .inl rfl
end
end Fp
end
section
set_option Elab.async false
set_option linter.all false
set_option maxRecDepth 100000
set_option autoImplicit false
set_option maxHeartbeats 1000000
/-! A law's end. -/
namespace Fp
open PySem PySem.Spec PyProof.Rows L2 PySem.W

/-- the law is a plain def -/
def lawB (t : Txt) (i : Nat) : Bool := Nat.blt i t.fns.length && (hasFd t i && (Nat.beq (fdAt t i).prim 0 && (decide ((ftAt t i).name = "law") && decide (psOf (ftAt t i) = (["_law_script"] : List Str)))))
section
variable {t : Txt} {P : Program} {w : World} {K : Frag} {h : Heap} {mg : Str → Option Value} {iD iB fo mx iL n most : Nat} {qD qB : Nat → Pos} {fa : Addr}
theorem law_facts (X : K.In h) (G : h.Ns mainGlobals mg) (c : SaysR t K) (tw : topW t P = true) (dw : defsW t 0 t.fns = true) (un : unsL t 0 t.fns = t.fns.map (·.body)) (T : PrimT t iD iB fo mx qD qB) (lb : lawB t iL = true)
    (pure : ∀ ns : List Int, ns.length ≤ most → ∃ g', (ev t.T (n + 1)).call iL [.scr ns] ⟨[], [], 0⟩ = .ok (.bl true) g') (hfa : mg "law" = some (.ref fa)) :
    ∃ (fd : FuncData) (sp : Sp), (∀ (s : Shared) (u : Value), BindsTo s fd ⟨[u], []⟩ [("_law_script", u)]) ∧ (∀ (H : Hp) (a : Addr) (ns : List Int), ns.length ≤ most → L2.Only H → SqL K H a (ns.map V.int) → sp [.ref a] H (fun v _ => v = .bl true) fun _ _ _ => False) ∧
      ∀ base : Heap, K.In base → base.Ns mainGlobals mg → FnOk P w K mg base (CX P w) (2 * n + 4) fa fd ["_law_script"] sp := by
  obtain ⟨l1, l⟩ := and2 lb
  obtain ⟨l2, l⟩ := and2 l
  obtain ⟨l3, l⟩ := and2 l
  obtain ⟨l4, l5⟩ := and2 l
  have ef := ftAt_of (Nat.le_of_ble_eq_true l1 : iL < t.fns.length)
  have hnm : (ftAt t iL).name = "law" := of_decide_eq_true l4
  have hps : psOf (ftAt t iL) = (["_law_script"] : List Str) := of_decide_eq_true l5
  obtain ⟨gl, oc, od, osl, name, qual, kV, doc, pm, an, cdv, ct, lk, hcd⟩ := c.fn ef
  have efa : fa = He.ga K (ftAt t iL).name := by
    have := glo_of X G gl
    rw [hnm, hfa] at this
    rw [hnm]
    exact Value.ref.inj (Option.some.inj this)
  have dw1 := defsW_at dw ef
  have un1 := unsL_at un ef
  rw [Nat.zero_add] at dw1 un1
  obtain ⟨d1, d2⟩ := and2 dw1
  obtain ⟨d, hd⟩ : ∃ d, Tre.get 12 t.T.fns iL = some (some d) := by
    unfold hasFd at l2
    split at l2
    · rename_i d e; exact ⟨d, e⟩
    · cases l2
  have p0 : d.prim = 0 := by
    have := Nat.eq_of_beq_eq_true l3
    unfold fdAt at this
    rw [hd] at this
    exact this
  refine ⟨fnOf name qual (ftAt t iL).args (ftAt t iL).body (ftAt t iL).sc .none kV doc pm an cdv ct, fun vs H Q E => ∀ base : Heap, K.In base → base.Ns mainGlobals mg → spF (t.fx P w K mg base) (fun ds g => (ev t.T (n + 1)).call iL ds g) vs H Q E, fun s u => ?_, fun H a ns hl _ sq base _ _ => ?_, fun base hb hg => ?_⟩
  · have A := argsB_ok d1
    have := bind_all (name := name) (qual := qual) (params := (ftAt t iL).args) (body := (ftAt t iL).body) (scope := (ftAt t iL).sc) (cl := []) (kV := kV) (doc := doc) (pm := pm) (cdv := cdv) (ct := ct) (an := an) (us := [u]) A.h0 (A.h1.trans hps) A.h2 A.h3 A.h4 (by simp) rfl
    exact .of_eq this
  · obtain ⟨g', hp⟩ := pure ns hl
    refine ⟨[], H, ⟨[], [], 0⟩, [.scr ns], .refl H, (fun _ h => by cases h), .inl ⟨rfl, rfl⟩, .cons (.scr sq) .nil, ?_⟩
    dsimp only
    rw [hp]
    intro v z' G' H' _ _ rp
    have rp : Rep (t.fx P w K mg base) z' G' v (.bl true) := rp
    cases rp
    rfl
  · have G0 : Gnd (t.fx P w K mg base) t.M := gnd_of X G c tw
    have D := defs_of c dw un (prims_of (P := P) (w := w) (mg := mg) (base := base) c G0 T)
    have S := (snd_all G0 D n).1
    have pl : Plain (t.fx P w K mg base) t.M iL (fnOf name qual (ftAt t iL).args (ftAt t iL).body (ftAt t iL).sc .none kV doc pm an cdv ct) ["_law_script"] := by
      unfold unsAt at un1
      rw [hd] at un1 d2
      simp only [p0] at un1 d2
      obtain ⟨e1, d2⟩ := and2 d2
      obtain ⟨e2, d2⟩ := and2 d2
      obtain ⟨e3, e4⟩ := and2 d2
      have hps' : (ftAt t iL).args.args.map (·.arg) = (["_law_script"] : List Str) := hps
      rw [hps'] at e1
      refine ⟨d, 100, nsOf (ftAt t iL), name, qual, (ftAt t iL).args, (ftAt t iL).sc, .none, kV, doc, pm, cdv, ct, oc, an, od, osl, hd, p0, Nat.eq_of_beq_eq_true e1, Nat.eq_of_beq_eq_true e2, ?_, ?_, hcd, ?_, e4⟩
      · rw [un1]
      · rw [un1, Txt.fx_fa ef]; exact lk
      · have := scB_ok e3
        rw [show (ftAt t iL).args.args.map (·.arg) = (["_law_script"] : List Str) from hps'] at this
        unfold nsOf
        rw [hps]
        exact this
    have F := fn_plain G0 S pl
    rw [Txt.fx_fa ef, ← efa] at F
    exact F.imp fun vs H Q E q => q base hb hg
end
/-- whatever the world -/
def CXE (P : Program) : CXT := fun o H s E e s' => ∃ w, CX P w o H s E e s'
theorem fn_cx {P : Program} {w : World} {K : Frag} {mg : Str → Option Value} {base : Heap} {k : Nat} {f : Addr} {fd : FuncData} {ps : List Str} {sp : Sp} (F : FnOk P w K mg base (CX P w) k f fd ps sp) : FnOk P w K mg base (CXE P) k f fd ps sp :=
  ⟨F.len, fun A outer s H args us vs Q E hr he hb hv hs => codeAny_mono (F.run A outer s H args us vs Q E hr he hb hv hs) fun res s' hq => by
    cases res with
    | error e => exact ⟨w, hq⟩
    | ok fl =>
      cases fl with
      | ret u => exact hq
      | next => exact hq
      | brk => exact hq
      | cont => exact hq⟩
theorem cxe_no {P : Program} (H : Hp) (s : Shared) (e : Value) (s' : Shared) (h : CXE P [] H s (fun _ _ _ => False) e s') : False := by
  obtain ⟨_, _, _, _, _, _, _, _, _, _, _, _, _, z⟩ := h
  exact z
end Fp
end
section
set_option Elab.async false
set_option linter.all false
set_option maxRecDepth 100000
set_option maxHeartbeats 0
namespace Fp.K33
open PySem PySem.Spec PyProof.Rows L2 Fp
def begunPos : List (Nat × Nat × Nat × Nat) := [(0, 4, 0, 10), (0, 14, 0, 21), (0, 49, 0, 56), (0, 62, 0, 68), (0, 23, 0, 34), (0, 35, 0, 46), (0, 23, 0, 47), (0, 58, 0, 60), (0, 70, 0, 71), (0, 13, 0, 72), (0, 4, 0, 72), (1, 4, 1, 10), (1, 11, 1, 18), (1, 4, 1, 19), (1, 4, 1, 94), (2, 11, 2, 17), (2, 4, 2, 17)]
theorem ob_eq (s : PySem.W.SharedT) : ob s = (hookR t).obs s.abs := obsRG_eq (HandSHeadRun.getT_eq s)
theorem tw : topW t PySem.Challenge.pw_floorpowers_k33_powers_by_hand = true := by kernel_rfl
theorem un : unsL t 0 t.fns = t.fns.map (·.body) := by kernel_rfl
theorem dw : defsW t 0 t.fns = true := by kernel_rfl
theorem pr : PrimT t 87 88 86 85 (posOf drawPos 635) (posOf begunPos 647) := ⟨by kernel_rfl, by kernel_rfl, by kernel_rfl, by kernel_rfl⟩
theorem lb : lawB t 98 = true := by kernel_rfl
end Fp.K33
end
section
set_option Elab.async false
set_option linter.all false
set_option maxRecDepth 100000
set_option maxHeartbeats 0
namespace Fp.K33
open PySem PySem.Spec PyProof.Rows L2 Fp
theorem run (w : World) : HandSHeadRun.RunEq R (PySem.W.view R.prog [155]) (hookR t) ob 40000 loose w := by
  intro os
  have h1 := run1 w os
  have h2 := run2 w os
  cases e : HandSHeadRun.endF (HandSHeadRun.stepQ (HandSHeadRun.denQ HandSHeadRun.tabQ) R.prog w) 40000 R.prog w os with
  | none => rw [e] at h1; cases h1
  | some s =>
    rw [e] at h1 h2
    have a1 := Option.some.inj h1
    have a2 : ob s = valR t := Option.some.inj h2
    have e1 := congrArg Prod.fst a1
    have e2 := congrArg Prod.snd a1
    exact congrArg some (Prod.ext e1 (Prod.ext e2 a2))
end Fp.K33
end
section
set_option Elab.async false
set_option linter.all false
set_option maxRecDepth 100000
set_option autoImplicit false
set_option maxHeartbeats 1000000
/-! What the laws' own defs compute: rules for the evaluator. -/
namespace Fp
open PySem

section
variable {T : Tab} {n : Nat} {ρ : List Sl} {g g1 g2 : Gs} {p q : Pos} {x : Str}
theorem ev_e (e : Xp) : (ev T (n + 1)).e ρ g e = stepE T (ev T n) ρ g e := rfl
theorem ev_ss (b : List Sm) : (ev T (n + 1)).ss ρ g b = stepSs T (ev T n) ρ g b := rfl
theorem ev_call (f : Nat) (ds : List D) : (ev T (n + 1)).call f ds g = stepC T (ev T n) f ds g := rfl
theorem r_v {i : Nat} {d : D} (h : ρ[i]? = some (.sh d)) : (ev T (n + 1)).e ρ g (.v i x p) = .ok d g := by rw [ev_e]; simp only [stepE, h]
theorem r_pk {i : Nat} {d : D} (h : ρ[i]? = some (.ow d)) : (ev T (n + 1)).e ρ g (.pk i x p) = .ok d g := by rw [ev_e]; simp only [stepE, h]
theorem r_i {i : Int} {j : Nat} : (ev T (n + 1)).e ρ g (.c (.int i) j p) = .ok (.int i) g := rfl
theorem r_bin {a b : Xp} {op : Operator} {d e r : D} (ha : (ev T n).e ρ g a = .ok d g1) (hb : (ev T n).e ρ g1 b = .ok e g2) (h : bop op d e = some r) : (ev T (n + 1)).e ρ g (.bin a op b p) = .ok r g2 := by
  rw [ev_e]; simp only [stepE, ha, Rs.bind, hb, h, Rs.of]
theorem r_sub {a b : Xp} {d e r : D} (ha : (ev T n).e ρ g a = .ok d g1) (hb : (ev T n).e ρ g1 b = .ok e g2) (h : subOf d e = some r) : (ev T (n + 1)).e ρ g (.sub a b p) = .ok r g2 := by
  rw [ev_e]; simp only [stepE, ha, Rs.bind, hb, h, Rs.of]
theorem bop_add (i j : Int) : bop .Add (.int i) (.int j) = some (.int (i + j)) := rfl
theorem bop_sub (i j : Int) : bop .Sub (.int i) (.int j) = some (.int (i - j)) := rfl
theorem bop_mul {i j : Int} (h : (wee i || wee j) = true) : bop .Mult (.int i) (.int j) = some (.int (i * j)) := by simp only [bop, h]
theorem bop_mod {i j : Int} (h : intLe j 0 = false) : bop .Mod (.int i) (.int j) = some (.int (i % j)) := by simp only [bop, h]
theorem r_set {i : Nat} {k e : Xp} {xs : List D} {d : D} {j : Int} {m : Nat} {q1 q2 q3 : Pos} {rest : List Sm} (h : ρ[i]? = some (.ow (.lst xs))) (he : (ev T n).e ρ g e = .ok d g1) (hk : (ev T n).e ρ g1 k = .ok (.int j) g2) (hx : ixOf xs.length j = some m) :
    stepSs T (ev T n) ρ g (.setI i x k e q1 q2 q3 :: rest) = stepSs T (ev T n) (ρ.set i (.ow (.lst (xs.set m d)))) g2 rest := by
  simp only [stepSs, stepS, h, he, Rs.bind, hk, hx]
theorem ixOf_pos {m : Nat} {i : Int} (h0 : 0 ≤ i) (h1 : i < m) : ixOf m i = some i.toNat := by
  rw [ixOf_ixN]
  unfold L2.ixN
  rw [if_pos h0, if_pos h1]
theorem sub_int {cs : List Int} {i : Int} {k : Nat} (h0 : 0 ≤ i) (hk : i.toNat = k) (h : k < cs.length) : subOf (.lst (cs.map D.int)) (.int i) = some (.int cs[k]) := by
  subst hk
  simp only [subOf]
  rw [List.length_map, ixOf_pos h0 (by omega)]
  simp only [List.getElem?_map, List.getElem?_eq_getElem h, Option.map_some]
/-- int(e) -/
theorem r_int {e : Xp} {i : Int} (hs : isStar e = false) (h : (ev T n).e ρ g e = .ok (.int i) g1) : (ev T (n + 1)).e ρ g (.bi .int x [e] q p) = .ok (.int i) g1 := by
  rw [ev_e]
  cases e with
  | star _ _ => cases hs
  | _ => simp only [stepE, evL, h, Rs.bind]; rfl
/-- int(v) % 64 -/
theorem r_m64 {i : Nat} {j : Int} {y : Str} {k1 k2 k3 k4 k5 : Pos} {m : Nat} (h : ρ[i]? = some (.sh (.int j))) : (ev T (n + 3)).e ρ g (.bin (.bi .int y [(.v i x k1)] k2 k3) .Mod (.c (.int 64) m k4) k5) = .ok (.int (j % 64)) g :=
  r_bin (r_int rfl (r_v h)) r_i (bop_mod rfl)
/-- one turn over the script -/
theorem fold_1 {cs : List Int} {j c : Int} (h2 : ρ[2]? = some (.ow (.lst (cs.map D.int)))) (h1 : ρ[1]? = some (.sh (.int j))) (h3 : ρ[3]? = some (.sh (.int c))) (hl : cs.length = 64) (qs : Nat → Pos) :
    ∃ cs2 : List Int, cs2.length = 64 ∧ (ev T (n + 10)).ss ρ g [.setI 2 "_law_found" (.bin (.bi .int "int" [(.v 1 "_law_n" (qs 16))] (qs 17) (qs 18)) .Mod (.c (.int 64) 0 (qs 19)) (qs 20)) (.bin (.bi .int "int" [(.bin (.bin (.sub (.pk 2 "_law_found" (qs 21)) (.bin (.bi .int "int" [(.v 1 "_law_n" (qs 22))] (qs 23) (qs 24)) .Mod (.c (.int 64) 0 (qs 25)) (qs 26)) (qs 27)) .Mult (.c (.int 48271) 0 (qs 28)) (qs 29)) .Add (.v 3 "_law_cell" (qs 30)) (qs 31))] (qs 32) (qs 33)) .Mod (.c (.int 2147483647) 0 (qs 34)) (qs 35)) (qs 36) (qs 37) (qs 38)] = .ok (.next (ρ.set 2 (.ow (.lst (cs2.map D.int))))) g := by
  have k0 : 0 ≤ j % 64 := Int.emod_nonneg j (by decide)
  have k1 : j % 64 < 64 := Int.emod_lt_of_pos j (by decide)
  have hk : (j % 64).toNat < cs.length := by omega
  refine ⟨cs.set (j % 64).toNat ((cs[(j % 64).toNat] * 48271 + c) % 2147483647), by rw [List.length_set]; exact hl, ?_⟩
  rw [ev_ss, r_set h2 (r_bin (r_int rfl (r_bin (r_bin (r_sub (r_pk h2) (r_m64 h1) (sub_int k0 rfl hk)) r_i (bop_mul (Bool.or_eq_true_iff.mpr (.inr rfl)))) (r_v h3) (bop_add _ _))) r_i (bop_mod rfl)) (r_m64 h1) (by rw [List.length_map, hl]; exact ixOf_pos k0 k1), List.map_set]
  rfl
/-- one turn behind it -/
theorem fold_2 {cs : List Int} {j : Int} (h2 : ρ[2]? = some (.ow (.lst (cs.map D.int)))) (h1 : ρ[1]? = some (.sh (.int j))) (hl : cs.length = 64) (j0 : 1 ≤ j) (j1 : j < 64) (qs : Nat → Pos) :
    ∃ cs2 : List Int, cs2.length = 64 ∧ (ev T (n + 10)).ss ρ g [.setI 2 "_law_found" (.v 1 "_law_n" (qs 45)) (.bin (.bi .int "int" [(.bin (.sub (.pk 2 "_law_found" (qs 46)) (.v 1 "_law_n" (qs 47)) (qs 48)) .Add (.bin (.sub (.pk 2 "_law_found" (qs 49)) (.bin (.v 1 "_law_n" (qs 50)) .Sub (.c (.int 1) 0 (qs 51)) (qs 52)) (qs 53)) .Mult (.c (.int 16807) 0 (qs 54)) (qs 55)) (qs 56))] (qs 57) (qs 58)) .Mod (.c (.int 2147483647) 0 (qs 59)) (qs 60)) (qs 61) (qs 62) (qs 63)] = .ok (.next (ρ.set 2 (.ow (.lst (cs2.map D.int))))) g := by
  have hk : j.toNat < cs.length := by omega
  have hk2 : (j - 1).toNat < cs.length := by omega
  refine ⟨cs.set j.toNat ((cs[j.toNat] + cs[(j - 1).toNat] * 16807) % 2147483647), by rw [List.length_set]; exact hl, ?_⟩
  rw [ev_ss, r_set h2 (r_bin (r_int rfl (r_bin (r_sub (r_pk h2) (r_v h1) (sub_int (by omega) rfl hk)) (r_bin (r_sub (r_pk h2) (r_bin (r_v h1) r_i (bop_sub _ _)) (sub_int (by omega) rfl hk2)) r_i (bop_mul (Bool.or_eq_true_iff.mpr (.inr rfl)))) (bop_add _ _))) r_i (bop_mod rfl)) (r_v h1) (by rw [List.length_map, hl]; exact ixOf_pos (by omega) (by omega)), List.map_set]
  rfl
end
end Fp
end
section
set_option Elab.async false
set_option linter.all false
set_option maxRecDepth 100000
set_option autoImplicit false
set_option maxHeartbeats 1000000
/-! The state that the laws begin with. -/
namespace Fp
open PySem

def foldS (q : Nat → Pos) : List Sm := [
  .asg true 2 "_law_found" (.lc (.bin (.c (.int 17) 0 (q 0)) .Add (.v 1 "_law_n" (q 1)) (q 2)) (.nm 1 "_law_n" (q 3)) (.rng "range" [(.c (.int 64) 0 (q 4))] (q 5) (q 6)) [] [("_law_n", 1)] ⟨.function, [(".0", .local), ("_law_n", .local)], false, false, []⟩ (q 7)) (q 8) (q 9),
  .for (.tp [(.nm 1 "_law_n" (q 10)), (.nm 3 "_law_cell" (q 11))] 0 (q 12)) (.enum "enumerate" (.v 0 "_law_script" (q 13)) (q 14) (q 15)) [.setI 2 "_law_found" (.bin (.bi .int "int" [(.v 1 "_law_n" (q 16))] (q 17) (q 18)) .Mod (.c (.int 64) 0 (q 19)) (q 20)) (.bin (.bi .int "int" [(.bin (.bin (.sub (.pk 2 "_law_found" (q 21)) (.bin (.bi .int "int" [(.v 1 "_law_n" (q 22))] (q 23) (q 24)) .Mod (.c (.int 64) 0 (q 25)) (q 26)) (q 27)) .Mult (.c (.int 48271) 0 (q 28)) (q 29)) .Add (.v 3 "_law_cell" (q 30)) (q 31))] (q 32) (q 33)) .Mod (.c (.int 2147483647) 0 (q 34)) (q 35)) (q 36) (q 37) (q 38)] (q 39),
  .for (.nm 1 "_law_n" (q 40)) (.rng "range" [(.c (.int 1) 0 (q 41)), (.c (.int 64) 0 (q 42))] (q 43) (q 44)) [.setI 2 "_law_found" (.v 1 "_law_n" (q 45)) (.bin (.bi .int "int" [(.bin (.sub (.pk 2 "_law_found" (q 46)) (.v 1 "_law_n" (q 47)) (q 48)) .Add (.bin (.sub (.pk 2 "_law_found" (q 49)) (.bin (.v 1 "_law_n" (q 50)) .Sub (.c (.int 1) 0 (q 51)) (q 52)) (q 53)) .Mult (.c (.int 16807) 0 (q 54)) (q 55)) (q 56))] (q 57) (q 58)) .Mod (.c (.int 2147483647) 0 (q 59)) (q 60)) (q 61) (q 62) (q 63)] (q 64),
  .frz 2,
  .ret (.v 2 "_law_found" (q 65)) (q 66)]
def foldSPos : List (Nat × Nat × Nat × Nat) := [(0, 18, 0, 20), (0, 23, 0, 29), (0, 18, 0, 29), (0, 34, 0, 40), (0, 50, 0, 52), (0, 44, 0, 49), (0, 44, 0, 53), (0, 17, 0, 54), (0, 4, 0, 14), (0, 4, 0, 54), (1, 8, 1, 14), (1, 16, 1, 25), (1, 8, 1, 25), (1, 39, 1, 50), (1, 29, 1, 38), (1, 29, 1, 51), (2, 23, 2, 29), (2, 19, 2, 22), (2, 19, 2, 30), (2, 33, 2, 35), (2, 19, 2, 35), (2, 43, 2, 53), (2, 58, 2, 64), (2, 54, 2, 57), (2, 54, 2, 65), (2, 68, 2, 70), (2, 54, 2, 70), (2, 43, 2, 71), (2, 74, 2, 79), (2, 43, 2, 79), (2, 82, 2, 91), (2, 43, 2, 91), (2, 39, 2, 42), (2, 39, 2, 92), (2, 95, 2, 105), (2, 39, 2, 105), (2, 8, 2, 18), (2, 8, 2, 36), (2, 8, 2, 105), (1, 4, 2, 105), (3, 8, 3, 14), (3, 24, 3, 25), (3, 27, 3, 29), (3, 18, 3, 23), (3, 18, 3, 30), (4, 19, 4, 25), (4, 33, 4, 43), (4, 44, 4, 50), (4, 33, 4, 51), (4, 54, 4, 64), (4, 65, 4, 71), (4, 74, 4, 75), (4, 65, 4, 75), (4, 54, 4, 76), (4, 79, 4, 84), (4, 54, 4, 84), (4, 33, 4, 84), (4, 29, 4, 32), (4, 29, 4, 85), (4, 88, 4, 98), (4, 29, 4, 98), (4, 8, 4, 18), (4, 8, 4, 26), (4, 8, 4, 98), (3, 4, 4, 98), (5, 11, 5, 21), (5, 4, 5, 21)]
def begS (q : Nat → Pos) : List Sm := [
  .expr (.lc (.ife (.cmp (.v 2 "_law_cell" (q 0)) .GtE (.bin (.c (.int 10) 0 (q 1)) .Pow (.c (.int 18) 0 (q 2)) (q 3)) (q 4)) (.v 2 "_law_cell" (q 5)) (.c (.int 0) 0 (q 6)) (q 7)) (.nm 2 "_law_cell" (q 8)) (.src (.v 0 "_law_script" (q 9))) [] [("_law_cell", 2)] ⟨.function, [(".0", .local), ("_law_cell", .local)], false, false, []⟩ (q 10)) (q 11)]
def begSPos : List (Nat × Nat × Nat × Nat) := [(0, 36, 0, 45), (0, 49, 0, 51), (0, 55, 0, 57), (0, 49, 0, 57), (0, 36, 0, 57), (0, 23, 0, 32), (0, 63, 0, 64), (0, 23, 0, 64), (0, 69, 0, 78), (0, 82, 0, 93), (0, 22, 0, 94), (0, 4, 0, 94)]
section
variable {T : Tab} {n : Nat} {g : Gs}
theorem forGo_inv {r : Ev} {tg : Tg} {b : List Sm} (I : List Sl → Prop) : ∀ (ds : List D) (ρ : List Sl), I ρ → (∀ ρ d, I ρ → d ∈ ds → ∃ ρ' ρ'', bindT tg d ρ = some ρ' ∧ r.ss ρ' g b = .ok (.next ρ'') g ∧ I ρ'') → ∃ ρ', forGo r tg b ρ g ds = .ok (.next ρ') g ∧ I ρ'
  | [], ρ, h, _ => ⟨ρ, rfl, h⟩
  | d :: ds, ρ, h, k => by
    obtain ⟨ρ1, ρ2, h1, h2, h3⟩ := k ρ d h (by simp)
    obtain ⟨ρ3, h4, h5⟩ := forGo_inv I ds ρ2 h3 fun ρ d hi hd => k ρ d hi (List.mem_cons_of_mem _ hd)
    refine ⟨ρ3, ?_, h5⟩
    simp only [forGo, h1, h2, Rs.bind]
    exact h4
theorem enum_mem : ∀ {ns : List Int} {k : Int} {d : D}, d ∈ enumD k (ns.map D.int) → ∃ j c, d = .tup [.int j, .int c]
  | [], _, _, h => by cases h
  | n :: ns, k, d, h => by
    rcases List.mem_cons.mp h with q | q
    · exact ⟨k, n, q⟩
    · exact enum_mem q
theorem rng_mem : ∀ {m : Nat} {a : Int} {d : D}, d ∈ rngList a m → ∃ j, d = .int j ∧ a ≤ j ∧ j < a + m
  | 0, _, _, h => by cases h
  | m + 1, a, d, h => by
    rcases List.mem_cons.mp h with q | q
    · exact ⟨a, q, by omega, by omega⟩
    · obtain ⟨j, h1, h2, h3⟩ := rng_mem q
      exact ⟨j, h1, by omega, by omega⟩
/-- 64 numbers in the slot 2 -/
def Sl64 (ρ : List Sl) : Prop := ρ.length = 4 ∧ ∃ cs : List Int, cs.length = 64 ∧ ρ[2]? = some (.ow (.lst (cs.map D.int)))
theorem fold_ev (q : Nat → Pos) (ns : List Int) : ∃ ρ, (ev T (n + 14)).ss (.sh (.scr ns) :: List.replicate 3 .un) g (foldS q).dropLast.dropLast = .ok (.next ρ) g ∧ Sl64 ρ := by
  have e0 : (ev T (n + 13)).e (.sh (.scr ns) :: List.replicate 3 .un) g (.lc (.bin (.c (.int 17) 0 (q 0)) .Add (.v 1 "_law_n" (q 1)) (q 2)) (.nm 1 "_law_n" (q 3)) (.rng "range" [(.c (.int 64) 0 (q 4))] (q 5) (q 6)) [] [("_law_n", 1)] ⟨.function, [(".0", .local), ("_law_n", .local)], false, false, []⟩ (q 7)) = .ok (.lst (((List.range 64).map fun k : Nat => (17 + (k : Int))).map D.int)) g := rfl
  have h0 : Sl64 ((.sh (.scr ns) :: List.replicate 3 .un : List Sl).set 2 (.ow (.lst (((List.range 64).map fun k : Nat => (17 + (k : Int))).map D.int)))) := ⟨rfl, _, by simp, rfl⟩
  have m0 : ((.sh (.scr ns) :: List.replicate 3 .un : List Sl).set 2 (.ow (.lst (((List.range 64).map fun k : Nat => (17 + (k : Int))).map D.int))))[0]? = some (.sh (.scr ns)) := rfl
  generalize hρ : ((.sh (.scr ns) :: List.replicate 3 .un : List Sl).set 2 (.ow (.lst (((List.range 64).map fun k : Nat => (17 + (k : Int))).map D.int)))) = ρ1 at h0 m0
  obtain ⟨ρ2, f1, h1⟩ := forGo_inv (r := ev T (n + 13)) (g := g) (tg := .tp [(.nm 1 "_law_n" (q 10)), (.nm 3 "_law_cell" (q 11))] 0 (q 12)) (b := [.setI 2 "_law_found" (.bin (.bi .int "int" [(.v 1 "_law_n" (q 16))] (q 17) (q 18)) .Mod (.c (.int 64) 0 (q 19)) (q 20)) (.bin (.bi .int "int" [(.bin (.bin (.sub (.pk 2 "_law_found" (q 21)) (.bin (.bi .int "int" [(.v 1 "_law_n" (q 22))] (q 23) (q 24)) .Mod (.c (.int 64) 0 (q 25)) (q 26)) (q 27)) .Mult (.c (.int 48271) 0 (q 28)) (q 29)) .Add (.v 3 "_law_cell" (q 30)) (q 31))] (q 32) (q 33)) .Mod (.c (.int 2147483647) 0 (q 34)) (q 35)) (q 36) (q 37) (q 38)]) Sl64 (enumD 0 (ns.map D.int)) ρ1 h0 fun ρ d hi hd => by
    obtain ⟨j, c, rfl⟩ := enum_mem hd
    obtain ⟨hl, cs, c1, c2⟩ := hi
    obtain ⟨cs2, k1, k2⟩ := fold_1 (T := T) (n := n + 3) (g := g) (ρ := (ρ.set 1 (.sh (.int j))).set 3 (.sh (.int c))) (cs := cs) (j := j) (c := c) (by rw [List.getElem?_set_ne (by omega), List.getElem?_set_ne (by omega)]; exact c2) (by rw [List.getElem?_set_ne (by omega), List.getElem?_set_self (by omega)]) (by rw [List.getElem?_set_self (by rw [List.length_set]; omega)]) c1 q
    exact ⟨_, _, rfl, k2, by simp [hl], cs2, k1, by rw [List.getElem?_set_self (by simp [hl])]⟩
  obtain ⟨ρ3, f2, h2⟩ := forGo_inv (r := ev T (n + 13)) (g := g) (tg := .nm 1 "_law_n" (q 40)) (b := [.setI 2 "_law_found" (.v 1 "_law_n" (q 45)) (.bin (.bi .int "int" [(.bin (.sub (.pk 2 "_law_found" (q 46)) (.v 1 "_law_n" (q 47)) (q 48)) .Add (.bin (.sub (.pk 2 "_law_found" (q 49)) (.bin (.v 1 "_law_n" (q 50)) .Sub (.c (.int 1) 0 (q 51)) (q 52)) (q 53)) .Mult (.c (.int 16807) 0 (q 54)) (q 55)) (q 56))] (q 57) (q 58)) .Mod (.c (.int 2147483647) 0 (q 59)) (q 60)) (q 61) (q 62) (q 63)]) Sl64 (rngList 1 63) ρ2 h1 fun ρ d hi hd => by
    obtain ⟨j, rfl, j0, j1⟩ := rng_mem hd
    obtain ⟨hl, cs, c1, c2⟩ := hi
    obtain ⟨cs2, k1, k2⟩ := fold_2 (T := T) (n := n + 3) (g := g) (ρ := ρ.set 1 (.sh (.int j))) (cs := cs) (j := j) (by rw [List.getElem?_set_ne (by omega)]; exact c2) (by rw [List.getElem?_set_self (by omega)]) c1 j0 (by omega) q
    exact ⟨_, _, rfl, k2, by simp [hl], cs2, k1, by rw [List.getElem?_set_self (by simp [hl])]⟩
  refine ⟨ρ3, ?_, h2⟩
  have i1 : evI (ev T (n + 13)) ρ1 g (.enum "enumerate" (.v 0 "_law_script" (q 13)) (q 14) (q 15)) = .ok (enumD 0 (ns.map D.int)) g := by
    simp only [evI, evL, ev_e, stepE, m0, Rs.bind]
    rfl
  have i2 : evI (ev T (n + 13)) ρ2 g (.rng "range" [(.c (.int 1) 0 (q 41)), (.c (.int 64) 0 (q 42))] (q 43) (q 44)) = .ok (rngList 1 63) g := rfl
  rw [ev_ss]
  show stepSs T (ev T (n + 13)) _ g [_, _, _] = _
  simp only [stepSs, stepS, e0, Rs.bind]
  have es : ∀ d : List D, slot true (.lc (.bin (.c (.int 17) 0 (q 0)) .Add (.v 1 "_law_n" (q 1)) (q 2)) (.nm 1 "_law_n" (q 3)) (.rng "range" [(.c (.int 64) 0 (q 4))] (q 5) (q 6)) [] [("_law_n", 1)] ⟨.function, [(".0", .local), ("_law_n", .local)], false, false, []⟩ (q 7)) (.lst d) = .ow (.lst d) := fun _ => rfl
  rw [es, hρ, i1]
  simp only [f1, i2, f2]
end
end Fp
end
section
set_option Elab.async false
set_option linter.all false
set_option maxRecDepth 100000
set_option autoImplicit false
set_option maxHeartbeats 1000000
/-! The state that the laws begin with: great cells; drawing. -/
namespace Fp
open PySem

section
variable {T : Tab} {n : Nat} {g : Gs}
theorem lcGo_ints {r : Ev} {ρ : List Sl} {e : Xp} {tg : Tg} : ∀ {ds : List D}, (∀ d ∈ ds, ∃ ρ' i, bindT tg d ρ = some ρ' ∧ r.e ρ' g e = .ok (.int i) g) → ∃ is : List Int, is.length = ds.length ∧ lcGo r ρ e tg [] g ds = .ok (is.map D.int) g
  | [], _ => ⟨[], rfl, rfl⟩
  | d :: ds, h => by
    obtain ⟨ρ', i, h1, h2⟩ := h d (by simp)
    obtain ⟨is, h3, h4⟩ := lcGo_ints (ds := ds) fun d hd => h d (List.mem_cons_of_mem _ hd)
    refine ⟨i :: is, by simp [h3], ?_⟩
    simp only [lcGo, h1, evAll, h2, h4, Rs.bind, List.map_cons]
theorem intsD_map : ∀ is : List Int, intsD (is.map D.int) = some is
  | [] => rfl
  | i :: is => by simp only [List.map_cons, intsD, intsD_map is]
theorem great_ev (q : Nat → Pos) (ns : List Int) (hl : fits ns.length = true) : ∃ is : List Int, is.length = ns.length ∧ (ev T (n + 8)).e (.sh (.scr ns) :: List.replicate 2 .un) g (begX (begS q)) = .ok (.lst (is.map D.int)) g := by
  obtain ⟨is, h1, h2⟩ := lcGo_ints (r := ev T (n + 7)) (g := g) (ρ := .sh (.scr ns) :: List.replicate 2 .un) (e := .ife (.cmp (.v 2 "_law_cell" (q 0)) .GtE (.bin (.c (.int 10) 0 (q 1)) .Pow (.c (.int 18) 0 (q 2)) (q 3)) (q 4)) (.v 2 "_law_cell" (q 5)) (.c (.int 0) 0 (q 6)) (q 7)) (tg := .nm 2 "_law_cell" (q 8)) (ds := ns.map D.int) fun d hd => by
    obtain ⟨c, _, rfl⟩ := List.mem_map.mp hd
    have et : evB (ev T (n + 6)) [.sh (.scr ns), .un, .sh (.int c)] g (.cmp (.v 2 "_law_cell" (q 0)) .GtE (.bin (.c (.int 10) 0 (q 1)) .Pow (.c (.int 18) 0 (q 2)) (q 3)) (q 4)) = .ok (intLe (10 ^ 18) c) g := rfl
    refine ⟨[.sh (.scr ns), .un, .sh (.int c)], (match intLe (10 ^ 18) c with | true => c | false => 0), rfl, ?_⟩
    rw [ev_e]
    simp only [stepE, et, Rs.bind]
    cases intLe (10 ^ 18) c <;> rfl
  refine ⟨is, by rw [h1, List.length_map], ?_⟩
  show (ev T (n + 7 + 1)).e _ g (.lc _ _ _ _ _ _ _) = _
  rw [ev_e]
  have ei : evI (ev T (n + 7)) (.sh (.scr ns) :: List.replicate 2 .un) g (.src (.v 0 "_law_script" (q 9))) = .ok (ns.map D.int) g := rfl
  simp only [stepE, ei, Rs.bind, List.length_map, hl]
  have ew : wipeS (.sh (.scr ns) :: List.replicate 2 .un) [("_law_cell", 2)] = (.sh (.scr ns) :: List.replicate 2 .un) := rfl
  rw [ew, h2]
/-- the state is there -/
theorem begun_ev {f fo : Nat} {qf qb : Nat → Pos} (hb : Tre.get 12 T.fns f = some (some ⟨fo, 3, begS qb, 2⟩)) {np pr : Nat} (hf : Tre.get 12 T.fns fo = some (some ⟨np, 4, foldS qf, pr⟩)) (ns : List Int) (hl : ns.length ≤ 63) :
    ∃ cells great : List Int, cells.length = 64 ∧ great.length ≤ 63 ∧ (ev T (n + 15)).call f [.scr ns] ⟨[], [], 0⟩ = .ok .tok ⟨cells, great, 0⟩ := by
  obtain ⟨ρ, h1, _, cs, h3, h4⟩ := fold_ev (T := T) (n := n) (g := ⟨[], [], 0⟩) qf ns
  have hfit : fits ns.length = true := by
    unfold fits
    exact Nat.ble_eq_true_of_le (by omega)
  obtain ⟨is, h5, h6⟩ := great_ev (T := T) (n := n + 6) (g := ⟨[], [], 0⟩) qb ns hfit
  refine ⟨cs, is, h3, by omega, ?_⟩
  rw [ev_call]
  simp only [stepC, hb]
  unfold begunC
  simp only [hf]
  have h1' : (ev T (n + 14)).ss (.sh (.scr ns) :: List.replicate (4 - 1) .un) ⟨[], [], 0⟩ (foldS qf).dropLast.dropLast = .ok (.next ρ) ⟨[], [], 0⟩ := h1
  have h6' : (ev T (n + 14)).e (.sh (.scr ns) :: List.replicate (3 - 1) .un) ⟨[], [], 0⟩ (begX (begS qb)) = .ok (.lst (is.map D.int)) ⟨[], [], 0⟩ := h6
  have es : slotL ρ (foldS qf) = some (.ow (.lst (cs.map D.int))) := by
    unfold slotL
    exact h4
  have eb : begS qb = [.expr (begX (begS qb)) (qb 11)] := rfl
  generalize begX (begS qb) = e at h6' eb
  rw [eb]
  simp only [h1', es, intsD_map, h3, h6']
  rw [show Nat.ble is.length 64000 = true from Nat.ble_eq_true_of_le (by omega)]
end
end Fp
end
section
set_option Elab.async false
set_option linter.all false
set_option maxRecDepth 100000
set_option autoImplicit false
set_option maxHeartbeats 1000000
/-! Drawing. -/
namespace Fp
open PySem

def mixS (q : Nat → Pos) : List Sm := [
  .asg false 2 "_law_blend" (.bin (.bin (.bin (.bi .int "int" [(.bin (.bin (.v 0 "_law_cell" (q 0)) .Mult (.bin (.c (.int 1) 0 (q 1)) .Add (.bin (.c (.int 2) 0 (q 2)) .Mult (.v 1 "_law_n" (q 3)) (q 4)) (q 5)) (q 6)) .Mult (.c (.int 48271) 0 (q 7)) (q 8))] (q 9) (q 10)) .Mod (.c (.int 2147483647) 0 (q 11)) (q 12)) .Add (.bin (.bin (.c (.int 7919) 0 (q 13)) .Mult (.v 1 "_law_n" (q 14)) (q 15)) .Mult (.v 1 "_law_n" (q 16)) (q 17)) (q 18)) .Add (.bin (.c (.int 104729) 0 (q 19)) .Mult (.v 1 "_law_n" (q 20)) (q 21)) (q 22)) (q 23) (q 24),
  .ret (.bin (.bin (.bi .int "int" [(.bin (.v 2 "_law_blend" (q 25)) .Mult (.c (.int 69621) 0 (q 26)) (q 27))] (q 28) (q 29)) .Mod (.c (.int 2147483629) 0 (q 30)) (q 31)) .FloorDiv (.c (.int 7) 0 (q 32)) (q 33)) (q 34)]
def mixSPos : List (Nat × Nat × Nat × Nat) := [(0, 21, 0, 30), (0, 34, 0, 35), (0, 38, 0, 39), (0, 42, 0, 48), (0, 38, 0, 48), (0, 34, 0, 48), (0, 21, 0, 49), (0, 52, 0, 57), (0, 21, 0, 57), (0, 17, 0, 20), (0, 17, 0, 58), (0, 61, 0, 71), (0, 17, 0, 71), (0, 74, 0, 78), (0, 81, 0, 87), (0, 74, 0, 87), (0, 90, 0, 96), (0, 74, 0, 96), (0, 17, 0, 96), (0, 99, 0, 105), (0, 108, 0, 114), (0, 99, 0, 114), (0, 17, 0, 114), (0, 4, 0, 14), (0, 4, 0, 114), (1, 15, 1, 25), (1, 28, 1, 33), (1, 15, 1, 33), (1, 11, 1, 14), (1, 11, 1, 34), (1, 37, 1, 47), (1, 11, 1, 47), (1, 51, 1, 52), (1, 11, 1, 52), (1, 4, 1, 52)]
section
variable {T : Tab} {n : Nat} {g : Gs}
theorem mix_ev {mx : Nat} {q : Nat → Pos} (hm : Tre.get 12 T.fns mx = some (some ⟨2, 3, mixS q, 0⟩)) {c k : Int} (h1 : wee (1 + 2 * k) = true) (h2 : wee k = true) : ∃ i, (ev T (n + 12)).call mx [.int c, .int k] g = .ok (.int i) g := by
  have e1 : (ev T (n + 10)).e [.sh (.int c), .sh (.int k), .un] g (.bin (.bin (.bin (.bi .int "int" [(.bin (.bin (.v 0 "_law_cell" (q 0)) .Mult (.bin (.c (.int 1) 0 (q 1)) .Add (.bin (.c (.int 2) 0 (q 2)) .Mult (.v 1 "_law_n" (q 3)) (q 4)) (q 5)) (q 6)) .Mult (.c (.int 48271) 0 (q 7)) (q 8))] (q 9) (q 10)) .Mod (.c (.int 2147483647) 0 (q 11)) (q 12)) .Add (.bin (.bin (.c (.int 7919) 0 (q 13)) .Mult (.v 1 "_law_n" (q 14)) (q 15)) .Mult (.v 1 "_law_n" (q 16)) (q 17)) (q 18)) .Add (.bin (.c (.int 104729) 0 (q 19)) .Mult (.v 1 "_law_n" (q 20)) (q 21)) (q 22)) = .ok (.int _) g :=
    r_bin (r_bin (r_bin (r_int rfl (r_bin (r_bin (r_v rfl) (r_bin r_i (r_bin r_i (r_v rfl) (bop_mul rfl)) (bop_add _ _)) (bop_mul (Bool.or_eq_true_iff.mpr (.inr h1)))) r_i (bop_mul (Bool.or_eq_true_iff.mpr (.inr rfl))))) r_i (bop_mod rfl)) (r_bin (r_bin r_i (r_v rfl) (bop_mul rfl)) (r_v rfl) (bop_mul (Bool.or_eq_true_iff.mpr (.inr h2)))) (bop_add _ _)) (r_bin r_i (r_v rfl) (bop_mul rfl)) (bop_add _ _)
  generalize c * (1 + 2 * k) * 48271 % 2147483647 + 7919 * k * k + 104729 * k = B at e1
  have e2 : (ev T (n + 10)).e [.sh (.int c), .sh (.int k), .sh (.int B)] g (.bin (.bin (.bi .int "int" [(.bin (.v 2 "_law_blend" (q 25)) .Mult (.c (.int 69621) 0 (q 26)) (q 27))] (q 28) (q 29)) .Mod (.c (.int 2147483629) 0 (q 30)) (q 31)) .FloorDiv (.c (.int 7) 0 (q 32)) (q 33)) = .ok (.int (B * 69621 % 2147483629 / 7)) g :=
    r_bin (r_bin (r_int rfl (r_bin (r_v rfl) r_i (bop_mul (Bool.or_eq_true_iff.mpr (.inr rfl))))) r_i (bop_mod rfl)) r_i rfl
  refine ⟨B * 69621 % 2147483629 / 7, ?_⟩
  rw [ev_call]
  simp only [stepC, hm]
  show ((ev T (n + 11)).ss [.sh (.int c), .sh (.int k), .un] g (mixS q)).bind _ = _
  rw [ev_ss]
  unfold mixS
  simp only [stepSs, stepS, e1, Rs.bind]
  have es : ([.sh (.int c), .sh (.int k), .un] : List Sl).set 2 (slot false (.bin (.bin (.bin (.bi .int "int" [(.bin (.bin (.v 0 "_law_cell" (q 0)) .Mult (.bin (.c (.int 1) 0 (q 1)) .Add (.bin (.c (.int 2) 0 (q 2)) .Mult (.v 1 "_law_n" (q 3)) (q 4)) (q 5)) (q 6)) .Mult (.c (.int 48271) 0 (q 7)) (q 8))] (q 9) (q 10)) .Mod (.c (.int 2147483647) 0 (q 11)) (q 12)) .Add (.bin (.bin (.c (.int 7919) 0 (q 13)) .Mult (.v 1 "_law_n" (q 14)) (q 15)) .Mult (.v 1 "_law_n" (q 16)) (q 17)) (q 18)) .Add (.bin (.c (.int 104729) 0 (q 19)) .Mult (.v 1 "_law_n" (q 20)) (q 21)) (q 22)) (.int B)) = [.sh (.int c), .sh (.int k), .sh (.int B)] := rfl
  rw [es, e2]
/-- a drawn number lies below the limit -/
theorem draw_ev {f mx nf : Nat} {q : Nat → Pos} (hf : Tre.get 12 T.fns f = some (some ⟨mx, nf, [], 1⟩)) (hm : Tre.get 12 T.fns mx = some (some ⟨2, 3, mixS q, 0⟩)) {l : Int} (l0 : 0 < l) (l1 : l < 1073741824) (hc : g.cells.length = 64) (s0 : 0 ≤ g.spot) (s1 : g.spot < 1000000000) :
    ∃ k g', 0 ≤ k ∧ k < l ∧ (ev T (n + 13)).call f [.tok, .int l] g = .ok (.int k) g' ∧ g'.cells = g.cells ∧ g'.spot = g.spot + 1 ∧ g'.great.length = g.great.length := by
  have a0 : intLe l 0 = false := by rw [intLe_iff]; exact decide_eq_false (by omega)
  have a1 : intLe 1073741824 l = false := by rw [intLe_iff]; exact decide_eq_false (by omega)
  have ec : ∀ r, (ev T (n + 13)).call f [.tok, .int l] g = r ↔ drawC (ev T (n + 12)) mx l g = r := fun r => by
    rw [ev_call]
    simp only [stepC, hf]
  simp only [ec]
  unfold drawC
  simp only [a0, a1, Bool.or_self]
  cases hg : drawG g l with
  | some kg =>
    obtain ⟨k, g'⟩ := kg
    unfold drawG at hg
    split at hg
    · cases hg
    · split at hg
      · split at hg
        · cases hg
        · cases hg
          exact ⟨_, _, Int.emod_nonneg _ (by omega), Int.emod_lt_of_pos _ l0, rfl, rfl, rfl, by simp⟩
      · cases hg
  | none =>
    have hix : (g.spot % 64).toNat < g.cells.length := by omega
    simp only [List.getElem?_eq_getElem hix]
    have wee_of : ∀ i : Int, 0 ≤ i → i < 10000000000 → wee i = true := fun i h0 h1 => by
      unfold wee
      exact Nat.ble_eq_true_of_le (by omega)
    obtain ⟨i, h1⟩ := mix_ev (T := T) (n := n) (g := { g with spot := g.spot + 1 }) hm (c := g.cells[(g.spot % 64).toNat] + 31 * (g.spot / 64)) (k := g.spot) (wee_of _ (by omega) (by omega)) (wee_of _ (by omega) (by omega))
    obtain ⟨j, h2⟩ := mix_ev (T := T) (n := n) (g := { g with spot := g.spot + 1 }) hm (c := i) (k := g.spot + 7) (wee_of _ (by omega) (by omega)) (wee_of _ (by omega) (by omega))
    simp only [h1, h2]
    exact ⟨_, _, Int.emod_nonneg _ (by omega), Int.emod_lt_of_pos _ l0, rfl, rfl, rfl, rfl⟩
end
end Fp
end
section
set_option Elab.async false
set_option linter.all false
set_option maxRecDepth 100000
set_option autoImplicit false
set_option maxHeartbeats 1000000
/-! A block evaluated in chunks; a def without arguments. -/
namespace Fp
open PySem

theorem ss_cut {T : Tab} {r : Ev} {g g1 : Gs} {ρ ρ1 : List Sl} : ∀ {b : List Sm} (k : Nat), stepSs T r ρ g (b.take k) = .ok (.next ρ1) g1 → stepSs T r ρ g b = stepSs T r ρ1 g1 (b.drop k)
  | [], k, h => by
    rw [List.take_nil] at h
    rw [List.drop_nil]
    simp only [stepSs, Rs.ok.injEq, Flw.next.injEq] at h ⊢
    exact ⟨h.1, h.2⟩
  | s :: b, 0, h => by
    simp only [List.take_zero, stepSs, Rs.ok.injEq, Flw.next.injEq] at h
    rw [h.1, h.2]
    rfl
  | s :: b, k + 1, h => by
    rw [List.take_succ_cons] at h
    rw [List.drop_succ_cons]
    simp only [stepSs] at h ⊢
    cases e : stepS T r ρ g s with
    | no => rw [e] at h; cases h
    | ex _ _ _ => rw [e] at h; cases h
    | ok f g2 =>
      rw [e] at h
      cases f with
      | next ρ2 => exact ss_cut k h
      | ret _ => cases h
      | brk _ => cases h
      | cnt _ => cases h
theorem ss_chain {T : Tab} {r : Ev} {g g1 : Gs} {ρ ρ1 : List Sl} {b : List Sm} {x : Rs Flw} (i k j : Nat) (h : stepSs T r ρ g ((b.drop i).take k) = .ok (.next ρ1) g1) (e : i + k = j) (h2 : stepSs T r ρ1 g1 (b.drop j) = x) : stepSs T r ρ g (b.drop i) = x := by
  rw [ss_cut k h, List.drop_drop, e]
  exact h2
theorem fd_of {t : Txt} {i : Nat} (h : hasFd t i = true) : Tre.get 12 t.T.fns i = some (some (fdAt t i)) := by
  unfold hasFd at h
  unfold fdAt
  split at h
  · rename_i d e
    rw [e]
  · cases h
/-- a plain def without arguments, N names -/
def lone (t : Txt) (f N : Nat) : Bool := hasFd t f && (Nat.beq (fdAt t f).prim 0 && (Nat.beq (fdAt t f).np 0 && Nat.beq (fdAt t f).n N))
theorem call0 {t : Txt} {f N m : Nat} {g g' : Gs} {d : D} {b : List Sm} (h : lone t f N = true) (hb : (fdAt t f).body = b) (e : stepSs t.T (ev t.T m) (List.replicate N .un) g b = .ok (.ret d) g') : (ev t.T (m + 2)).call f [] g = .ok d g' := by
  obtain ⟨h1, h⟩ := and2 h
  obtain ⟨h2, h⟩ := and2 h
  obtain ⟨h3, h4⟩ := and2 h
  have h2 := Nat.eq_of_beq_eq_true h2
  have h3 := Nat.eq_of_beq_eq_true h3
  have h4 := Nat.eq_of_beq_eq_true h4
  rw [ev_call]
  simp only [stepC, fd_of h1, h2, h3, h4, hb]
  show ((ev t.T (m + 1)).ss (List.replicate N .un) g b).bind _ = _
  rw [ev_ss, e]
  rfl
end Fp
end
section
set_option Elab.async false
set_option linter.all false
set_option maxRecDepth 100000
set_option autoImplicit false
set_option maxHeartbeats 1000000
/-! k33: the law, evaluated, out of its parts. -/
namespace Fp.K33
open PySem Fp
def lawS (q : Nat → Pos) : List Sm := [
  .asg false 1 "_law_m" (.call 88 "_law_begun" [(.v 0 "_law_script" (q 0))] (q 1) (q 2)) (q 3) (q 4),
  .for (.nm 2 "_law_turn" (q 5)) (.rng "range" [(.bin (.c (.int 1) 0 (q 6)) .Add (.call 87 "_law_draw" [(.v 1 "_law_m" (q 7)), (.c (.int 2) 0 (q 8))] (q 9) (q 10)) (q 11))] (q 12) (q 13)) [.iff (.or [(.not (.call 92 "_law_three_right" [] (q 14) (q 15)) (q 16)), (.not (.call 93 "_law_two_right" [] (q 17) (q 18)) (q 19)), (.not (.call 94 "_law_over_right" [] (q 20) (q 21)) (q 22))] (q 23)) [.ret (.c (.bool false) 0 (q 24)) (q 25)] [] (q 26), .iff (.or [(.not (.call 96 "_law_beyond_right" [] (q 27) (q 28)) (q 29)), (.not (.call 97 "_law_five_right" [] (q 30) (q 31)) (q 32))] (q 33)) [.ret (.c (.bool false) 0 (q 34)) (q 35)] [] (q 36)] (q 37),
  .ret (.c (.bool true) 0 (q 38)) (q 39)]
def lawSPos : List (Nat × Nat × Nat × Nat) := [(0, 24, 0, 35), (0, 13, 0, 23), (0, 13, 0, 36), (0, 4, 0, 10), (0, 4, 0, 36), (1, 8, 1, 17), (1, 27, 1, 28), (1, 41, 1, 47), (1, 49, 1, 50), (1, 31, 1, 40), (1, 31, 1, 51), (1, 27, 1, 51), (1, 21, 1, 26), (1, 21, 1, 52), (2, 15, 2, 31), (2, 15, 2, 33), (2, 11, 2, 33), (2, 41, 2, 55), (2, 41, 2, 57), (2, 37, 2, 57), (2, 66, 2, 81), (2, 66, 2, 83), (2, 62, 2, 83), (2, 11, 2, 84), (3, 19, 3, 24), (3, 12, 3, 24), (2, 8, 3, 24), (4, 15, 4, 32), (4, 15, 4, 34), (4, 11, 4, 34), (4, 42, 4, 57), (4, 42, 4, 59), (4, 38, 4, 59), (4, 11, 4, 59), (5, 19, 5, 24), (5, 12, 5, 24), (4, 8, 5, 24), (1, 4, 5, 24), (6, 11, 6, 15), (6, 4, 6, 15)]
section
variable {T : Tab} {k : Nat} {ql qf qb qm : Nat → Pos}
/-- one turn -/
theorem turn_ev (parts : ∀ f, f = 92 ∨ f = 93 ∨ f = 94 ∨ f = 96 ∨ f = 97 → ∀ g, (ev T (k + 12)).call f [] g = .ok (.bl true) g) (ρ : List Sl) (g : Gs) (q : Nat → Pos) :
    (ev T (k + 16)).ss ρ g [.iff (.or [(.not (.call 92 "_law_three_right" [] (q 14) (q 15)) (q 16)), (.not (.call 93 "_law_two_right" [] (q 17) (q 18)) (q 19)), (.not (.call 94 "_law_over_right" [] (q 20) (q 21)) (q 22))] (q 23)) [.ret (.c (.bool false) 0 (q 24)) (q 25)] [] (q 26), .iff (.or [(.not (.call 96 "_law_beyond_right" [] (q 27) (q 28)) (q 29)), (.not (.call 97 "_law_five_right" [] (q 30) (q 31)) (q 32))] (q 33)) [.ret (.c (.bool false) 0 (q 34)) (q 35)] [] (q 36)] = .ok (.next ρ) g := by
  have p92 := parts 92 (by simp) g
  have p93 := parts 93 (by simp) g
  have p94 := parts 94 (by simp) g
  have p96 := parts 96 (by simp) g
  have p97 := parts 97 (by simp) g
  simp only [ev_ss, stepSs, stepS, evB, ev_e, stepE, evOr, evL, Rs.bind, p92, p93, p94, p96, p97, truth, Rs.of]
theorem law_ev (hl : Tre.get 12 T.fns 98 = some (some ⟨1, 3, lawS ql, 0⟩)) (hb : Tre.get 12 T.fns 88 = some (some ⟨86, 3, begS qb, 2⟩)) {np pr : Nat} (hf : Tre.get 12 T.fns 86 = some (some ⟨np, 4, foldS qf, pr⟩)) {nd : Nat} (hd : Tre.get 12 T.fns 87 = some (some ⟨85, nd, [], 1⟩)) (hm : Tre.get 12 T.fns 85 = some (some ⟨2, 3, mixS qm, 0⟩))
    (parts : ∀ f, f = 92 ∨ f = 93 ∨ f = 94 ∨ f = 96 ∨ f = 97 → ∀ g, (ev T (k + 12)).call f [] g = .ok (.bl true) g) (ns : List Int) (hn : ns.length ≤ 63) : ∃ g', (ev T (k + 18)).call 98 [.scr ns] ⟨[], [], 0⟩ = .ok (.bl true) g' := by
  obtain ⟨cells, great, h1, h2, h3⟩ := begun_ev (T := T) (n := k) hb hf ns hn
  obtain ⟨d, g', d0, d1, h4, _⟩ := draw_ev (T := T) (n := k + 1) (g := ⟨cells, great, 0⟩) hd hm (l := 2) (by decide) (by decide) h1 (show (0 : Int) ≤ 0 by decide) (show (0 : Int) < 1000000000 by decide)
  refine ⟨g', ?_⟩
  rw [ev_call]
  simp only [stepC, hl]
  have e1 : (ev T (k + 16)).e [.sh (.scr ns), .un, .un] ⟨[], [], 0⟩ (.call 88 "_law_begun" [(.v 0 "_law_script" (ql 0))] (ql 1) (ql 2)) = .ok .tok ⟨cells, great, 0⟩ := by
    rw [ev_e]
    have : evL (ev T (k + 15)) [.sh (.scr ns), .un, .un] ⟨[], [], 0⟩ [(.v 0 "_law_script" (ql 0))] = .ok [.scr ns] ⟨[], [], 0⟩ := rfl
    simp only [stepE, this, Rs.bind, h3]
  have e2 : evI (ev T (k + 16)) [.sh (.scr ns), .sh .tok, .un] ⟨cells, great, 0⟩ (.rng "range" [(.bin (.c (.int 1) 0 (ql 6)) .Add (.call 87 "_law_draw" [(.v 1 "_law_m" (ql 7)), (.c (.int 2) 0 (ql 8))] (ql 9) (ql 10)) (ql 11))] (ql 12) (ql 13)) = .ok (rngList 0 (1 + d).toNat) g' := by
    have : evL (ev T (k + 14)) [.sh (.scr ns), .sh .tok, .un] ⟨cells, great, 0⟩ [(.v 1 "_law_m" (ql 7)), (.c (.int 2) 0 (ql 8))] = .ok [.tok, .int 2] ⟨cells, great, 0⟩ := rfl
    have ed : (ev T (k + 15)).e [.sh (.scr ns), .sh .tok, .un] ⟨cells, great, 0⟩ (.call 87 "_law_draw" [(.v 1 "_law_m" (ql 7)), (.c (.int 2) 0 (ql 8))] (ql 9) (ql 10)) = .ok (.int d) g' := by
      rw [ev_e]
      simp only [stepE, this, Rs.bind, h4]
    have ea := r_bin (T := T) (n := k + 15) (p := ql 11) (r_i (T := T) (n := k + 14) (ρ := [.sh (.scr ns), .sh .tok, .un]) (g := ⟨cells, great, 0⟩) (i := 1) (j := 0) (p := ql 6)) ed (bop_add 1 d)
    simp only [evI, evL, ea, Rs.bind]
    have : d = 0 ∨ d = 1 := by omega
    rcases this with rfl | rfl <;> rfl
  have es : (ev T (k + 17)).ss [.sh (.scr ns), .un, .un] ⟨[], [], 0⟩ (lawS ql) = .ok (.ret (.bl true)) g' := by
    rw [ev_ss]
    unfold lawS
    simp only [stepSs, stepS, e1, Rs.bind]
    have el : ([.sh (.scr ns), .un, .un] : List Sl).set 1 (slot false (.call 88 "_law_begun" [(.v 0 "_law_script" (ql 0))] (ql 1) (ql 2)) .tok) = [.sh (.scr ns), .sh .tok, .un] := rfl
    rw [el, e2]
    simp only
    have : d = 0 ∨ d = 1 := by omega
    rcases this with rfl | rfl
    · rw [show rngList 0 (1 + 0 : Int).toNat = [.int 0] from rfl]
      simp only [forGo, bindT, turn_ev parts, Rs.bind]
      rfl
    · rw [show rngList 0 (1 + 1 : Int).toNat = [.int 0, .int 1] from rfl]
      simp only [forGo, bindT, turn_ev parts, Rs.bind]
      rfl
  show ((ev T (k + 17)).ss [.sh (.scr ns), .un, .un] ⟨[], [], 0⟩ (lawS ql)).bind _ = _
  rw [es]
  rfl
end
end Fp.K33
end
section
set_option Elab.async false
set_option linter.all false
set_option maxRecDepth 100000
set_option maxHeartbeats 0
namespace Fp.K33
open PySem Fp
theorem p93 (g : Gs) : (ev t.T 94).call 93 [] g = .ok (.bl true) g := by kernel_rfl
theorem p94 (g : Gs) : (ev t.T 94).call 94 [] g = .ok (.bl true) g := by kernel_rfl
theorem p96 (g : Gs) : (ev t.T 94).call 96 [] g = .ok (.bl true) g := by kernel_rfl
theorem p97 (g : Gs) : (ev t.T 94).call 97 [] g = .ok (.bl true) g := by kernel_rfl
end Fp.K33
end
section
set_option Elab.async false
set_option linter.all false
set_option maxRecDepth 100000
set_option maxHeartbeats 0
namespace Fp.K33
open PySem Fp
def b92 : List Sm := (fdAt t 92).body
def s0 : List Sl := List.replicate 10 .un
def s3 : List Sl := [.sh (.tup [.tup [.int 1, .int 1, .int 1], .int 1, .tup [.tup [.str "put", .int 0, .tup [.int 1, .int 2, .bl true]]], .tup [.int 1, .int 2, .int 0], .int 1]), .sh (.tup [.tup [], .tup [.int 0]]), .sh (.tup [.str "floor", .tup [], .non, .tup [], .bl false, .int 0, .int 0, .int 1]), .sh (.tup [.str "move", .tup [.str "put", .tup [.int 0]]]), .sh (.lst [.int 8, .int 8]), .un, .un, .un, .un, .un]
def s4 : List Sl := [.sh (.tup [.tup [.int 1, .int 1, .int 1], .int 1, .tup [.tup [.str "put", .int 0, .tup [.int 1, .int 2, .bl true]]], .tup [.int 1, .int 2, .int 0], .int 1]), .sh (.tup [.tup [], .tup [.int 0]]), .sh (.tup [.str "floor", .tup [], .non, .tup [], .bl false, .int 0, .int 0, .int 1]), .sh (.tup [.str "move", .tup [.str "put", .tup [.int 0]]]), .sh (.lst [.int 8, .int 8, .int 10, .non, .non]), .un, .un, .un, .un, .un]
def s6 : List Sl := [.sh (.tup [.tup [.int 1, .int 1, .int 1], .int 1, .tup [.tup [.str "put", .int 0, .tup [.int 1, .int 2, .bl true]]], .tup [.int 1, .int 2, .int 0], .int 1]), .sh (.tup [.tup [], .tup [.int 0]]), .sh (.tup [.str "floor", .tup [], .non, .tup [], .bl false, .int 0, .int 0, .int 1]), .sh (.tup [.str "move", .tup [.str "put", .tup [.int 0]]]), .sh (.lst [.tup [.str "move", .tup [.str "put", .tup [.int 0]]], .bl true]), .un, .un, .un, .un, .un]
def s8 : List Sl := [.sh (.tup [.tup [.int 1, .int 1, .int 1], .int 1, .tup [.tup [.str "put", .int 0, .tup [.int 1, .int 2, .bl true]]], .tup [.int 1, .int 2, .int 0], .int 1]), .sh (.tup [.tup [], .tup [.int 0]]), .sh (.tup [.str "floor", .tup [], .non, .tup [], .bl false, .int 0, .int 0, .int 1]), .sh (.tup [.str "move", .tup [.str "put", .tup [.int 0]]]), .sh (.lst [.tup [.str "move", .tup [.str "put", .tup [.int 0]]], .bl true, .bl true, .bl false]), .un, .un, .un, .un, .un]
def s11 : List Sl := [.sh (.tup [.tup [.int 1, .int 1, .int 1], .int 1, .tup [.tup [.str "put", .int 0, .tup [.int 1, .int 2, .bl true]]], .tup [.int 1, .int 2, .int 0], .int 1]), .sh (.tup [.tup [], .tup [.int 0]]), .sh (.tup [.str "floor", .tup [], .non, .tup [], .bl false, .int 0, .int 0, .int 1]), .sh (.tup [.str "move", .tup [.str "put", .tup [.int 0]]]), .sh (.lst [.tup [.tup [.str "move", .tup [.str "put", .tup [.int 0]]], .tup [.str "pass"], .tup [.str "pass"], .tup [.str "pass"], .tup [.str "vote", .tup [.int 0, .int 1]], .tup [.str "pass"], .tup [.str "pass"], .tup [.str "pass"]], .bl false]), .sh (.tup [.tup [.str "move", .tup [.str "put", .tup [.int 0]]], .tup [.str "pass"], .tup [.str "pass"], .tup [.str "pass"], .tup [.str "vote", .tup [.int 0, .int 1]], .tup [.str "pass"], .tup [.str "pass"], .tup [.str "pass"]]), .sh (.tup [.tup [.str "move", .tup [.str "put", .tup [.int 0]]], .tup [.str "pass"], .tup [.str "pass"], .tup [.str "pass"], .tup [.str "vote", .tup [.int 0, .int 2]], .tup [.str "pass"], .tup [.str "pass"], .tup [.str "pass"]]), .un, .un, .un]
def s13 : List Sl := [.sh (.tup [.tup [.int 1, .int 1, .int 1], .int 1, .tup [.tup [.str "put", .int 0, .tup [.int 1, .int 2, .bl true]]], .tup [.int 1, .int 2, .int 0], .int 1]), .sh (.tup [.tup [], .tup [.int 0]]), .sh (.tup [.str "floor", .tup [], .non, .tup [], .bl false, .int 0, .int 0, .int 1]), .sh (.tup [.str "move", .tup [.str "put", .tup [.int 0]]]), .sh (.lst [.tup [.tup [.str "move", .tup [.str "put", .tup [.int 0]]], .tup [.str "pass"], .tup [.str "pass"], .tup [.str "pass"], .tup [.str "vote", .tup [.int 0, .int 1]], .tup [.str "pass"], .tup [.str "pass"], .tup [.str "pass"]], .bl false]), .sh (.tup [.tup [.str "move", .tup [.str "put", .tup [.int 0]]], .tup [.str "pass"], .tup [.str "pass"], .tup [.str "pass"], .tup [.str "vote", .tup [.int 0, .int 1]], .tup [.str "pass"], .tup [.str "pass"], .tup [.str "pass"]]), .sh (.tup [.tup [.str "move", .tup [.str "put", .tup [.int 0]]], .tup [.str "pass"], .tup [.str "pass"], .tup [.str "pass"], .tup [.str "vote", .tup [.int 0, .int 2]], .tup [.str "pass"], .tup [.str "pass"], .tup [.str "pass"]]), .sh (.tup [.tup [.int 1, .int 1, .int 1], .int 1, .tup [.tup [.str "put", .int 0, .tup [.int 1, .int 2, .bl true]]], .tup [.int 1, .int 2, .int 0], .non]), .un, .un]
def s15 : List Sl := [.sh (.tup [.tup [.int 1, .int 1, .int 1], .int 1, .tup [.tup [.str "put", .int 0, .tup [.int 1, .int 2, .bl true]]], .tup [.int 1, .int 2, .int 0], .int 1]), .sh (.tup [.tup [], .tup [.int 0]]), .sh (.tup [.str "floor", .tup [], .non, .tup [], .bl false, .int 0, .int 0, .int 1]), .sh (.tup [.str "move", .tup [.str "put", .tup [.int 0]]]), .sh (.lst [.bl false, .bl false, .bl false, .bl true]), .sh (.tup [.tup [.str "move", .tup [.str "put", .tup [.int 0]]], .tup [.str "pass"], .tup [.str "pass"], .tup [.str "pass"], .tup [.str "vote", .tup [.int 0, .int 1]], .tup [.str "pass"], .tup [.str "pass"], .tup [.str "pass"]]), .sh (.tup [.tup [.str "move", .tup [.str "put", .tup [.int 0]]], .tup [.str "pass"], .tup [.str "pass"], .tup [.str "pass"], .tup [.str "vote", .tup [.int 0, .int 2]], .tup [.str "pass"], .tup [.str "pass"], .tup [.str "pass"]]), .sh (.tup [.tup [.int 1, .int 1, .int 1], .int 1, .tup [.tup [.str "put", .int 0, .tup [.int 1, .int 2, .bl true]]], .tup [.int 1, .int 2, .int 0], .non]), .sh (.tup [.str "floor", .tup [], .non, .tup [], .bl false, .int 0, .int 0, .non]), .un]
theorem c0 (g : Gs) : stepSs t.T (ev t.T 92) s0 g ((b92.drop 0).take 3) = .ok (.next s3) g := by kernel_rfl
theorem c3 (g : Gs) : stepSs t.T (ev t.T 92) s3 g ((b92.drop 3).take 1) = .ok (.next s4) g := by kernel_rfl
theorem c4 (g : Gs) : stepSs t.T (ev t.T 92) s4 g ((b92.drop 4).take 2) = .ok (.next s6) g := by kernel_rfl
theorem c6 (g : Gs) : stepSs t.T (ev t.T 92) s6 g ((b92.drop 6).take 2) = .ok (.next s8) g := by kernel_rfl
theorem c8 (g : Gs) : stepSs t.T (ev t.T 92) s8 g ((b92.drop 8).take 3) = .ok (.next s11) g := by kernel_rfl
theorem c11 (g : Gs) : stepSs t.T (ev t.T 92) s11 g ((b92.drop 11).take 2) = .ok (.next s13) g := by kernel_rfl
theorem c13 (g : Gs) : stepSs t.T (ev t.T 92) s13 g ((b92.drop 13).take 2) = .ok (.next s15) g := by kernel_rfl
theorem c15 (g : Gs) : stepSs t.T (ev t.T 92) s15 g (b92.drop 15) = .ok (.ret (.bl true)) g := by kernel_rfl
theorem l92 : lone t 92 10 = true := by kernel_rfl
theorem p92 (g : Gs) : (ev t.T 94).call 92 [] g = .ok (.bl true) g := by
  refine call0 l92 rfl (ss_chain 0 3 3 (c0 g) rfl (ss_chain 3 1 4 (c3 g) rfl (ss_chain 4 2 6 (c4 g) rfl (ss_chain 6 2 8 (c6 g) rfl (ss_chain 8 3 11 (c8 g) rfl (ss_chain 11 2 13 (c11 g) rfl (ss_chain 13 2 15 (c13 g) rfl (c15 g))))))))
end Fp.K33
end
section
set_option Elab.async false
set_option linter.all false
set_option maxRecDepth 100000
set_option maxHeartbeats 0
namespace Fp.K33
open PySem Fp
theorem hl : Tre.get 12 t.T.fns 98 = some (some ⟨1, 3, lawS (posOf lawSPos 729), 0⟩) := by kernel_rfl
theorem hb : Tre.get 12 t.T.fns 88 = some (some ⟨86, 3, begS (posOf begSPos 648), 2⟩) := by kernel_rfl
theorem hf : Tre.get 12 t.T.fns 86 = some (some ⟨1, 4, foldS (posOf foldSPos 628), 0⟩) := by kernel_rfl
theorem hd : Tre.get 12 t.T.fns 87 = some (some ⟨85, 6, [], 1⟩) := by kernel_rfl
theorem hm : Tre.get 12 t.T.fns 85 = some (some ⟨2, 3, mixS (posOf mixSPos 625), 0⟩) := by kernel_rfl
end Fp.K33
end
section
set_option Elab.async false
set_option linter.all false
set_option maxRecDepth 100000
set_option maxHeartbeats 0
open PySem PySem.W PySem.Calls PyProof.Rows
theorem k33_of (pure : ∀ ns : List Int, ns.length ≤ 63 → ∃ g', (Fp.ev Fp.K33.t.T (99 + 1)).call 98 [.scr ns] ⟨[], [], 0⟩ = .ok (.bl true) g') : PySem.Challenge.rw_floorpowers_k33_powers_by_hand.Holds := by
  w_on; o_law
  refine HandSHeadRun.head_any (r := OpenLaw.row PySem.Challenge.rw_floorpowers_k33_powers_by_hand) (q := view (OpenLaw.row PySem.Challenge.rw_floorpowers_k33_powers_by_hand).prog [155]) (H := Fp.hookR Fp.K33.t) (ob := Fp.K33.ob) (M := 40000) (loose := Fp.K33.loose) (d := HandSHeadRun.topDef (OpenLaw.row PySem.Challenge.rw_floorpowers_k33_powers_by_hand).prog 155) (kwd := []) Fp.K33.ob_eq
    (by kernel_rfl) (fun s => by kernel_rfl) Fp.K33.run (by kernel_rfl) (by kernel_rfl) (by kernel_rfl) (by rfl) (by first | assumption | decide +kernel) (by decide +kernel) ⟨rfl, rfl, rfl, rfl, rfl, by decide +kernel⟩ ?hw ?hc
  case hw => w_witness2
  case hc =>
    refine L2.walk_ofE (l := PySem.Challenge.rw_floorpowers_k33_powers_by_hand) (n := 63) (k := 2 * 99 + 4) (x := "_law_script") (CX := Fp.CXE PySem.Challenge.pw_floorpowers_k33_powers_by_hand) rfl (by decide) (by kernel_rfl) ⟨rfl, by decide, by decide⟩ ?F (fun H s e s' z => Fp.cxe_no H s e s' z)
    intro w mg fa h Y G hmg0
    obtain ⟨K, KX, c⟩ := Y
    have hmg : mg ("law" : PySem.Str) = some (.ref fa) := by
      have e : (HandSHeadRun.topDef (OpenLaw.row PySem.Challenge.rw_floorpowers_k33_powers_by_hand).prog 155).name = ("law" : PySem.Str) := by kernel_rfl
      rw [← e]
      exact hmg0
    obtain ⟨fd, sp, h1, h2, h3⟩ := Fp.law_facts (P := PySem.Challenge.pw_floorpowers_k33_powers_by_hand) (w := w) KX G c Fp.K33.tw Fp.K33.dw Fp.K33.un Fp.K33.pr Fp.K33.lb pure hmg
    exact ⟨K, fd, sp, KX, h1, h2, fun base hb hg => Fp.fn_cx (h3 base hb hg)⟩
end
section
set_option Elab.async false
set_option linter.all false
set_option maxRecDepth 100000
set_option maxHeartbeats 0
theorem Fp.K33.pure_ (ns : List Int) (hn : ns.length ≤ 63) : ∃ g', (Fp.ev Fp.K33.t.T (99 + 1)).call 98 [.scr ns] ⟨[], [], 0⟩ = .ok (.bl true) g' :=
  Fp.K33.law_ev (k := 82) Fp.K33.hl Fp.K33.hb Fp.K33.hf Fp.K33.hd Fp.K33.hm (fun f h g => by
    rcases h with rfl | rfl | rfl | rfl | rfl
    · exact Fp.K33.p92 g
    · exact Fp.K33.p93 g
    · exact Fp.K33.p94 g
    · exact Fp.K33.p96 g
    · exact Fp.K33.p97 g) ns hn
theorem PySem.Challenge.cw_floorpowers_k33_powers_by_hand_holds : PySem.Challenge.rw_floorpowers_k33_powers_by_hand.Holds :=
  k33_of Fp.K33.pure_
end
