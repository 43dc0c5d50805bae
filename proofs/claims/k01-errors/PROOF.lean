import PyProof.Rows.All
import Wide.All
import OpenK.AllK
import Wide.FinOn
import PySem.Str
import PySem.Builtin.Int.W1All
import HandS.ForMost
import HandS.Exc
import HandS.Lambda
import HandS.IsInst
import HandS.SortRule
import HandS.SetFor
import HandS.DictTup
import HandS.Deep
import HandS.TupLe
import HandS.DictComp
import HandS.TupAny
import HandS.TupMul
import HandS.Evl
import KE.DataEq
import HandS.TupLen
import HandS.WordsDict
import HandS.WideBits
import HandS.Zip
import HandS.Walk
import HandS.ExcOwn
import HandS.Style
import HandS.Small
import HandS.SortInts
import HandS.Conv
import HandS.TryMany
import HandS.HeadWalk
import HandS.HeadHook4
import HandS.Head2
import KE.KStateDown
import PySem.Challenge.RW_freewithin_k01_errors
section
set_option autoImplicit false
/-! Fw: a small language of values with its evaluator. Tuples, lists and dicts are values; what is changed is an object of the store. -/
namespace Fw
open PySem (Str)

/-- values -/
inductive D where
  | non | bl (b : Bool) | int (i : Int) | str (s : Str)
  | tup (xs : List D) | lst (xs : List D)
  /-- keys and values; t: the keys are tuples of numbers, else numbers -/
  | dct (t : Bool) (ks vs : List D)
  | set (xs : List Int) | scr (ns : List Int) | obj (fs : List D)
  /-- a tuple that the text's top has made -/
  | ctup (xs : List D)
  | fn (i : Nat) | clo | ref (i : Nat)

/-- the store: what is changed; none: no more -/
abbrev Sto := List (Option D)
/-- what an evaluation gives: a value, an error of a class, or nothing is known -/
inductive R (α : Type) where
  | ok (a : α) (s : Sto) | exc (c : Nat) (s : Sto) | stuck
abbrev M (α : Type) := Sto → R α
def ret {α : Type} (a : α) : M α := fun s => .ok a s
def stk {α : Type} : M α := fun _ => .stuck
def bnd {α β : Type} (x : M α) (f : α → M β) : M β := fun s => match x s with
  | .ok a s' => f a s'
  | .exc c s' => .exc c s'
  | .stuck => .stuck
/-- .. where no error may come -/
def bnd0 {α β : Type} (x : M α) (f : α → M β) : M β := fun s => match x s with
  | .ok a s' => f a s'
  | _ => .stuck
def opt {α : Type} : Option α → M α
  | some a => ret a
  | none => stk

/-! ### values -/
mutual
def D.beq : D → D → Bool
  | .non, .non => true
  | .bl a, .bl b => a == b
  | .int a, .int b => a == b
  | .str a, .str b => a == b
  | .tup a, .tup b => D.beqs a b
  | .lst a, .lst b => D.beqs a b
  | .dct t a c, .dct u b d => t == u && D.beqs a b && D.beqs c d
  | .set a, .set b => a == b
  | .scr a, .scr b => a == b
  | .obj a, .obj b => D.beqs a b
  | .ctup a, .ctup b => D.beqs a b
  | .fn a, .fn b => a == b
  | .clo, .clo => true
  | .ref a, .ref b => a == b
  | _, _ => false
def D.beqs : List D → List D → Bool
  | [], [] => true
  | x :: xs, y :: ys => D.beq x y && D.beqs xs ys
  | _, _ => false
end
mutual
/-- data, nested so deep at most: what == compares by value -/
def D.plainN : D → Nat → Bool
  | .non, _ | .bl _, _ | .int _, _ | .str _, _ => true
  | .tup xs, n + 1 | .lst xs, n + 1 => D.plainsN xs n
  | _, _ => false
def D.plainsN : List D → Nat → Bool
  | [], _ => true
  | x :: xs, n => D.plainN x n && D.plainsN xs n
end
def D.plain (d : D) : Bool := D.plainN d 40
def D.plains (ds : List D) : Bool := D.plainsN ds 39
mutual
/-- == of data -/
def D.eqv : D → D → Bool
  | .non, .non => true
  | .bl a, .bl b => a == b
  | .bl a, .int j => (if a then 1 else 0) == j
  | .int i, .bl b => i == (if b then 1 else 0)
  | .int a, .int b => a == b
  | .str a, .str b => a == b
  | .tup a, .tup b => D.eqvs a b
  | .lst a, .lst b => D.eqvs a b
  | _, _ => false
def D.eqvs : List D → List D → Bool
  | [], [] => true
  | x :: xs, y :: ys => D.eqv x y && D.eqvs xs ys
  | _, _ => false
end
mutual
/-- no object of the store within -/
def D.noref : D → Bool
  | .ref _ | .clo => false
  | .tup xs | .lst xs | .obj xs | .ctup xs => D.norefs xs
  | .dct _ a b => D.norefs a && D.norefs b
  | _ => true
def D.norefs : List D → Bool
  | [] => true
  | x :: xs => D.noref x && D.norefs xs
end
/-- an object's content, or the value itself -/
def view (s : Sto) : D → D
  | .ref i => match s[i]? with
    | some (some d) => d
    | _ => .clo
  | d => d
/-- the items of a tuple or list -/
def seqOf (s : Sto) (d : D) : Option (List D) := match view s d with
  | .tup xs | .lst xs | .ctup xs => some xs
  | .scr ns => some (ns.map .int)
  | _ => none
def intsOf : List D → Option (List Int)
  | [] => some []
  | .int i :: r => (intsOf r).map (i :: ·)
  | _ :: _ => none
def blsOf : List D → Option (List Bool)
  | [] => some []
  | .bl i :: r => (blsOf r).map (i :: ·)
  | _ :: _ => none
def cap : Nat := 100000
def truth : D → Option Bool
  | .non => some false
  | .bl b => some b
  | .int i => some (i != 0)
  | _ => none
/-- the place of an index -/
def place (n : Nat) (i : Int) : Option Nat := if 0 ≤ i then (if i < n then some i.toNat else none) else if -(n : Int) ≤ i then some (i + n).toNat else none
/-- where a slice's bound lies -/
def cutAt (n d : Nat) : Option Int → Nat
  | none => d
  | some i => if i < 0 then (max (i + n) 0).toNat else min i.toNat n
def cut {α : Type} (xs : List α) (lo hi : Option Int) : List α := (xs.drop (cutAt xs.length 0 lo)).take (cutAt xs.length xs.length hi - cutAt xs.length 0 lo)

/-! ### order: by lists of numbers -/
def lexLt : List Int → List Int → Bool
  | _, [] => false
  | [], _ :: _ => true
  | x :: xs, y :: ys => if x = y then lexLt xs ys else decide (x < y)
/-- 0: ints; 1: tuples of ints; 2: (int, tuple of ints); 3: (int, list) -/
def okey : Nat → D → Option (List Int)
  | 0, .int i => some [i]
  | 1, .tup xs => intsOf xs
  | 2, .tup [.int i, .tup xs] => (intsOf xs).map (i :: ·)
  | 3, .tup [.int i, .lst _] => some [i]
  | _, _ => none
def okeys (k : Nat) : List D → Option (List (List Int))
  | [] => some []
  | x :: xs => match okey k x, okeys k xs with
    | some a, some r => some (a :: r)
    | _, _ => none
def okind : List D → Nat
  | .int _ :: _ => 0
  | .tup [.int _, .tup _] :: _ => 2
  | .tup [.int _, .lst _] :: _ => 3
  | _ => 1
def insBy (x : List Int × D) : List (List Int × D) → List (List Int × D)
  | [] => [x]
  | y :: ys => if lexLt y.1 x.1 then y :: insBy x ys else x :: y :: ys
def sortBy : List (List Int × D) → List (List Int × D)
  | [] => []
  | x :: xs => insBy x (sortBy xs)
def nodupI : List (List Int) → Bool
  | [] => true
  | x :: xs => !xs.contains x && nodupI xs
/-- sorted: ints; tuples of ints, none of them empty -/
def sortD (xs : List D) : Option (List D) :=
  if xs.length ≤ 1 then some xs else
  let k := okind xs
  if k = 0 ∨ k = 1 then (match okeys k xs with
    | none => none
    | some ks => if ks.contains [] then none else some ((sortBy (ks.zip xs)).map (·.2))) else none
def ltD (a b : D) : Option Bool :=
  let k := okind [a, b]
  if k == 3 then none else match okey k a, okey k b with
  | some x, some y => some (lexLt x y)
  | _, _ => none
def maxI : Int → List Int → Int
  | m, [] => m
  | m, x :: xs => maxI (if x > m then x else m) xs
def minI : Int → List Int → Int
  | m, [] => m
  | m, x :: xs => minI (if x < m then x else m) xs
def minBy : List Int × D → List (List Int × D) → D
  | m, [] => m.2
  | m, x :: xs => minBy (if lexLt x.1 m.1 then x else m) xs

def maxBy : Int × D → List (Int × D) → D
  | m, [] => m.2
  | m, x :: xs => maxBy (if x.1 > m.1 then x else m) xs

/-! ### operators -/
inductive BO where | add | sub | mul | fdiv | mod | shl | shr | and | or | xor
inductive CO where | eq | ne | lt | le | gt | ge | inn | nin | is | isn

def intOp : BO → Int → Int → Option Int
  | .add, i, j => some (i + j)
  | .sub, i, j => some (i - j)
  | .mul, i, j => if i.natAbs < 18446744073709551616 ∨ j.natAbs < 18446744073709551616 then some (i * j) else none
  | .fdiv, i, j => if j ≠ 0 ∧ j.natAbs < 1073741824 then some (i.fdiv j) else none
  | .mod, i, j => if j ≠ 0 then some (i.fmod j) else none
  | .shl, i, j => if 0 ≤ j ∧ j ≤ 1000000 ∧ i.natAbs < 18446744073709551616 then some (i * 2 ^ j.toNat) else none
  | .shr, i, j => if 0 ≤ j then some (i / 2 ^ j.toNat) else none
  | .and, i, j => some (PySem.Builtin.bitAnd i j)
  | .or, i, j => some (PySem.Builtin.bitOr i j)
  | .xor, i, j => some (PySem.Builtin.bitXor i j)
def repN {α : Type} : Nat → List α → List α
  | 0, _ => []
  | n + 1, xs => xs ++ repN n xs
/-- a op b -/
def binOp (o : BO) (a b : D) : M D := fun s => match a, b with
  | .int i, .int j => match intOp o i j with
    | some k => .ok (.int k) s
    | none => .stuck
  | a, b => match o, view s a, view s b with
    | .add, .tup xs, .tup ys => if xs.length + ys.length ≤ cap then .ok (.tup (xs ++ ys)) s else .stuck
    | .add, .lst xs, .lst ys => if xs.length + ys.length ≤ cap then .ok (.lst (xs ++ ys)) s else .stuck
    | .add, .str x, .str y => if x.cps.size = 0 ∧ y.cps.size ≤ cap then .ok (.str y) s else .stuck
    | .mul, .tup xs, .int n => if 0 ≤ n ∧ n ≤ 1000 ∧ xs.length ≤ 1000 then .ok (.tup (repN n.toNat xs)) s else .stuck
    | .mul, .lst xs, .int n => if 0 ≤ n ∧ n ≤ 1000 ∧ xs.length ≤ 1000 then .ok (.lst (repN n.toNat xs)) s else .stuck
    | _, _, _ => .stuck
/-- a key of a dict: a number, or a tuple of numbers -/
def isKey : Bool → D → Bool
  | false, .int _ => true
  | true, .tup xs => (intsOf xs).isSome
  | _, _ => false
def dget : List D → List D → D → Option D
  | k :: ks, v :: vs, x => if D.beq k x then some v else dget ks vs x
  | _, _, _ => none
def dput : List D → List D → D → D → List D × List D
  | k :: ks, v :: vs, x, y => if D.beq k x then (k :: ks, y :: vs) else let r := dput ks vs x y; (k :: r.1, v :: r.2)
  | _, _, x, y => ([x], [y])
def isIn (s : Sto) (a b : D) : Option Bool := match view s b with
  | .tup xs | .lst xs | .ctup xs => if D.plain a && D.plains xs then some (xs.any fun y => D.eqv y a) else none
  | .dct t ks vs => if isKey t a then some (dget ks vs a).isSome else none
  | _ => none
def D.isNon : D → Bool
  | .non => true
  | _ => false
def D.isBl (k : Bool) : D → Bool
  | .bl j => j == k
  | _ => false
def cmpOp (o : CO) (a b : D) : M D := fun s => match o with
  | .eq => let x := view s a; let y := view s b; if D.plain x && D.plain y then .ok (.bl (D.eqv x y)) s else .stuck
  | .ne => let x := view s a; let y := view s b; if D.plain x && D.plain y then .ok (.bl (!D.eqv x y)) s else .stuck
  | .lt => match a, b with
    | .int i, .int j => .ok (.bl (decide (i < j))) s
    | .tup xs, .tup ys => match intsOf xs, intsOf ys with
      | some u, some v => .ok (.bl (lexLt u v)) s
      | _, _ => .stuck
    | _, _ => .stuck
  | .le => match a, b with
    | .int i, .int j => .ok (.bl (decide (i ≤ j))) s
    | _, _ => .stuck
  | .gt => match a, b with
    | .int i, .int j => .ok (.bl (decide (j < i))) s
    | _, _ => .stuck
  | .ge => match a, b with
    | .int i, .int j => .ok (.bl (decide (j ≤ i))) s
    | _, _ => .stuck
  | .inn => match isIn s a b with
    | some k => .ok (.bl k) s
    | none => .stuck
  | .nin => match isIn s a b with
    | some k => .ok (.bl !k) s
    | none => .stuck
  | .is => match b with
    | .non => .ok (.bl a.isNon) s
    | .bl k => .ok (.bl (a.isBl k)) s
    | _ => .stuck
  | .isn => match b with
    | .non => .ok (.bl !a.isNon) s
    | _ => .stuck

/-! ### built-ins -/
inductive BI where
  | len | sum | all | any | max | min | max2 | min2 | sorted | sortedR | tuple | list | dict | set | abs | int
  | isInt | isBool | isTuple | isStr | isList | bitLen | values | get | index
  deriving DecidableEq
def bitLen (i : Int) : Nat := if i = 0 then 0 else i.natAbs.log2 + 1
def dedup : List Int → List Int → List Int
  | acc, [] => acc
  | acc, x :: xs => dedup (if acc.contains x then acc else acc ++ [x]) xs
def putAll (t : Bool) : List D → List D → List D → Option (List D × List D)
  | ks, vs, [] => some (ks, vs)
  | ks, vs, .tup [k, v] :: r => if isKey t k then let q := dput ks vs k v; putAll t q.1 q.2 r else none
  | _, _, _ => none
def findIx (x : D) : List D → Nat → Option Nat
  | [], _ => none
  | y :: ys, n => if D.eqv y x then some n else findIx x ys (n + 1)
def biOp (b : BI) (as : List D) : M D := fun s => match b, as with
  | .len, [a] => match view s a with
    | .tup xs | .lst xs | .ctup xs => .ok (.int xs.length) s
    | .scr xs => .ok (.int xs.length) s
    | .dct _ ks _ => .ok (.int ks.length) s
    | _ => .stuck
  | .sum, [a] => match view s a with
    | .lst xs => match intsOf xs with
      | some ns => .ok (.int ns.sum) s
      | none => .stuck
    | _ => .stuck
  | .all, [a] => match view s a with
    | .lst xs => match blsOf xs with
      | some ns => .ok (.bl (ns.all id)) s
      | none => .stuck
    | _ => .stuck
  | .any, [a] => match view s a with
    | .lst xs => match blsOf xs with
      | some ns => .ok (.bl (ns.any id)) s
      | none => .stuck
    | _ => .stuck
  | .max, [a] => match view s a with
    | .lst xs => match intsOf xs with
      | some (n :: ns) => .ok (.int (maxI n ns)) s
      | _ => .stuck
    | _ => .stuck
  | .min, [a] => match view s a with
    | .lst xs => match intsOf xs with
      | some (n :: ns) => .ok (.int (minI n ns)) s
      | _ => .stuck
    | _ => .stuck
  | .max2, [.int i, .int j] => .ok (.int (if j > i then j else i)) s
  | .min2, [.int i, .int j] => .ok (.int (if j < i then j else i)) s
  | .sorted, [a] => match view s a with
    | .lst xs => match sortD xs with
      | some ys => .ok (.lst ys) s
      | none => .stuck
    | _ => .stuck
  | .tuple, [a] => match view s a with
    | .tup xs | .lst xs => .ok (.tup xs) s
    | _ => .stuck
  | .list, [a] => match view s a with
    | .tup xs | .lst xs => .ok (.lst xs) s
    | _ => .stuck
  | .dict, [a] => match view s a with
    | .dct t ks vs => .ok (.dct t ks vs) s
    | .lst xs => match putAll false [] [] xs with
      | some q => .ok (.dct false q.1 q.2) s
      | none => .stuck
    | _ => .stuck
  | .set, [a] => match seqOf s a with
    | some xs => match intsOf xs with
      | some ns => .ok (.set (dedup [] ns)) s
      | none => .stuck
    | none => .stuck
  | .abs, [.int i] => .ok (.int (if i < 0 then -i else i)) s
  | .int, [.int i] => .ok (.int i) s
  | .int, [.bl k] => .ok (.int (if k then 1 else 0)) s
  | .isInt, [a] => match view s a with
    | .int _ | .bl _ => .ok (.bl true) s
    | .non | .str _ | .tup _ | .lst _ => .ok (.bl false) s
    | _ => .stuck
  | .isBool, [a] => match view s a with
    | .bl _ => .ok (.bl true) s
    | .int _ | .non | .str _ | .tup _ | .lst _ => .ok (.bl false) s
    | _ => .stuck
  | .isTuple, [a] => match view s a with
    | .tup _ => .ok (.bl true) s
    | .int _ | .bl _ | .non | .str _ | .lst _ => .ok (.bl false) s
    | _ => .stuck
  | .isStr, [a] => match view s a with
    | .str _ => .ok (.bl true) s
    | .int _ | .bl _ | .non | .tup _ | .lst _ => .ok (.bl false) s
    | _ => .stuck
  | .isList, [a] => match view s a with
    | .lst _ => .ok (.bl true) s
    | .int _ | .bl _ | .non | .str _ | .tup _ => .ok (.bl false) s
    | _ => .stuck
  | .bitLen, [.int i] => .ok (.int (bitLen i)) s
  | .values, [a] => match view s a with
    | .dct _ _ vs => .ok (.lst vs) s
    | _ => .stuck
  | .get, [a, k, x] => match view s a with
    | .dct t ks vs => if isKey t k then .ok ((dget ks vs k).getD x) s else .stuck
    | _ => .stuck
  | .index, [a, x] => match view s a with
    | .lst xs => if D.plain x && D.plains xs then (match findIx x xs 0 with | some n => .ok (.int n) s | none => .stuck) else .stuck
    | _ => .stuck
  | _, _ => .stuck
/-- a[i] -/
def subOp (a i : D) : M D := fun s => match view s a, i with
  | .tup xs, .int n | .lst xs, .int n | .ctup xs, .int n => match (place xs.length n).bind (xs[·]?) with
    | some d => .ok d s
    | none => .stuck
  | .scr xs, .int n => match (place xs.length n).bind (xs[·]?) with
    | some d => .ok (.int d) s
    | none => .stuck
  | .dct t ks vs, k => if isKey t k then (match dget ks vs k with | some d => .ok d s | none => .stuck) else .stuck
  | _, _ => .stuck
def slcOp (a : D) (lo hi : Option Int) : M D := fun s => match view s a with
  | .tup xs => .ok (.tup (cut xs lo hi)) s
  | .lst xs => .ok (.lst (cut xs lo hi)) s
  | _ => .stuck
/-- Table(n, ranks) -/
def mkOp (as : List D) : M D := fun s => match as with
  | [.int n, .lst ranks] => if 0 ≤ n ∧ n ≤ 1000 then (match ranks[(2 ^ n.toNat - 1 : Nat)]? with
    | some r => .ok (.obj [.int n, .lst ranks, .int ((2 ^ n.toNat - 1 : Nat) : Int), r]) s
    | none => .stuck) else .stuck
  | _ => .stuck

/-! ### what is walked -/
inductive IK where | seq | rng | enum | zip | items
  deriving DecidableEq
def rangeL (a : Int) : Nat → List D
  | 0 => []
  | n + 1 => .int a :: rangeL (a + 1) n
def enumL : Nat → List D → List D
  | _, [] => []
  | n, x :: xs => .tup [.int n, x] :: enumL (n + 1) xs
def zipL : List D → List D → List D
  | x :: xs, y :: ys => .tup [x, y] :: zipL xs ys
  | _, _ => []
def iterOf (k : IK) (as : List D) (s : Sto) : Option (List D) := match k, as with
  | .seq, [a] => match view s a with
    | .tup xs | .lst xs | .ctup xs => some xs
    | _ => none
  | .rng, [.int n] => if n.toNat ≤ cap ∧ -1000000000 ≤ n then some (rangeL 0 n.toNat) else none
  | .rng, [.int a, .int b] => if (b - a).toNat ≤ cap ∧ a.natAbs ≤ 1000000000 ∧ b.natAbs ≤ 1000000000 then some (rangeL a (b - a).toNat) else none
  | .enum, [a] => match view s a with
    | .lst xs => some (enumL 0 xs)
    | _ => none
  | .zip, [a, b] => match view s a, view s b with
    | .tup xs, .tup ys | .lst xs, .lst ys => some (zipL xs ys)
    | _, _ => none
  | _, _ => none
def isRef : D → Bool
  | .ref _ => true
  | _ => false
/-- what is walked stands as it stood -/
def stays (k : IK) (as : List D) (xs : List D) (s : Sto) : Bool := !as.any isRef || (match iterOf k as s with | some ys => D.beqs xs ys | none => false)

/-! ### the language -/
inductive MT where | nm (i : Nat) | tp (ts : List MT)
inductive ME where
  | nev | lit (d : D) | var (i : Nat) | gl (g : Nat) (d : D)
  | bin (o : BO) (a b : ME) | neg (a : ME) | cmp (o : CO) (a b : ME) | chain (o p : CO) (a b c : ME)
  | and (a b : ME) | or (a b : ME) | not (a : ME) | ite (c a b : ME)
  | tup (es : List ME) | lst (es : List ME) | dct (t : Bool) (ks vs : List ME)
  | sub (a i : ME) | slc (a : ME) (lo hi : Option ME) | fld (a : ME) (k : Nat)
  | comp (t : MT) (k : IK) (es : List ME) (cs : List ME) (e : ME)
  | comp2 (t : MT) (k : IK) (es : List ME) (t2 : MT) (k2 : IK) (es2 : List ME) (e : ME)
  | dcomp (d : Bool) (t : MT) (k : IK) (es : List ME) (a b : ME)
  | call (f : Nat) (es : List ME) | callv (g : ME) (es : List ME) | clo (i : Nat) (es : List ME)
  | lam (f : Nat) (es : List ME) (ps : List Nat) (body : ME)
  | meth (f : Nat) (o : ME) (es : List ME) | get (a k x : ME) | bi (b : BI) (es : List ME) | bit (b : BI) (k : IK) (es : List ME) | mk (es : List ME)
  | sortk (k : IK) (es : List ME) (p : Nat) (body : ME) | maxk (f : Nat) (e : ME)
  | newr (e : ME) | frz (i : Nat)
inductive HB where | str (x : Str) | told (x y : Str)
/-- targets of an assignment to several: names, places of objects -/
inductive ST where | nm (i : Nat) | sb (o i : ME)
inductive MS where
  | asg (t : MT) (e : ME) | asgs (ts : List ST) (e : ME) | aug (i : Nat) (o : BO) (e : ME)
  | seti (o i e : ME) | app (o e : ME) | upd (o e : ME)
  | expr (e : ME) | retn (e : ME) | raise (c : Nat)
  | ifs (c : ME) (as bs : List MS) | for (t : MT) (k : IK) (es : List ME) (body : List MS) | while (n : Nat) (c : ME) (body : List MS)
  | brk | pass | never | try (body : List MS) (hs : List (Nat × HB))

abbrev Env := List (Option D)
/-- defs by number: arguments, and the function that a lambda gives -/
abbrev FT := Nat → List D → Option (List D → M D) → M D
def FT.none : FT := fun _ _ _ => stk

mutual
/-- a target takes a value -/
def asgT : MT → D → Env → Sto → Option Env
  | .nm i, d, ρ, _ => if i < ρ.length then some (ρ.set i (some d)) else none
  | .tp ts, d, ρ, s => match d with
    | .tup xs | .ctup xs => asgTs ts xs ρ s
    | _ => none
def asgTs : List MT → List D → Env → Sto → Option Env
  | [], [], ρ, _ => some ρ
  | t :: ts, x :: xs, ρ, s => match asgT t x ρ s with
    | some ρ' => asgTs ts xs ρ' s
    | none => none
  | _, _, _, _ => none
end
def compLoop (st : Sto → Bool) (f : D → M (Option D)) : List D → M (List D)
  | [] => fun s => if st s then .ok [] s else .stuck
  | x :: xs => fun s => if st s then bnd0 (f x) (fun o => bnd0 (compLoop st f xs) fun r => ret (match o with | some d => d :: r | none => r)) s else .stuck
/-- .. whose items are several -/
def compLoop2 (st : Sto → Bool) (f : D → M (List D)) : List D → M (List D)
  | [] => fun s => if st s then .ok [] s else .stuck
  | x :: xs => fun s => if st s then bnd0 (f x) (fun o => bnd0 (compLoop2 st f xs) fun r => ret (o ++ r)) s else .stuck
mutual
/-- the names of a target -/
def MT.slots : MT → List Nat
  | .nm i => [i]
  | .tp ts => MT.slotss ts
def MT.slotss : List MT → List Nat
  | [] => []
  | t :: ts => MT.slots t ++ MT.slotss ts
end
def wipeE : List Nat → Env → Env
  | [], ρ => ρ
  | i :: is, ρ => (wipeE is ρ).set i none
/-- a def is left: what it made goes -/
def leave (n : Nat) (d : D) : M D := fun s => if s.length = n then .ok d s else if D.noref d then .ok d (s.take n) else .stuck
def setAll : List Nat → List D → Env → Option Env
  | [], [], ρ => some ρ
  | i :: is, x :: xs, ρ => if i < ρ.length then setAll is xs (ρ.set i (some x)) else none
  | _, _, _ => none
/-- what a lambda gives -/
def closure (ev : Nat → Env → M D) (ps : List Nat) (ρ : Env) : List D → M D := fun xs s => match setAll ps xs ρ with
  | some ρ' => match ev s.length ρ' s with
    | .ok d s' => leave s.length d s'
    | .exc c s' => .exc c (s'.take s.length)
    | .stuck => .stuck
  | none => .stuck
def fldOp (a : D) (k : Nat) : M D := match a with
  | .obj fs => opt fs[k]?
  | _ => stk
/-- a list that is changed -/
def isLstAt (s : Sto) : D → Bool
  | .ref j => (match s[j]? with
    | some (some (.lst _)) => true
    | _ => false)
  | _ => false
def isDctAt (s : Sto) (d : D) : Bool := match view s d with
  | .dct _ _ _ => true
  | _ => false
mutual
def ev (F F2 : FT) (cl : Option (List D → M D)) : ME → Nat → Env → M D
  | .nev, _, _ => stk
  | .lit d, _, _ => ret d
  | .var i, _, ρ => match ρ[i]? with
    | some (some .clo) => stk
    | some (some d) => ret d
    | _ => stk
  | .gl _ d, _, _ => ret d
  | .bin o a b, n, ρ => bnd (ev F F2 cl a n ρ) fun x => bnd (ev F F2 cl b n ρ) fun y => binOp o x y
  | .neg a, n, ρ => bnd (ev F F2 cl a n ρ) fun x => match x with
    | .int i => ret (.int (-i))
    | _ => stk
  | .cmp o a b, n, ρ => bnd (ev F F2 cl a n ρ) fun x => bnd (ev F F2 cl b n ρ) fun y => cmpOp o x y
  | .chain o p a b c, n, ρ => bnd (ev F F2 cl a n ρ) fun x => bnd (ev F F2 cl b n ρ) fun y => bnd (cmpOp o x y) fun z => match z with
    | .bl true => bnd (ev F F2 cl c n ρ) fun w => cmpOp p y w
    | .bl false => ret (.bl false)
    | _ => stk
  | .and a b, n, ρ => bnd (ev F F2 cl a n ρ) fun x => match x with
    | .bl true => ev F F2 cl b n ρ
    | .bl false => ret (.bl false)
    | _ => stk
  | .or a b, n, ρ => bnd (ev F F2 cl a n ρ) fun x => match x with
    | .bl true => ret (.bl true)
    | .bl false => ev F F2 cl b n ρ
    | _ => stk
  | .not a, n, ρ => bnd (ev F F2 cl a n ρ) fun x => match x with
    | .bl k => ret (.bl !k)
    | _ => stk
  | .ite c a b, n, ρ => bnd (evT F F2 cl c n ρ) fun k => if k then ev F F2 cl a n ρ else ev F F2 cl b n ρ
  | .tup es, n, ρ => bnd (evs F F2 cl es n ρ) fun xs => ret (.tup xs)
  | .lst es, n, ρ => bnd (evs F F2 cl es n ρ) fun xs => ret (.lst xs)
  | .dct t ks vs, n, ρ => bnd (evs F F2 cl ks n ρ) fun xs => bnd (evs F F2 cl vs n ρ) fun ys => match putAll t [] [] (zipL xs ys) with
    | some q => ret (.dct t q.1 q.2)
    | none => stk
  | .sub a i, n, ρ => bnd (ev F F2 cl a n ρ) fun x => bnd (ev F F2 cl i n ρ) fun y => subOp x y
  | .slc a lo hi, n, ρ => bnd (ev F F2 cl a n ρ) fun x => bnd (evO F F2 cl lo n ρ) fun l => bnd (evO F F2 cl hi n ρ) fun h => slcOp x l h
  | .fld a k, n, ρ => bnd (ev F F2 cl a n ρ) fun x => fldOp x k
  | .comp t k es cs e, n, ρ => bnd (evs F F2 cl es n ρ) fun as s => match iterOf k as s with
    | none => .stuck
    | some xs => if cap < xs.length then .stuck else bnd (compLoop (stays k as xs) (fun x s => match asgT t x (wipeE t.slots ρ) s with
      | none => .stuck
      | some ρ' => bnd (evC F F2 none cs n ρ') (fun k => if k then bnd (ev F F2 none e n ρ') fun d => ret (some d) else ret none) s) xs) (fun r => ret (.lst r)) s
  | .comp2 t k es t2 k2 es2 e, n, ρ => bnd (evs F F2 cl es n ρ) fun as s => match iterOf k as s with
    | none => .stuck
    | some xs => bnd (compLoop2 (stays k as xs) (fun x s => match asgT t x (wipeE (t.slots ++ t2.slots) ρ) s with
      | none => .stuck
      | some ρ' => bnd (evs F F2 none es2 n ρ') (fun as2 s => match iterOf k2 as2 s with
        | none => .stuck
        | some ys => compLoop (stays k2 as2 ys) (fun y s => match asgT t2 y (wipeE t2.slots ρ') s with
          | none => .stuck
          | some ρ'' => bnd (ev F F2 none e n ρ'') (fun d => ret (some d)) s) ys s) s) xs) (fun r => ret (.lst r)) s
  | .dcomp d t k es a b, n, ρ => bnd (evs F F2 cl es n ρ) fun as s => match iterOf k as s with
    | none => .stuck
    | some xs => if cap < xs.length then .stuck else bnd (compLoop (stays k as xs) (fun x s => match asgT t x (wipeE t.slots ρ) s with
      | none => .stuck
      | some ρ' => bnd (ev F F2 none a n ρ') (fun u => bnd (ev F F2 none b n ρ') fun v => ret (some (.tup [u, v]))) s) xs) (fun r => match putAll d [] [] r with
        | some q => ret (.dct d q.1 q.2)
        | none => stk) s
  | .call f es, n, ρ => bnd (evs F F2 cl es n ρ) fun xs => F f xs none
  | .callv g es, n, ρ => bnd (ev F F2 cl g n ρ) fun x => match x with
    | .fn f => bnd (evs F F2 cl es n ρ) fun xs => F f xs none
    | _ => stk
  | .clo i es, n, ρ => match cl with
    | none => stk
    | some g => match ρ[i]? with
      | some (some .clo) => bnd (evs F F2 cl es n ρ) fun xs => g xs
      | _ => stk
  | .lam f es ps body, n, ρ => bnd (evs F F2 cl es n ρ) fun xs => F f (xs ++ [.clo]) (some (closure (ev F2 .none none body) ps ρ))
  | .meth f o es, n, ρ => bnd (ev F F2 cl o n ρ) fun x => match x with
    | .obj fs => bnd (evs F F2 cl es n ρ) fun xs => F f (.obj fs :: xs) none
    | _ => stk
  | .bi b es, n, ρ => bnd (evs F F2 cl es n ρ) fun xs => biOp b xs
  | .bit b k es, n, ρ => bnd (evs F F2 cl es n ρ) fun as s => match iterOf k as s with
    | some xs => biOp b [.lst xs] s
    | none => .stuck
  | .get a k x, n, ρ => bnd (ev F F2 cl a n ρ) fun d s => if isDctAt s d then bnd (ev F F2 cl k n ρ) (fun y => bnd (ev F F2 cl x n ρ) fun z => biOp .get [d, y, z]) s else .stuck
  | .mk es, n, ρ => bnd (evs F F2 cl es n ρ) fun xs => mkOp xs
  | .sortk k es p body, n, ρ => bnd (evs F F2 cl es n ρ) fun as s => match iterOf k as s with
    | some xs => bnd (compLoop (fun _ => true) (fun x => bnd (closure (ev F2 .none none body) [p] ρ [x]) fun d => ret (some d)) xs) (fun ks => match okeys 1 ks with
      | some q => ret (.lst ((sortBy (q.zip xs)).map (·.2)))
      | none => stk) s
    | none => .stuck
  | .maxk f e, n, ρ => bnd (ev F F2 cl e n ρ) fun a s => match seqOf s a with
    | some xs => bnd (compLoop (fun _ => true) (fun x => bnd (F f [x] none) fun d => ret (some d)) xs) (fun ks => match intsOf ks with
      | some ns => (match ns.zip xs with
        | m :: r => ret (maxBy m r)
        | [] => stk)
      | none => stk) s
    | none => .stuck
  | .newr e, n, ρ => bnd (ev F F2 cl e n ρ) fun d s => match d with
    | .lst _ | .dct _ _ _ => .ok (.ref s.length) (s ++ [some d])
    | _ => .stuck
  | .frz i, n, ρ => match ρ[i]? with
    | some (some (.ref j)) => fun s => if n ≤ j then (match s[j]? with
      | some (some d) => .ok d (s.set j none)
      | _ => .stuck) else .stuck
    | _ => stk
def evs (F F2 : FT) (cl : Option (List D → M D)) : List ME → Nat → Env → M (List D)
  | [], _, _ => ret []
  | e :: es, n, ρ => bnd (ev F F2 cl e n ρ) fun x => bnd (evs F F2 cl es n ρ) fun xs => ret (x :: xs)
/-- a test -/
def evT (F F2 : FT) (cl : Option (List D → M D)) : ME → Nat → Env → M Bool
  | .and a b, n, ρ => bnd (evT F F2 cl a n ρ) fun k => if k then evT F F2 cl b n ρ else ret false
  | .or a b, n, ρ => bnd (evT F F2 cl a n ρ) fun k => if k then ret true else evT F F2 cl b n ρ
  | .not a, n, ρ => bnd (evT F F2 cl a n ρ) fun k => ret (!k)
  | e, n, ρ => bnd (ev F F2 cl e n ρ) fun d => opt (truth d)
/-- tests of a comprehension -/
def evC (F F2 : FT) (cl : Option (List D → M D)) : List ME → Nat → Env → M Bool
  | [], _, _ => ret true
  | c :: cs, n, ρ => bnd (evT F F2 cl c n ρ) fun k => if k then evC F F2 cl cs n ρ else ret false
def evO (F F2 : FT) (cl : Option (List D → M D)) : Option ME → Nat → Env → M (Option Int)
  | none, _, _ => ret none
  | some e, n, ρ => bnd (ev F F2 cl e n ρ) fun d => match d with
    | .int i => ret (some i)
    | _ => stk
end

/-! ### statements -/
inductive Fl where | nx (ρ : Env) | rt (d : D) | bk (ρ : Env)
def forLoop (st : Sto → Bool) (t : MT) (body : Env → M Fl) : List D → Env → M Fl
  | [], ρ => fun s => if st s then .ok (.nx ρ) s else .stuck
  | x :: xs, ρ => fun s => if st s then (match asgT t x ρ s with
    | none => .stuck
    | some ρ' => bnd (body ρ') (fun fl => match fl with
      | .nx ρ'' => forLoop st t body xs ρ''
      | .bk ρ'' => ret (.nx ρ'')
      | .rt d => ret (.rt d)) s) else .stuck
def whileLoop (c : Env → M Bool) (body : Env → M Fl) : Nat → Env → M Fl
  | 0, _ => stk
  | n + 1, ρ => bnd (c ρ) fun k => if k then bnd (body ρ) (fun fl => match fl with
      | .nx ρ' => whileLoop c body n ρ'
      | .bk ρ' => ret (.nx ρ')
      | .rt d => ret (.rt d)) else ret (.nx ρ)
/-- the object i's content becomes d, of which x is new -/
def store (n i : Nat) (x d : D) : M Unit := fun s => if n ≤ i || D.noref x then (if i < s.length then .ok () (s.set i (some d)) else .stuck) else .stuck
def setOp (n : Nat) (o i x : D) : M Unit := fun s => match o with
  | .ref j => match s[j]? with
    | some (some (.lst xs)) => match i with
      | .int k => match place xs.length k with
        | some p => store n j x (.lst (xs.set p x)) s
        | none => .stuck
      | _ => .stuck
    | some (some (.dct t ks vs)) => if isKey t i && decide (ks.length < cap) then (let q := dput ks vs i x; store n j x (.dct t q.1 q.2) s) else .stuck
    | _ => .stuck
  | _ => .stuck
def appOp (n : Nat) (o x : D) : M Unit := fun s => match o with
  | .ref j => match s[j]? with
    | some (some (.lst xs)) => if xs.length < cap then store n j x (.lst (xs ++ [x])) s else .stuck
    | _ => .stuck
  | _ => .stuck
def updOp (n : Nat) (o x : D) : M Unit := fun s => match o, x with
  | .ref j, .dct u as bs => match s[j]? with
    | some (some (.dct t ks vs)) => match putAll t ks vs (zipL as bs) with
      | some q => if t == u && decide (ks.length + as.length < cap) then store n j x (.dct t q.1 q.2) s else .stuck
      | none => .stuck
    | _ => .stuck
  | _, _ => .stuck
/-- below: the class c is the class d or below it (0: all) -/
def isBelow (c d : Nat) : Bool := d == 0 || c == d
def handle (hs : List (Nat × HB)) (c : Nat) : Option D := match hs with
  | [] => none
  | (d, b) :: r => if isBelow c d then some (match b with
    | .str x => .str x
    | .told x y => .tup [.int 1, .str (if c = 4 then x else y)]) else handle r c

/-- several targets, from the left -/
def asgS (F F2 : FT) (cl : Option (List D → M D)) (n : Nat) : List ST → List D → Env → M Env
  | [], [], ρ => ret ρ
  | .nm i :: ts, x :: xs, ρ => if i < ρ.length then asgS F F2 cl n ts xs (ρ.set i (some x)) else stk
  | .sb o i :: ts, x :: xs, ρ => bnd (ev F F2 cl o n ρ) fun a => bnd (ev F F2 cl i n ρ) fun b => bnd (setOp n a b x) fun _ => asgS F F2 cl n ts xs ρ
  | _, _, _ => stk
mutual
def ex (F F2 : FT) (cl : Option (List D → M D)) : MS → Nat → Env → M Fl
  | .asg t e, n, ρ => bnd (ev F F2 cl e n ρ) fun d s => match asgT t d ρ s with
    | some ρ' => .ok (.nx ρ') s
    | none => .stuck
  | .asgs ts e, n, ρ => bnd (ev F F2 cl e n ρ) fun d s => match seqOf s d with
    | some xs => bnd (asgS F F2 cl n ts xs ρ) (fun ρ' => ret (.nx ρ')) s
    | none => .stuck
  | .aug i o e, n, ρ => match ρ[i]? with
    | some (some (.int a)) => bnd (ev F F2 cl e n ρ) fun b => match b with
      | .int b => (match intOp o a b with
        | some d => ret (.nx (ρ.set i (some (.int d))))
        | none => stk)
      | _ => stk
    | _ => stk
  | .seti o i e, n, ρ => bnd (ev F F2 cl e n ρ) fun d => bnd (ev F F2 cl o n ρ) fun x => bnd (ev F F2 cl i n ρ) fun y => bnd (setOp n x y d) fun _ => ret (.nx ρ)
  | .app o e, n, ρ => bnd (ev F F2 cl o n ρ) fun x s => if isLstAt s x then bnd (ev F F2 cl e n ρ) (fun d => bnd (appOp n x d) fun _ => ret (.nx ρ)) s else .stuck
  | .upd o e, n, ρ => bnd (ev F F2 cl o n ρ) fun x => bnd (ev F F2 cl e n ρ) fun d => bnd (updOp n x d) fun _ => ret (.nx ρ)
  | .expr e, n, ρ => bnd (ev F F2 cl e n ρ) fun _ => ret (.nx ρ)
  | .retn e, n, ρ => bnd (ev F F2 cl e n ρ) fun d => ret (.rt d)
  | .raise c, _, _ => fun s => .exc c s
  | .ifs c as bs, n, ρ => bnd (evT F F2 cl c n ρ) fun k => if k then exs F F2 cl as n ρ else exs F F2 cl bs n ρ
  | .for t k es body, n, ρ => bnd (evs F F2 cl es n ρ) fun as s => match iterOf k as s with
    | none => .stuck
    | some xs => forLoop (stays k as xs) t (fun ρ => exs F F2 cl body n ρ) xs ρ s
  | .while m c body, n, ρ => whileLoop (fun ρ => evT F F2 cl c n ρ) (fun ρ => exs F F2 cl body n ρ) m ρ
  | .brk, _, ρ => ret (.bk ρ)
  | .pass, _, ρ => ret (.nx ρ)
  | .never, _, _ => stk
  | .try body hs, n, ρ => fun s => match exs F F2 cl body n ρ s with
    | .ok fl s' => .ok fl s'
    | .exc c s' => if 5 ≤ c then .stuck else (match handle hs c with
      | some d => .ok (.rt d) s'
      | none => .exc c s')
    | .stuck => .stuck
def exs (F F2 : FT) (cl : Option (List D → M D)) : List MS → Nat → Env → M Fl
  | [], _, ρ => ret (.nx ρ)
  | c :: cs, n, ρ => bnd (ex F F2 cl c n ρ) fun fl => match fl with
    | .nx ρ' => exs F F2 cl cs n ρ'
    | fl => ret fl
end

/-! ### defs -/
structure FD where
  np : Nat
  ns : Nat
  /-- it makes a lambda -/
  lam : Bool
  body : List MS
abbrev Prg := Nat → Option FD
def goOut (n : Nat) : R Fl → R D
  | .ok (.rt d) s' => leave n d s'
  | .ok (.nx _) s' => leave n .non s'
  | .ok (.bk _) _ => .stuck
  | .exc c s' => .exc c (s'.take n)
  | .stuck => .stuck
def mkF (P : Prg) (F F2 : FT) : FT := fun f args cl s => match P f with
  | some fd => if args.length = fd.np then goOut s.length (exs F F2 cl fd.body s.length (args.map some ++ List.replicate (fd.ns - fd.np) none) s) else .stuck
  | none => .stuck
/-- the def f by a depth of calls -/
def run (P : Prg) : Nat → FT
  | 0 => .none
  | 1 => fun f args cl s => match P f with
    | some fd => if fd.lam then .stuck else mkF P .none .none f args cl s
    | none => .stuck
  | 2 => mkF P (run P 1) .none
  | k + 3 => mkF P (run P (k + 2)) (run P k)
end Fw
end
section
set_option autoImplicit false
set_option linter.all false
/-! Fw: the evaluator once more, by structure: for the kernel -/
namespace Fw
abbrev KV : Type := (Nat → Env → M D) × (Nat → Env → M Bool)
def nt (f : Nat → Env → M D) : KV := (f, fun n ρ => bnd (f n ρ) fun d => opt (truth d))
mutual
def kv : ME → FT → FT → Option (List D → M D) → KV
  | .nev, F, F2, cl => nt fun _ _ => stk
  | .lit d, F, F2, cl => nt fun _ _ => ret d
  | .var i, F, F2, cl => nt fun _ ρ => match ρ[i]? with
    | some (some .clo) => stk
    | some (some d) => ret d
    | _ => stk
  | .gl _ d, F, F2, cl => nt fun _ _ => ret d
  | .bin o a b, F, F2, cl => nt fun n ρ => bnd ((kv a F F2 cl).1 n ρ) fun x => bnd ((kv b F F2 cl).1 n ρ) fun y => binOp o x y
  | .neg a, F, F2, cl => nt fun n ρ => bnd ((kv a F F2 cl).1 n ρ) fun x => match x with
    | .int i => ret (.int (-i))
    | _ => stk
  | .cmp o a b, F, F2, cl => nt fun n ρ => bnd ((kv a F F2 cl).1 n ρ) fun x => bnd ((kv b F F2 cl).1 n ρ) fun y => cmpOp o x y
  | .chain o p a b c, F, F2, cl => nt fun n ρ => bnd ((kv a F F2 cl).1 n ρ) fun x => bnd ((kv b F F2 cl).1 n ρ) fun y => bnd (cmpOp o x y) fun z => match z with
    | .bl true => bnd ((kv c F F2 cl).1 n ρ) fun w => cmpOp p y w
    | .bl false => ret (.bl false)
    | _ => stk
  | .and a b, F, F2, cl => (fun n ρ => bnd ((kv a F F2 cl).1 n ρ) fun x => match x with
    | .bl true => (kv b F F2 cl).1 n ρ
    | .bl false => ret (.bl false)
    | _ => stk, fun n ρ => bnd ((kv a F F2 cl).2 n ρ) fun k => if k then (kv b F F2 cl).2 n ρ else ret false)
  | .or a b, F, F2, cl => (fun n ρ => bnd ((kv a F F2 cl).1 n ρ) fun x => match x with
    | .bl true => ret (.bl true)
    | .bl false => (kv b F F2 cl).1 n ρ
    | _ => stk, fun n ρ => bnd ((kv a F F2 cl).2 n ρ) fun k => if k then ret true else (kv b F F2 cl).2 n ρ)
  | .not a, F, F2, cl => (fun n ρ => bnd ((kv a F F2 cl).1 n ρ) fun x => match x with
    | .bl k => ret (.bl !k)
    | _ => stk, fun n ρ => bnd ((kv a F F2 cl).2 n ρ) fun k => ret (!k))
  | .ite c a b, F, F2, cl => nt fun n ρ => bnd ((kv c F F2 cl).2 n ρ) fun k => if k then (kv a F F2 cl).1 n ρ else (kv b F F2 cl).1 n ρ
  | .tup es, F, F2, cl => nt fun n ρ => bnd (kvs es F F2 cl n ρ) fun xs => ret (.tup xs)
  | .lst es, F, F2, cl => nt fun n ρ => bnd (kvs es F F2 cl n ρ) fun xs => ret (.lst xs)
  | .dct t ks vs, F, F2, cl => nt fun n ρ => bnd (kvs ks F F2 cl n ρ) fun xs => bnd (kvs vs F F2 cl n ρ) fun ys => match putAll t [] [] (zipL xs ys) with
    | some q => ret (.dct t q.1 q.2)
    | none => stk
  | .sub a i, F, F2, cl => nt fun n ρ => bnd ((kv a F F2 cl).1 n ρ) fun x => bnd ((kv i F F2 cl).1 n ρ) fun y => subOp x y
  | .slc a lo hi, F, F2, cl => nt fun n ρ => bnd ((kv a F F2 cl).1 n ρ) fun x => bnd (kvO lo F F2 cl n ρ) fun l => bnd (kvO hi F F2 cl n ρ) fun h => slcOp x l h
  | .fld a k, F, F2, cl => nt fun n ρ => bnd ((kv a F F2 cl).1 n ρ) fun x => fldOp x k
  | .comp t k es cs e, F, F2, cl => nt fun n ρ => bnd (kvs es F F2 cl n ρ) fun as s => match iterOf k as s with
    | none => .stuck
    | some xs => if cap < xs.length then .stuck else bnd (compLoop (stays k as xs) (fun x s => match asgT t x (wipeE t.slots ρ) s with
      | none => .stuck
      | some ρ' => bnd (kvC cs F F2 none n ρ') (fun k => if k then bnd ((kv e F F2 none).1 n ρ') fun d => ret (some d) else ret none) s) xs) (fun r => ret (.lst r)) s
  | .comp2 t k es t2 k2 es2 e, F, F2, cl => nt fun n ρ => bnd (kvs es F F2 cl n ρ) fun as s => match iterOf k as s with
    | none => .stuck
    | some xs => bnd (compLoop2 (stays k as xs) (fun x s => match asgT t x (wipeE (t.slots ++ t2.slots) ρ) s with
      | none => .stuck
      | some ρ' => bnd (kvs es2 F F2 none n ρ') (fun as2 s => match iterOf k2 as2 s with
        | none => .stuck
        | some ys => compLoop (stays k2 as2 ys) (fun y s => match asgT t2 y (wipeE t2.slots ρ') s with
          | none => .stuck
          | some ρ'' => bnd ((kv e F F2 none).1 n ρ'') (fun d => ret (some d)) s) ys s) s) xs) (fun r => ret (.lst r)) s
  | .dcomp d t k es a b, F, F2, cl => nt fun n ρ => bnd (kvs es F F2 cl n ρ) fun as s => match iterOf k as s with
    | none => .stuck
    | some xs => if cap < xs.length then .stuck else bnd (compLoop (stays k as xs) (fun x s => match asgT t x (wipeE t.slots ρ) s with
      | none => .stuck
      | some ρ' => bnd ((kv a F F2 none).1 n ρ') (fun u => bnd ((kv b F F2 none).1 n ρ') fun v => ret (some (.tup [u, v]))) s) xs) (fun r => match putAll d [] [] r with
        | some q => ret (.dct d q.1 q.2)
        | none => stk) s
  | .call f es, F, F2, cl => nt fun n ρ => bnd (kvs es F F2 cl n ρ) fun xs => F f xs none
  | .callv g es, F, F2, cl => nt fun n ρ => bnd ((kv g F F2 cl).1 n ρ) fun x => match x with
    | .fn f => bnd (kvs es F F2 cl n ρ) fun xs => F f xs none
    | _ => stk
  | .clo i es, F, F2, cl => nt fun n ρ => match cl with
    | none => stk
    | some g => match ρ[i]? with
      | some (some .clo) => bnd (kvs es F F2 cl n ρ) fun xs => g xs
      | _ => stk
  | .lam f es ps body, F, F2, cl => nt fun n ρ => bnd (kvs es F F2 cl n ρ) fun xs => F f (xs ++ [.clo]) (some (closure (kv body F2 .none none).1 ps ρ))
  | .meth f o es, F, F2, cl => nt fun n ρ => bnd ((kv o F F2 cl).1 n ρ) fun x => match x with
    | .obj fs => bnd (kvs es F F2 cl n ρ) fun xs => F f (.obj fs :: xs) none
    | _ => stk
  | .bi b es, F, F2, cl => nt fun n ρ => bnd (kvs es F F2 cl n ρ) fun xs => biOp b xs
  | .bit b k es, F, F2, cl => nt fun n ρ => bnd (kvs es F F2 cl n ρ) fun as s => match iterOf k as s with
    | some xs => biOp b [.lst xs] s
    | none => .stuck
  | .get a k x, F, F2, cl => nt fun n ρ => bnd ((kv a F F2 cl).1 n ρ) fun d s => if isDctAt s d then bnd ((kv k F F2 cl).1 n ρ) (fun y => bnd ((kv x F F2 cl).1 n ρ) fun z => biOp .get [d, y, z]) s else .stuck
  | .mk es, F, F2, cl => nt fun n ρ => bnd (kvs es F F2 cl n ρ) fun xs => mkOp xs
  | .sortk k es p body, F, F2, cl => nt fun n ρ => bnd (kvs es F F2 cl n ρ) fun as s => match iterOf k as s with
    | some xs => bnd (compLoop (fun _ => true) (fun x => bnd (closure (kv body F2 .none none).1 [p] ρ [x]) fun d => ret (some d)) xs) (fun ks => match okeys 1 ks with
      | some q => ret (.lst ((sortBy (q.zip xs)).map (·.2)))
      | none => stk) s
    | none => .stuck
  | .maxk f e, F, F2, cl => nt fun n ρ => bnd ((kv e F F2 cl).1 n ρ) fun a s => match seqOf s a with
    | some xs => bnd (compLoop (fun _ => true) (fun x => bnd (F f [x] none) fun d => ret (some d)) xs) (fun ks => match intsOf ks with
      | some ns => (match ns.zip xs with
        | m :: r => ret (maxBy m r)
        | [] => stk)
      | none => stk) s
    | none => .stuck
  | .newr e, F, F2, cl => nt fun n ρ => bnd ((kv e F F2 cl).1 n ρ) fun d s => match d with
    | .lst _ | .dct _ _ _ => .ok (.ref s.length) (s ++ [some d])
    | _ => .stuck
  | .frz i, F, F2, cl => nt fun n ρ => match ρ[i]? with
    | some (some (.ref j)) => fun s => if n ≤ j then (match s[j]? with
      | some (some d) => .ok d (s.set j none)
      | _ => .stuck) else .stuck
    | _ => stk
def kvs : List ME → FT → FT → Option (List D → M D) → Nat → Env → M (List D)
  | [], F, F2, cl, _, _ => ret []
  | e :: es, F, F2, cl, n, ρ => bnd ((kv e F F2 cl).1 n ρ) fun x => bnd (kvs es F F2 cl n ρ) fun xs => ret (x :: xs)
def kvC : List ME → FT → FT → Option (List D → M D) → Nat → Env → M Bool
  | [], F, F2, cl, _, _ => ret true
  | c :: cs, F, F2, cl, n, ρ => bnd ((kv c F F2 cl).2 n ρ) fun k => if k then kvC cs F F2 cl n ρ else ret false
def kvO : Option ME → FT → FT → Option (List D → M D) → Nat → Env → M (Option Int)
  | none, F, F2, cl, _, _ => ret none
  | some e, F, F2, cl, n, ρ => bnd ((kv e F F2 cl).1 n ρ) fun d => match d with
    | .int i => ret (some i)
    | _ => stk
end
/-- several targets, from the left -/
def kasgS (F F2 : FT) (cl : Option (List D → M D)) (n : Nat) : List ST → List D → Env → M Env
  | [], [], ρ => ret ρ
  | .nm i :: ts, x :: xs, ρ => if i < ρ.length then kasgS F F2 cl n ts xs (ρ.set i (some x)) else stk
  | .sb o i :: ts, x :: xs, ρ => bnd ((kv o F F2 cl).1 n ρ) fun a => bnd ((kv i F F2 cl).1 n ρ) fun b => bnd (setOp n a b x) fun _ => kasgS F F2 cl n ts xs ρ
  | _, _, _ => stk
mutual
def kx (F F2 : FT) (cl : Option (List D → M D)) : MS → Nat → Env → M Fl
  | .asg t e, n, ρ => bnd ((kv e F F2 cl).1 n ρ) fun d s => match asgT t d ρ s with
    | some ρ' => .ok (.nx ρ') s
    | none => .stuck
  | .asgs ts e, n, ρ => bnd ((kv e F F2 cl).1 n ρ) fun d s => match seqOf s d with
    | some xs => bnd (kasgS F F2 cl n ts xs ρ) (fun ρ' => ret (.nx ρ')) s
    | none => .stuck
  | .aug i o e, n, ρ => match ρ[i]? with
    | some (some (.int a)) => bnd ((kv e F F2 cl).1 n ρ) fun b => match b with
      | .int b => (match intOp o a b with
        | some d => ret (.nx (ρ.set i (some (.int d))))
        | none => stk)
      | _ => stk
    | _ => stk
  | .seti o i e, n, ρ => bnd ((kv e F F2 cl).1 n ρ) fun d => bnd ((kv o F F2 cl).1 n ρ) fun x => bnd ((kv i F F2 cl).1 n ρ) fun y => bnd (setOp n x y d) fun _ => ret (.nx ρ)
  | .app o e, n, ρ => bnd ((kv o F F2 cl).1 n ρ) fun x s => if isLstAt s x then bnd ((kv e F F2 cl).1 n ρ) (fun d => bnd (appOp n x d) fun _ => ret (.nx ρ)) s else .stuck
  | .upd o e, n, ρ => bnd ((kv o F F2 cl).1 n ρ) fun x => bnd ((kv e F F2 cl).1 n ρ) fun d => bnd (updOp n x d) fun _ => ret (.nx ρ)
  | .expr e, n, ρ => bnd ((kv e F F2 cl).1 n ρ) fun _ => ret (.nx ρ)
  | .retn e, n, ρ => bnd ((kv e F F2 cl).1 n ρ) fun d => ret (.rt d)
  | .raise c, _, _ => fun s => .exc c s
  | .ifs c as bs, n, ρ => bnd ((kv c F F2 cl).2 n ρ) fun k => if k then kxs F F2 cl as n ρ else kxs F F2 cl bs n ρ
  | .for t k es body, n, ρ => bnd (kvs es F F2 cl n ρ) fun as s => match iterOf k as s with
    | none => .stuck
    | some xs => forLoop (stays k as xs) t (fun ρ => kxs F F2 cl body n ρ) xs ρ s
  | .while m c body, n, ρ => whileLoop (fun ρ => (kv c F F2 cl).2 n ρ) (fun ρ => kxs F F2 cl body n ρ) m ρ
  | .brk, _, ρ => ret (.bk ρ)
  | .pass, _, ρ => ret (.nx ρ)
  | .never, _, _ => stk
  | .try body hs, n, ρ => fun s => match kxs F F2 cl body n ρ s with
    | .ok fl s' => .ok fl s'
    | .exc c s' => if 5 ≤ c then .stuck else (match handle hs c with
      | some d => .ok (.rt d) s'
      | none => .exc c s')
    | .stuck => .stuck
def kxs (F F2 : FT) (cl : Option (List D → M D)) : List MS → Nat → Env → M Fl
  | [], _, ρ => ret (.nx ρ)
  | c :: cs, n, ρ => bnd (kx F F2 cl c n ρ) fun fl => match fl with
    | .nx ρ' => kxs F F2 cl cs n ρ'
    | fl => ret fl
end


def kmkF (P : Prg) (F F2 : FT) : FT := fun f args cl s => match P f with
  | some fd => if args.length = fd.np then goOut s.length (kxs F F2 cl fd.body s.length (args.map some ++ List.replicate (fd.ns - fd.np) none) s) else .stuck
  | none => .stuck
def krun (P : Prg) : Nat → FT
  | 0 => .none
  | 1 => fun f args cl s => match P f with
    | some fd => if fd.lam then .stuck else kmkF P .none .none f args cl s
    | none => .stuck
  | 2 => kmkF P (krun P 1) .none
  | k + 3 => kmkF P (krun P (k + 2)) (krun P k)
/-- defs by number -/
inductive Tr where | lf | nd (n : Nat) (v : FD) (l r : Tr)
def Tr.get : Tr → Nat → Option FD
  | .lf, _ => none
  | .nd n v l r, i => if i = n then some v else if i < n then l.get i else r.get i
def Tr.keys : Tr → List Nat
  | .lf => []
  | .nd n _ l r => l.keys ++ n :: r.keys
theorem Tr.get_mem : ∀ {t : Tr} {i : Nat}, (t.get i).isSome = true → i ∈ t.keys
  | .lf, _, h => by simp [Tr.get] at h
  | .nd n v l r, i, h => by
    simp only [Tr.get] at h
    simp only [Tr.keys, List.mem_append, List.mem_cons]
    by_cases e : i = n
    · exact .inr (.inl e)
    · rw [if_neg e] at h
      split at h
      · exact .inl (Tr.get_mem h)
      · exact .inr (.inr (Tr.get_mem h))
end Fw
end
section
set_option autoImplicit false
set_option linter.all false
set_option maxHeartbeats 4000000
/-! Fw: both evaluators are one -/
namespace Fw
mutual
theorem kv_eq : ∀ (e : ME) (F F2 : FT) (cl : Option (List D → M D)), ev F F2 cl e = (kv e F F2 cl).1 ∧ evT F F2 cl e = (kv e F F2 cl).2
  | .and a b, F, F2, cl => by
    obtain ⟨a1, a2⟩ := kv_eq a F F2 cl
    obtain ⟨b1, b2⟩ := kv_eq b F F2 cl
    constructor <;> (funext n ρ; simp only [ev, evT, kv, a1, a2, b1, b2] <;> rfl)
  | .or a b, F, F2, cl => by
    obtain ⟨a1, a2⟩ := kv_eq a F F2 cl
    obtain ⟨b1, b2⟩ := kv_eq b F F2 cl
    constructor <;> (funext n ρ; simp only [ev, evT, kv, a1, a2, b1, b2] <;> rfl)
  | .not a, F, F2, cl => by
    obtain ⟨a1, a2⟩ := kv_eq a F F2 cl
    constructor <;> (funext n ρ; simp only [ev, evT, kv, a1, a2] <;> rfl)
  | .nev, F, F2, cl => by
    have h : ev F F2 cl (.nev) = (kv (.nev) F F2 cl).1 := by
      funext n ρ
      simp only [ev, kv, nt]
      try rfl
    exact ⟨h, by funext n ρ; simp only [evT]; rw [h]; simp only [kv, nt]⟩
  | .lit d, F, F2, cl => by
    have h : ev F F2 cl (.lit d) = (kv (.lit d) F F2 cl).1 := by
      funext n ρ
      simp only [ev, kv, nt]
      try rfl
    exact ⟨h, by funext n ρ; simp only [evT]; rw [h]; simp only [kv, nt]⟩
  | .var i, F, F2, cl => by
    have h : ev F F2 cl (.var i) = (kv (.var i) F F2 cl).1 := by
      funext n ρ
      simp only [ev, kv, nt]
      try rfl
    exact ⟨h, by funext n ρ; simp only [evT]; rw [h]; simp only [kv, nt]⟩
  | .gl g d, F, F2, cl => by
    have h : ev F F2 cl (.gl g d) = (kv (.gl g d) F F2 cl).1 := by
      funext n ρ
      simp only [ev, kv, nt]
      try rfl
    exact ⟨h, by funext n ρ; simp only [evT]; rw [h]; simp only [kv, nt]⟩
  | .bin o a b, F, F2, cl => by
    obtain ⟨a0, aT⟩ := kv_eq a F F2 cl
    obtain ⟨b0, bT⟩ := kv_eq b F F2 cl
    have h : ev F F2 cl (.bin o a b) = (kv (.bin o a b) F F2 cl).1 := by
      funext n ρ
      simp only [ev, kv, nt, a0, aT, b0, bT]
      try rfl
    exact ⟨h, by funext n ρ; simp only [evT]; rw [h]; simp only [kv, nt]⟩
  | .neg a, F, F2, cl => by
    obtain ⟨a0, aT⟩ := kv_eq a F F2 cl
    have h : ev F F2 cl (.neg a) = (kv (.neg a) F F2 cl).1 := by
      funext n ρ
      simp only [ev, kv, nt, a0, aT]
      try rfl
    exact ⟨h, by funext n ρ; simp only [evT]; rw [h]; simp only [kv, nt]⟩
  | .cmp o a b, F, F2, cl => by
    obtain ⟨a0, aT⟩ := kv_eq a F F2 cl
    obtain ⟨b0, bT⟩ := kv_eq b F F2 cl
    have h : ev F F2 cl (.cmp o a b) = (kv (.cmp o a b) F F2 cl).1 := by
      funext n ρ
      simp only [ev, kv, nt, a0, aT, b0, bT]
      try rfl
    exact ⟨h, by funext n ρ; simp only [evT]; rw [h]; simp only [kv, nt]⟩
  | .chain o p a b c, F, F2, cl => by
    obtain ⟨a0, aT⟩ := kv_eq a F F2 cl
    obtain ⟨b0, bT⟩ := kv_eq b F F2 cl
    obtain ⟨c0, cT⟩ := kv_eq c F F2 cl
    have h : ev F F2 cl (.chain o p a b c) = (kv (.chain o p a b c) F F2 cl).1 := by
      funext n ρ
      simp only [ev, kv, nt, a0, aT, b0, bT, c0, cT]
      try rfl
    exact ⟨h, by funext n ρ; simp only [evT]; rw [h]; simp only [kv, nt]⟩
  | .ite c a b, F, F2, cl => by
    obtain ⟨c0, cT⟩ := kv_eq c F F2 cl
    obtain ⟨a0, aT⟩ := kv_eq a F F2 cl
    obtain ⟨b0, bT⟩ := kv_eq b F F2 cl
    have h : ev F F2 cl (.ite c a b) = (kv (.ite c a b) F F2 cl).1 := by
      funext n ρ
      simp only [ev, kv, nt, c0, cT, a0, aT, b0, bT]
      try rfl
    exact ⟨h, by funext n ρ; simp only [evT]; rw [h]; simp only [kv, nt]⟩
  | .tup es, F, F2, cl => by
    have es0 := kvs_eq es F F2 cl
    have esn := kvs_eq es F F2 none
    have esq := kvC_eq es F F2 none
    have h : ev F F2 cl (.tup es) = (kv (.tup es) F F2 cl).1 := by
      funext n ρ
      simp only [ev, kv, nt, es0, esn, esq]
      try rfl
    exact ⟨h, by funext n ρ; simp only [evT]; rw [h]; simp only [kv, nt]⟩
  | .lst es, F, F2, cl => by
    have es0 := kvs_eq es F F2 cl
    have esn := kvs_eq es F F2 none
    have esq := kvC_eq es F F2 none
    have h : ev F F2 cl (.lst es) = (kv (.lst es) F F2 cl).1 := by
      funext n ρ
      simp only [ev, kv, nt, es0, esn, esq]
      try rfl
    exact ⟨h, by funext n ρ; simp only [evT]; rw [h]; simp only [kv, nt]⟩
  | .dct t ks vs, F, F2, cl => by
    have ks0 := kvs_eq ks F F2 cl
    have ksn := kvs_eq ks F F2 none
    have ksq := kvC_eq ks F F2 none
    have vs0 := kvs_eq vs F F2 cl
    have vsn := kvs_eq vs F F2 none
    have vsq := kvC_eq vs F F2 none
    have h : ev F F2 cl (.dct t ks vs) = (kv (.dct t ks vs) F F2 cl).1 := by
      funext n ρ
      simp only [ev, kv, nt, ks0, ksn, ksq, vs0, vsn, vsq]
      try rfl
    exact ⟨h, by funext n ρ; simp only [evT]; rw [h]; simp only [kv, nt]⟩
  | .sub a i, F, F2, cl => by
    obtain ⟨a0, aT⟩ := kv_eq a F F2 cl
    obtain ⟨i0, iT⟩ := kv_eq i F F2 cl
    have h : ev F F2 cl (.sub a i) = (kv (.sub a i) F F2 cl).1 := by
      funext n ρ
      simp only [ev, kv, nt, a0, aT, i0, iT]
      try rfl
    exact ⟨h, by funext n ρ; simp only [evT]; rw [h]; simp only [kv, nt]⟩
  | .slc a lo hi, F, F2, cl => by
    obtain ⟨a0, aT⟩ := kv_eq a F F2 cl
    have lo0 := kvO_eq lo F F2 cl
    have hi0 := kvO_eq hi F F2 cl
    have h : ev F F2 cl (.slc a lo hi) = (kv (.slc a lo hi) F F2 cl).1 := by
      funext n ρ
      simp only [ev, kv, nt, a0, aT, lo0, hi0]
      try rfl
    exact ⟨h, by funext n ρ; simp only [evT]; rw [h]; simp only [kv, nt]⟩
  | .fld a k, F, F2, cl => by
    obtain ⟨a0, aT⟩ := kv_eq a F F2 cl
    have h : ev F F2 cl (.fld a k) = (kv (.fld a k) F F2 cl).1 := by
      funext n ρ
      simp only [ev, kv, nt, a0, aT]
      try rfl
    exact ⟨h, by funext n ρ; simp only [evT]; rw [h]; simp only [kv, nt]⟩
  | .comp t k es cs e, F, F2, cl => by
    have es0 := kvs_eq es F F2 cl
    have esn := kvs_eq es F F2 none
    have esq := kvC_eq es F F2 none
    have cs0 := kvs_eq cs F F2 cl
    have csn := kvs_eq cs F F2 none
    have csq := kvC_eq cs F F2 none
    obtain ⟨e0, eT⟩ := kv_eq e F F2 cl
    obtain ⟨en, em⟩ := kv_eq e F F2 none
    have h : ev F F2 cl (.comp t k es cs e) = (kv (.comp t k es cs e) F F2 cl).1 := by
      funext n ρ
      simp only [ev, kv, nt, es0, esn, esq, cs0, csn, csq, e0, eT, en]
      try rfl
    exact ⟨h, by funext n ρ; simp only [evT]; rw [h]; simp only [kv, nt]⟩
  | .comp2 t k es t2 k2 es2 e, F, F2, cl => by
    have es0 := kvs_eq es F F2 cl
    have esn := kvs_eq es F F2 none
    have esq := kvC_eq es F F2 none
    have es20 := kvs_eq es2 F F2 cl
    have es2n := kvs_eq es2 F F2 none
    have es2q := kvC_eq es2 F F2 none
    obtain ⟨e0, eT⟩ := kv_eq e F F2 cl
    obtain ⟨en, em⟩ := kv_eq e F F2 none
    have h : ev F F2 cl (.comp2 t k es t2 k2 es2 e) = (kv (.comp2 t k es t2 k2 es2 e) F F2 cl).1 := by
      funext n ρ
      simp only [ev, kv, nt, es0, esn, esq, es20, es2n, es2q, e0, eT, en]
      try rfl
    exact ⟨h, by funext n ρ; simp only [evT]; rw [h]; simp only [kv, nt]⟩
  | .dcomp d t k es a b, F, F2, cl => by
    have es0 := kvs_eq es F F2 cl
    have esn := kvs_eq es F F2 none
    have esq := kvC_eq es F F2 none
    obtain ⟨a0, aT⟩ := kv_eq a F F2 cl
    obtain ⟨an, am⟩ := kv_eq a F F2 none
    obtain ⟨b0, bT⟩ := kv_eq b F F2 cl
    obtain ⟨bn, bm⟩ := kv_eq b F F2 none
    have h : ev F F2 cl (.dcomp d t k es a b) = (kv (.dcomp d t k es a b) F F2 cl).1 := by
      funext n ρ
      simp only [ev, kv, nt, es0, esn, esq, a0, aT, an, b0, bT, bn]
      try rfl
    exact ⟨h, by funext n ρ; simp only [evT]; rw [h]; simp only [kv, nt]⟩
  | .call f es, F, F2, cl => by
    have es0 := kvs_eq es F F2 cl
    have esn := kvs_eq es F F2 none
    have esq := kvC_eq es F F2 none
    have h : ev F F2 cl (.call f es) = (kv (.call f es) F F2 cl).1 := by
      funext n ρ
      simp only [ev, kv, nt, es0, esn, esq]
      try rfl
    exact ⟨h, by funext n ρ; simp only [evT]; rw [h]; simp only [kv, nt]⟩
  | .callv g es, F, F2, cl => by
    obtain ⟨g0, gT⟩ := kv_eq g F F2 cl
    have es0 := kvs_eq es F F2 cl
    have esn := kvs_eq es F F2 none
    have esq := kvC_eq es F F2 none
    have h : ev F F2 cl (.callv g es) = (kv (.callv g es) F F2 cl).1 := by
      funext n ρ
      simp only [ev, kv, nt, g0, gT, es0, esn, esq]
      try rfl
    exact ⟨h, by funext n ρ; simp only [evT]; rw [h]; simp only [kv, nt]⟩
  | .clo i es, F, F2, cl => by
    have es0 := kvs_eq es F F2 cl
    have h : ev F F2 cl (.clo i es) = (kv (.clo i es) F F2 cl).1 := by
      funext n ρ
      cases cl with
      | none => simp only [ev, kv, nt]
      | some g => simp only [ev, kv, nt, es0]; try rfl
    exact ⟨h, by funext n ρ; simp only [evT]; rw [h]; simp only [kv, nt]⟩
  | .lam f es ps body, F, F2, cl => by
    have es0 := kvs_eq es F F2 cl
    have esn := kvs_eq es F F2 none
    have esq := kvC_eq es F F2 none
    obtain ⟨body0, bodyT⟩ := kv_eq body F F2 cl
    obtain ⟨bodyn, bodym⟩ := kv_eq body F2 .none none
    have h : ev F F2 cl (.lam f es ps body) = (kv (.lam f es ps body) F F2 cl).1 := by
      funext n ρ
      simp only [ev, kv, nt, es0, esn, esq, body0, bodyT, bodyn]
      try rfl
    exact ⟨h, by funext n ρ; simp only [evT]; rw [h]; simp only [kv, nt]⟩
  | .meth f o es, F, F2, cl => by
    obtain ⟨o0, oT⟩ := kv_eq o F F2 cl
    have es0 := kvs_eq es F F2 cl
    have esn := kvs_eq es F F2 none
    have esq := kvC_eq es F F2 none
    have h : ev F F2 cl (.meth f o es) = (kv (.meth f o es) F F2 cl).1 := by
      funext n ρ
      simp only [ev, kv, nt, o0, oT, es0, esn, esq]
      try rfl
    exact ⟨h, by funext n ρ; simp only [evT]; rw [h]; simp only [kv, nt]⟩
  | .get a k x, F, F2, cl => by
    obtain ⟨a0, aT⟩ := kv_eq a F F2 cl
    obtain ⟨k0, kT⟩ := kv_eq k F F2 cl
    obtain ⟨x0, xT⟩ := kv_eq x F F2 cl
    have h : ev F F2 cl (.get a k x) = (kv (.get a k x) F F2 cl).1 := by
      funext n ρ
      simp only [ev, kv, nt, a0, aT, k0, kT, x0, xT]
      try rfl
    exact ⟨h, by funext n ρ; simp only [evT]; rw [h]; simp only [kv, nt]⟩
  | .bi b es, F, F2, cl => by
    have es0 := kvs_eq es F F2 cl
    have esn := kvs_eq es F F2 none
    have esq := kvC_eq es F F2 none
    have h : ev F F2 cl (.bi b es) = (kv (.bi b es) F F2 cl).1 := by
      funext n ρ
      simp only [ev, kv, nt, es0, esn, esq]
      try rfl
    exact ⟨h, by funext n ρ; simp only [evT]; rw [h]; simp only [kv, nt]⟩
  | .bit b k es, F, F2, cl => by
    have es0 := kvs_eq es F F2 cl
    have esn := kvs_eq es F F2 none
    have esq := kvC_eq es F F2 none
    have h : ev F F2 cl (.bit b k es) = (kv (.bit b k es) F F2 cl).1 := by
      funext n ρ
      simp only [ev, kv, nt, es0, esn, esq]
      try rfl
    exact ⟨h, by funext n ρ; simp only [evT]; rw [h]; simp only [kv, nt]⟩
  | .mk es, F, F2, cl => by
    have es0 := kvs_eq es F F2 cl
    have esn := kvs_eq es F F2 none
    have esq := kvC_eq es F F2 none
    have h : ev F F2 cl (.mk es) = (kv (.mk es) F F2 cl).1 := by
      funext n ρ
      simp only [ev, kv, nt, es0, esn, esq]
      try rfl
    exact ⟨h, by funext n ρ; simp only [evT]; rw [h]; simp only [kv, nt]⟩
  | .sortk k es p body, F, F2, cl => by
    have es0 := kvs_eq es F F2 cl
    have esn := kvs_eq es F F2 none
    have esq := kvC_eq es F F2 none
    obtain ⟨body0, bodyT⟩ := kv_eq body F F2 cl
    obtain ⟨bodyn, bodym⟩ := kv_eq body F2 .none none
    have h : ev F F2 cl (.sortk k es p body) = (kv (.sortk k es p body) F F2 cl).1 := by
      funext n ρ
      simp only [ev, kv, nt, es0, esn, esq, body0, bodyT, bodyn]
      try rfl
    exact ⟨h, by funext n ρ; simp only [evT]; rw [h]; simp only [kv, nt]⟩
  | .maxk f e, F, F2, cl => by
    obtain ⟨e0, eT⟩ := kv_eq e F F2 cl
    have h : ev F F2 cl (.maxk f e) = (kv (.maxk f e) F F2 cl).1 := by
      funext n ρ
      simp only [ev, kv, nt, e0, eT]
      try rfl
    exact ⟨h, by funext n ρ; simp only [evT]; rw [h]; simp only [kv, nt]⟩
  | .newr e, F, F2, cl => by
    obtain ⟨e0, eT⟩ := kv_eq e F F2 cl
    have h : ev F F2 cl (.newr e) = (kv (.newr e) F F2 cl).1 := by
      funext n ρ
      simp only [ev, kv, nt, e0, eT]
      try rfl
    exact ⟨h, by funext n ρ; simp only [evT]; rw [h]; simp only [kv, nt]⟩
  | .frz i, F, F2, cl => by
    have h : ev F F2 cl (.frz i) = (kv (.frz i) F F2 cl).1 := by
      funext n ρ
      simp only [ev, kv, nt]
      try rfl
    exact ⟨h, by funext n ρ; simp only [evT]; rw [h]; simp only [kv, nt]⟩
theorem kvs_eq : ∀ (es : List ME) (F F2 : FT) (cl : Option (List D → M D)), evs F F2 cl es = kvs es F F2 cl
  | [], F, F2, cl => by funext n ρ; simp only [evs, kvs]
  | e :: es, F, F2, cl => by
    obtain ⟨a1, a2⟩ := kv_eq e F F2 cl
    have b := kvs_eq es F F2 cl
    funext n ρ; simp only [evs, kvs, a1, b]
theorem kvC_eq : ∀ (es : List ME) (F F2 : FT) (cl : Option (List D → M D)), evC F F2 cl es = kvC es F F2 cl
  | [], F, F2, cl => by funext n ρ; simp only [evC, kvC]
  | e :: es, F, F2, cl => by
    obtain ⟨a1, a2⟩ := kv_eq e F F2 cl
    have b := kvC_eq es F F2 cl
    funext n ρ; simp only [evC, kvC, a2, b]
theorem kvO_eq : ∀ (e : Option ME) (F F2 : FT) (cl : Option (List D → M D)), evO F F2 cl e = kvO e F F2 cl
  | none, F, F2, cl => by funext n ρ; simp only [evO, kvO]
  | some e, F, F2, cl => by
    obtain ⟨a1, a2⟩ := kv_eq e F F2 cl
    funext n ρ; simp only [evO, kvO, a1]; try rfl
end
theorem kasgS_eq (F F2 : FT) (cl : Option (List D → M D)) (n : Nat) : ∀ (ts : List ST) (xs : List D) (ρ : Env), asgS F F2 cl n ts xs ρ = kasgS F F2 cl n ts xs ρ
  | [], [], ρ => by simp only [asgS, kasgS]
  | [], _ :: _, ρ => by simp only [asgS, kasgS]
  | .nm i :: ts, [], ρ => by simp only [asgS, kasgS]
  | .sb o i :: ts, [], ρ => by simp only [asgS, kasgS]
  | .nm i :: ts, x :: xs, ρ => by
    simp only [asgS, kasgS]
    rw [kasgS_eq F F2 cl n ts xs]
  | .sb o i :: ts, x :: xs, ρ => by
    simp only [asgS, kasgS, (kv_eq o F F2 cl).1, (kv_eq i F F2 cl).1]
    rw [kasgS_eq F F2 cl n ts xs]
mutual
theorem kx_eq (F F2 : FT) (cl : Option (List D → M D)) : ∀ (s : MS), ex F F2 cl s = kx F F2 cl s
  | .asg t e => by funext n ρ; simp only [ex, kx, (kv_eq e F F2 cl).1]; try rfl
  | .asgs ts e => by funext n ρ; simp only [ex, kx, (kv_eq e F F2 cl).1, kasgS_eq]; try rfl
  | .aug i o e => by funext n ρ; simp only [ex, kx, (kv_eq e F F2 cl).1]; try rfl
  | .seti o i e => by funext n ρ; simp only [ex, kx, (kv_eq e F F2 cl).1, (kv_eq o F F2 cl).1, (kv_eq i F F2 cl).1]; try rfl
  | .app o e => by funext n ρ; simp only [ex, kx, (kv_eq e F F2 cl).1, (kv_eq o F F2 cl).1]; try rfl
  | .upd o e => by funext n ρ; simp only [ex, kx, (kv_eq e F F2 cl).1, (kv_eq o F F2 cl).1]; try rfl
  | .expr e => by funext n ρ; simp only [ex, kx, (kv_eq e F F2 cl).1]; try rfl
  | .retn e => by funext n ρ; simp only [ex, kx, (kv_eq e F F2 cl).1]; try rfl
  | .raise c => by funext n ρ; simp only [ex, kx]; try rfl
  | .ifs c as bs => by
    have h1 := kxs_eq F F2 cl as
    have h2 := kxs_eq F F2 cl bs
    funext n ρ; simp only [ex, kx, (kv_eq c F F2 cl).2, h1, h2]; try rfl
  | .for t k es body => by
    have h1 := kxs_eq F F2 cl body
    funext n ρ; simp only [ex, kx, kvs_eq, h1]; try rfl
  | .while m c body => by
    have h1 := kxs_eq F F2 cl body
    funext n ρ; simp only [ex, kx, (kv_eq c F F2 cl).2, h1]; try rfl
  | .brk => by funext n ρ; simp only [ex, kx]; try rfl
  | .pass => by funext n ρ; simp only [ex, kx]; try rfl
  | .never => by funext n ρ; simp only [ex, kx]; try rfl
  | .try body hs => by
    have h1 := kxs_eq F F2 cl body
    funext n ρ; simp only [ex, kx, h1]; try rfl
theorem kxs_eq (F F2 : FT) (cl : Option (List D → M D)) : ∀ (s : List MS), exs F F2 cl s = kxs F F2 cl s
  | [] => by funext n ρ; simp only [exs, kxs]; try rfl
  | c :: cs => by
    have h1 := kx_eq F F2 cl c
    have h2 := kxs_eq F F2 cl cs
    funext n ρ; simp only [exs, kxs, h1, h2]; try rfl
end
theorem kmkF_eq (P : Prg) (F F2 : FT) : mkF P F F2 = kmkF P F F2 := by
  funext f args cl s
  unfold mkF kmkF
  cases P f with
  | none => rfl
  | some fd => simp only [kxs_eq]
theorem krun_eq (P : Prg) : ∀ n, run P n = krun P n
  | 0 => by simp only [run, krun]
  | 1 => by
    funext f args cl s
    simp only [run, krun, kmkF_eq]
    try rfl
  | 2 => by
    simp only [run, krun, kmkF_eq]
    try rfl
  | n + 3 => by simp only [run, krun, kmkF_eq, krun_eq P (n + 2), krun_eq P n]
end Fw
end
section
set_option Elab.async false
set_option linter.all false
set_option maxRecDepth 100000
set_option maxHeartbeats 1000000
/-! Fw.Sound: values in the abstract heap of the hand layer -/
namespace Fw
open PySem PySem.Spec PyProof.Rows L2

/-- what a text has: where its defs and classes stand -/
structure Wd where
  prg : Prg
  /-- the def's address; its data; its parameters -/
  fA : Nat → Addr
  fD : Nat → FuncData
  ps : Nat → List PySem.Str
  /-- Table, and its __init__ -/
  tC : Addr
  tI : Addr
  /-- the classes of errors -/
  cls : Nat → Addr
  /-- defs that hand out a new list -/
  fresh : Nat → Bool
  /-- tables of lambdas -/
  T : List (Addr × PySem.Str)

def sN : PySem.Str := "n"
def sRanks : PySem.Str := "ranks"
def sAll : PySem.Str := "all"
def sRank : PySem.Str := "rank"
/-- the attributes of a Table -/
def tFs (vs : List V) : List (PySem.Str × V) := [sN, sRanks, sAll, sRank].zip vs

section
variable (W : Wd) (K : PySem.W.Frag)
mutual
/-- the value v is d: over the good heap G, the changed objects at m; a function that was handed in stands at fc -/
def VRep (G : Hp) (m : List Addr) : D → V → Prop
  | .non, v => v = .non
  | .bl b, v => v = .bl b
  | .int i, v => v = .int i
  | .str s, v => v = .str s
  | .tup ds, v => ∃ a vs, v = .ref a ∧ G a = some (.tup vs) ∧ VReps G m ds vs
  | .ctup ds, v => ∃ a vs, v = .ref a ∧ SqT K G a vs ∧ VReps G m ds vs
  | .lst ds, v => ∃ a vs, v = .ref a ∧ G a = some (.lst vs) ∧ VReps G m ds vs
  | .dct t ks ds, v => ∃ a, v = .ref a ∧ ((∃ (ns : List Int) (vs : List V), t = false ∧ ks = ns.map D.int ∧ G a = some (.dK ((ns.map Sum.inl).zip vs)) ∧ VReps G m ds vs ∧ ns.length = vs.length ∧ ns.Nodup) ∨
      ∃ (ns : List (List Int)) (vs : List V), t = true ∧ ks = ns.map (fun l => D.tup (l.map D.int)) ∧ G a = some (.dT ((ns.map fun l => l.map Sum.inl).zip vs)) ∧ VReps G m ds vs ∧ ns.length = vs.length ∧ ns.Nodup)
  | .set ns, v => ∃ a S, v = .ref a ∧ G a = some (.set S ns.length) ∧ ns.Nodup ∧ ∀ i, S i = ns.contains i
  | .scr ns, v => ∃ a, v = .ref a ∧ SqL K G a (ns.map V.int)
  | .obj fs, v => ∃ a dx vs, v = .ref a ∧ G a = some (.ins W.tC dx (tFs vs)) ∧ vs.length = 4 ∧ VReps G m fs vs
  | .fn i, v => v = .ref (W.fA i) ∧ (W.prg i).isSome = true
  | .clo, _ => False
  | .ref i, v => ∃ a, v = .ref a ∧ m[i]? = some a
def VReps (G : Hp) (m : List Addr) : List D → List V → Prop
  | [], vs => vs = []
  | d :: ds, vs => ∃ v r, vs = v :: r ∧ VRep G m d v ∧ VReps G m ds r
end
end

/-- what stands stands on -/
def Ex (G G' : Hp) : Prop := ∀ a o, G a = some o → G' a = some o
theorem Ex.refl (G : Hp) : Ex G G := fun _ _ h => h
theorem Ex.trans {G G1 G2 : Hp} (a : Ex G G1) (b : Ex G1 G2) : Ex G G2 := fun x o h => b x o (a x o h)
theorem Ex.new {G : Hp} {p : Addr} {o : HO} (h : G p = none) : Ex G (upd G p o) := fun a u e => by
  rw [upd_ne (ne_of_none e h)]; exact e
theorem Ex.rd {G G' : Hp} {a : Addr} {u : HO} (e : Ex G G') (h : Rd G a u) : Rd G' a u := by
  rcases h with h | ⟨o, h⟩
  · exact Or.inl (e a _ h)
  · exact Or.inr ⟨o, e a _ h⟩
theorem Ex.sqT {K : PySem.W.Frag} {G G' : Hp} {a : Addr} {xs : List V} (e : Ex G G') (h : SqT K G a xs) : SqT K G' a xs := by
  rcases h with h | h
  · exact Or.inl (e.rd h)
  · exact Or.inr h
theorem Ex.sqL {K : PySem.W.Frag} {G G' : Hp} {a : Addr} {xs : List V} (e : Ex G G') (h : SqL K G a xs) : SqL K G' a xs := by
  rcases h with h | h
  · exact Or.inl (e.rd h)
  · exact Or.inr h

section
variable {W : Wd} {K : PySem.W.Frag}
mutual
theorem VRep.mono {G G' : Hp} {m m' : List Addr} (e : Ex G G') (hm : ∀ (i : Nat) (a : Addr), m[i]? = some a → m'[i]? = some a) : ∀ (d : D) (v : V), VRep W K G m d v → VRep W K G' m' d v
  | .non, _, h => h
  | .bl _, _, h => h
  | .int _, _, h => h
  | .str _, _, h => h
  | .tup ds, v, h => by
    simp only [VRep] at h ⊢
    obtain ⟨a, vs, e1, e2, e3⟩ := h
    exact ⟨a, vs, e1, e _ _ e2, VReps.mono e hm ds vs e3⟩
  | .ctup ds, v, h => by
    simp only [VRep] at h ⊢
    obtain ⟨a, vs, e1, e2, e3⟩ := h
    exact ⟨a, vs, e1, e.sqT e2, VReps.mono e hm ds vs e3⟩
  | .lst ds, v, h => by
    simp only [VRep] at h ⊢
    obtain ⟨a, vs, e1, e2, e3⟩ := h
    exact ⟨a, vs, e1, e _ _ e2, VReps.mono e hm ds vs e3⟩
  | .dct t ks ds, v, h => by
    simp only [VRep] at h ⊢
    obtain ⟨a, e1, h⟩ := h
    refine ⟨a, e1, ?_⟩
    rcases h with ⟨ns, vs, h0, h1, h2, h3, h4⟩ | ⟨ns, vs, h0, h1, h2, h3, h4⟩
    · exact .inl ⟨ns, vs, h0, h1, e _ _ h2, VReps.mono e hm ds vs h3, h4⟩
    · exact .inr ⟨ns, vs, h0, h1, e _ _ h2, VReps.mono e hm ds vs h3, h4⟩
  | .set ns, v, h => by
    simp only [VRep] at h ⊢
    obtain ⟨a, S, e1, e2, e3⟩ := h
    exact ⟨a, S, e1, e _ _ e2, e3⟩
  | .scr ns, v, h => by
    simp only [VRep] at h ⊢
    obtain ⟨a, e1, e2⟩ := h
    exact ⟨a, e1, e.sqL e2⟩
  | .obj fs, v, h => by
    simp only [VRep] at h ⊢
    obtain ⟨a, dx, vs, e1, e2, e3, e4⟩ := h
    exact ⟨a, dx, vs, e1, e _ _ e2, e3, VReps.mono e hm fs vs e4⟩
  | .fn _, _, h => h
  | .clo, _, h => h
  | .ref i, v, h => by
    simp only [VRep] at h ⊢
    obtain ⟨a, e1, e2⟩ := h
    exact ⟨a, e1, hm _ _ e2⟩
theorem VReps.mono {G G' : Hp} {m m' : List Addr} (e : Ex G G') (hm : ∀ (i : Nat) (a : Addr), m[i]? = some a → m'[i]? = some a) : ∀ (ds : List D) (vs : List V), VReps W K G m ds vs → VReps W K G' m' ds vs
  | [], _, h => h
  | d :: ds, vs, h => by
    simp only [VReps] at h ⊢
    obtain ⟨v, r, e1, e2, e3⟩ := h
    exact ⟨v, r, e1, VRep.mono e hm d v e2, VReps.mono e hm ds r e3⟩
end

theorem VReps.length {G : Hp} {m : List Addr} : ∀ {ds : List D} {vs : List V}, VReps W K G m ds vs → ds.length = vs.length
  | [], vs, h => by simp only [VReps] at h; subst h; rfl
  | d :: ds, vs, h => by
    simp only [VReps] at h
    obtain ⟨v, r, rfl, _, h⟩ := h
    simp [VReps.length h]
theorem VReps.get {G : Hp} {m : List Addr} : ∀ {ds : List D} {vs : List V} {i : Nat} {d : D}, VReps W K G m ds vs → ds[i]? = some d → ∃ v, vs[i]? = some v ∧ VRep W K G m d v
  | [], vs, i, d, h, e => by simp at e
  | x :: ds, vs, i, d, h, e => by
    simp only [VReps] at h
    obtain ⟨v, r, rfl, h1, h2⟩ := h
    cases i with
    | zero => simp at e; subst e; exact ⟨v, rfl, h1⟩
    | succ i =>
      obtain ⟨u, a, b⟩ := VReps.get (i := i) h2 (by simpa using e)
      exact ⟨u, by simpa using a, b⟩
theorem VReps.append {G : Hp} {m : List Addr} : ∀ {ds es : List D} {vs us : List V}, VReps W K G m ds vs → VReps W K G m es us → VReps W K G m (ds ++ es) (vs ++ us)
  | [], es, vs, us, h, k => by simp only [VReps] at h; subst h; exact k
  | x :: ds, es, vs, us, h, k => by
    simp only [VReps] at h
    obtain ⟨v, r, rfl, h1, h2⟩ := h
    simp only [List.cons_append, VReps]
    exact ⟨v, r ++ us, rfl, h1, VReps.append h2 k⟩
theorem VReps.take {G : Hp} {m : List Addr} : ∀ {ds : List D} {vs : List V} (n : Nat), VReps W K G m ds vs → VReps W K G m (ds.take n) (vs.take n)
  | [], vs, n, h => by simp only [VReps] at h; subst h; simp [VReps]
  | x :: ds, vs, 0, h => by simp [VReps]
  | x :: ds, vs, n + 1, h => by
    simp only [VReps] at h
    obtain ⟨v, r, rfl, h1, h2⟩ := h
    simp only [List.take_succ_cons, VReps]
    exact ⟨v, _, rfl, h1, VReps.take n h2⟩
theorem VReps.drop {G : Hp} {m : List Addr} : ∀ {ds : List D} {vs : List V} (n : Nat), VReps W K G m ds vs → VReps W K G m (ds.drop n) (vs.drop n)
  | [], vs, n, h => by simp only [VReps] at h; subst h; simp [VReps]
  | x :: ds, vs, 0, h => h
  | x :: ds, vs, n + 1, h => by
    simp only [VReps] at h
    obtain ⟨v, r, rfl, h1, h2⟩ := h
    exact VReps.drop n h2
theorem VReps.set {G : Hp} {m : List Addr} {d : D} {v : V} (k : VRep W K G m d v) : ∀ {ds : List D} {vs : List V} (n : Nat), VReps W K G m ds vs → VReps W K G m (ds.set n d) (vs.set n v)
  | [], vs, n, h => by simp only [VReps] at h; subst h; simp [VReps]
  | x :: ds, vs, 0, h => by
    simp only [VReps] at h
    obtain ⟨u, r, rfl, h1, h2⟩ := h
    simp only [List.set_cons_zero, VReps]
    exact ⟨v, r, rfl, k, h2⟩
  | x :: ds, vs, n + 1, h => by
    simp only [VReps] at h
    obtain ⟨u, r, rfl, h1, h2⟩ := h
    simp only [List.set_cons_succ, VReps]
    exact ⟨u, _, rfl, h1, VReps.set k n h2⟩
theorem VReps.cons {G : Hp} {m : List Addr} {d : D} {v : V} {ds : List D} {vs : List V} (a : VRep W K G m d v) (b : VReps W K G m ds vs) : VReps W K G m (d :: ds) (v :: vs) := by
  simp only [VReps]; exact ⟨v, vs, rfl, a, b⟩
theorem VReps.nil {G : Hp} {m : List Addr} : VReps W K G m [] [] := by simp [VReps]
theorem VReps.ints {G : Hp} {m : List Addr} : ∀ {ds : List D} {ns : List Int} {vs : List V}, intsOf ds = some ns → VReps W K G m ds vs → vs = ns.map V.int ∧ ds = ns.map D.int
  | [], ns, vs, e, h => by
    simp only [VReps] at h; subst h
    simp only [intsOf, Option.some.injEq] at e; subst e; exact ⟨rfl, rfl⟩
  | d :: ds, ns, vs, e, h => by
    simp only [VReps] at h
    obtain ⟨v, r, rfl, h1, h2⟩ := h
    cases d with
    | int i =>
      simp only [intsOf, Option.map_eq_some_iff] at e
      obtain ⟨q, e, rfl⟩ := e
      simp only [VRep] at h1
      obtain ⟨a, b⟩ := VReps.ints e h2
      exact ⟨by rw [h1, a]; rfl, by rw [b]; rfl⟩
    | _ => simp [intsOf] at e
theorem VReps.of_ints {G : Hp} {m : List Addr} : ∀ (ns : List Int), VReps W K G m (ns.map D.int) (ns.map V.int)
  | [] => by simp [VReps]
  | i :: r => by simp only [List.map_cons, VReps]; exact ⟨_, _, rfl, by simp [VRep], VReps.of_ints r⟩
theorem VReps.bls {G : Hp} {m : List Addr} : ∀ {ds : List D} {ns : List Bool} {vs : List V}, blsOf ds = some ns → VReps W K G m ds vs → vs = ns.map V.bl
  | [], ns, vs, e, h => by
    simp only [VReps] at h; subst h
    simp only [blsOf, Option.some.injEq] at e; subst e; rfl
  | d :: ds, ns, vs, e, h => by
    simp only [VReps] at h
    obtain ⟨v, r, rfl, h1, h2⟩ := h
    cases d with
    | bl i =>
      simp only [blsOf, Option.map_eq_some_iff] at e
      obtain ⟨q, e, rfl⟩ := e
      simp only [VRep] at h1
      rw [h1, VReps.bls e h2]; rfl
    | _ => simp [blsOf] at e
end

/-! ### the store and the heap -/
def Live (Z : Sto) (m : List Addr) (a : Addr) : Prop := ∃ (i : Nat) (d : D), Z[i]? = some (some d) ∧ m[i]? = some a
def ORep (W : Wd) (K : PySem.W.Frag) (G : Hp) (m : List Addr) (H : Hp) (a : Addr) : D → Prop
  | .lst ds => ∃ vs, H a = some (.lst vs) ∧ VReps W K G m ds vs
  | .dct t ks ds => (∃ (ns : List Int) (vs : List V), t = false ∧ ks = ns.map D.int ∧ H a = some (.dK ((ns.map Sum.inl).zip vs)) ∧ VReps W K G m ds vs ∧ ns.length = vs.length ∧ ns.Nodup) ∨
      ∃ (ns : List (List Int)) (vs : List V), t = true ∧ ks = ns.map (fun l => D.tup (l.map D.int)) ∧ H a = some (.dT ((ns.map fun l => l.map Sum.inl).zip vs)) ∧ VReps W K G m ds vs ∧ ns.length = vs.length ∧ ns.Nodup
  | _ => False
mutual
/-- each object of the store within lies below n -/
def D.lowr (n : Nat) : D → Prop
  | .ref i => i < n
  | .clo => False
  | .tup xs | .lst xs | .obj xs | .ctup xs => D.lows n xs
  | .dct _ a b => D.lows n a ∧ D.lows n b
  | _ => True
def D.lows (n : Nat) : List D → Prop
  | [] => True
  | x :: xs => D.lowr n x ∧ D.lows n xs
end
mutual
theorem D.low_of_noref (n : Nat) : ∀ d : D, D.noref d = true → D.lowr n d
  | .non, _ => by simp [D.lowr]
  | .bl _, _ => by simp [D.lowr]
  | .int _, _ => by simp [D.lowr]
  | .str _, _ => by simp [D.lowr]
  | .tup xs, h => by simp only [D.lowr]; exact D.lows_of_norefs n xs (by simpa [D.noref] using h)
  | .lst xs, h => by simp only [D.lowr]; exact D.lows_of_norefs n xs (by simpa [D.noref] using h)
  | .obj xs, h => by simp only [D.lowr]; exact D.lows_of_norefs n xs (by simpa [D.noref] using h)
  | .ctup xs, h => by simp only [D.lowr]; exact D.lows_of_norefs n xs (by simpa [D.noref] using h)
  | .dct _ a b, h => by
    simp only [D.noref, Bool.and_eq_true] at h
    simp only [D.lowr]; exact ⟨D.lows_of_norefs n a h.1, D.lows_of_norefs n b h.2⟩
  | .set _, _ => by simp [D.lowr]
  | .scr _, _ => by simp [D.lowr]
  | .fn _, _ => by simp [D.lowr]
  | .clo, h => by simp [D.noref] at h
  | .ref _, h => by simp [D.noref] at h
theorem D.lows_of_norefs (n : Nat) : ∀ ds : List D, D.norefs ds = true → D.lows n ds
  | [], _ => by simp [D.lows]
  | x :: xs, h => by
    simp only [D.norefs, Bool.and_eq_true] at h
    simp only [D.lows]; exact ⟨D.low_of_noref n x h.1, D.lows_of_norefs n xs h.2⟩
end
section
variable {W : Wd} {K : PySem.W.Frag}
theorem below_ints (n : Nat) : ∀ ns : List Int, D.lows n (ns.map D.int)
  | [] => by simp [D.lows]
  | _ :: r => by simp only [List.map_cons, D.lows]; exact ⟨by simp [D.lowr], below_ints n r⟩
theorem below_tups (n : Nat) : ∀ ns : List (List Int), D.lows n (ns.map fun l => D.tup (l.map D.int))
  | [] => by simp [D.lows]
  | l :: r => by simp only [List.map_cons, D.lows]; exact ⟨by simp only [D.lowr]; exact below_ints n l, below_tups n r⟩
mutual
theorem VRep.below {G : Hp} {m : List Addr} : ∀ (d : D) (v : V), VRep W K G m d v → D.lowr m.length d
  | .non, _, _ => by simp [D.lowr]
  | .bl _, _, _ => by simp [D.lowr]
  | .int _, _, _ => by simp [D.lowr]
  | .str _, _, _ => by simp [D.lowr]
  | .tup ds, v, h => by
    simp only [VRep] at h
    obtain ⟨a, vs, _, _, e3⟩ := h
    simp only [D.lowr]; exact VReps.below ds vs e3
  | .ctup ds, v, h => by
    simp only [VRep] at h
    obtain ⟨a, vs, _, _, e3⟩ := h
    simp only [D.lowr]; exact VReps.below ds vs e3
  | .lst ds, v, h => by
    simp only [VRep] at h
    obtain ⟨a, vs, _, _, e3⟩ := h
    simp only [D.lowr]; exact VReps.below ds vs e3
  | .dct t ks ds, v, h => by
    simp only [VRep] at h
    obtain ⟨a, e1, h⟩ := h
    simp only [D.lowr]
    rcases h with ⟨ns, vs, _, rfl, h2, h3, h4⟩ | ⟨ns, vs, _, rfl, h2, h3, h4⟩
    · exact ⟨below_ints _ _, VReps.below ds vs h3⟩
    · exact ⟨below_tups _ _, VReps.below ds vs h3⟩
  | .set _, _, _ => by simp [D.lowr]
  | .scr _, _, _ => by simp [D.lowr]
  | .obj fs, v, h => by
    simp only [VRep] at h
    obtain ⟨a, dx, vs, _, _, _, e3⟩ := h
    simp only [D.lowr]; exact VReps.below fs vs e3
  | .fn _, _, _ => by simp [D.lowr]
  | .clo, _, h => by simp [VRep] at h
  | .ref i, v, h => by
    simp only [VRep] at h
    obtain ⟨a, _, e⟩ := h
    simp only [D.lowr]
    exact (List.getElem?_eq_some_iff.mp e).1
theorem VReps.below {G : Hp} {m : List Addr} : ∀ (ds : List D) (vs : List V), VReps W K G m ds vs → D.lows m.length ds
  | [], _, _ => by simp [D.lows]
  | d :: ds, vs, h => by
    simp only [VReps] at h
    obtain ⟨v, r, _, h1, h2⟩ := h
    simp only [D.lows]; exact ⟨VRep.below d v h1, VReps.below ds r h2⟩
end
mutual
/-- objects beyond n are not needed -/
theorem VRep.cutm {G : Hp} {m : List Addr} {n : Nat} : ∀ (d : D) (v : V), D.lowr n d → VRep W K G m d v → VRep W K G (m.take n) d v
  | .non, _, _, h => h
  | .bl _, _, _, h => h
  | .int _, _, _, h => h
  | .str _, _, _, h => h
  | .tup ds, v, b, h => by
    simp only [VRep, D.lowr] at h b ⊢
    obtain ⟨a, vs, e1, e2, e3⟩ := h
    exact ⟨a, vs, e1, e2, VReps.cutm ds vs b e3⟩
  | .lst ds, v, b, h => by
    simp only [VRep, D.lowr] at h b ⊢
    obtain ⟨a, vs, e1, e2, e3⟩ := h
    exact ⟨a, vs, e1, e2, VReps.cutm ds vs b e3⟩
  | .ctup ds, v, b, h => by
    simp only [VRep, D.lowr] at h b ⊢
    obtain ⟨a, vs, e1, e2, e3⟩ := h
    exact ⟨a, vs, e1, e2, VReps.cutm ds vs b e3⟩
  | .dct t ks ds, v, b, h => by
    simp only [VRep, D.lowr] at h b ⊢
    obtain ⟨a, e1, h⟩ := h
    refine ⟨a, e1, ?_⟩
    rcases h with ⟨ns, vs, h0, h1, h2, h3, h4⟩ | ⟨ns, vs, h0, h1, h2, h3, h4⟩
    · exact .inl ⟨ns, vs, h0, h1, h2, VReps.cutm ds vs b.2 h3, h4⟩
    · exact .inr ⟨ns, vs, h0, h1, h2, VReps.cutm ds vs b.2 h3, h4⟩
  | .set _, _, _, h => by simp only [VRep] at h ⊢; exact h
  | .scr _, _, _, h => by simp only [VRep] at h ⊢; exact h
  | .obj fs, v, b, h => by
    simp only [VRep, D.lowr] at h b ⊢
    obtain ⟨a, dx, vs, e1, e2, e3, e4⟩ := h
    exact ⟨a, dx, vs, e1, e2, e3, VReps.cutm fs vs b e4⟩
  | .fn _, _, _, h => h
  | .clo, _, _, h => h
  | .ref i, v, b, h => by
    simp only [VRep, D.lowr] at h b ⊢
    obtain ⟨a, e1, e2⟩ := h
    exact ⟨a, e1, by rw [List.getElem?_take_of_lt b]; exact e2⟩
theorem VReps.cutm {G : Hp} {m : List Addr} {n : Nat} : ∀ (ds : List D) (vs : List V), D.lows n ds → VReps W K G m ds vs → VReps W K G (m.take n) ds vs
  | [], _, _, h => by simp only [VReps] at h ⊢; exact h
  | d :: ds, vs, b, h => by
    simp only [VReps, D.lows] at h b ⊢
    obtain ⟨v, r, e1, e2, e3⟩ := h
    exact ⟨v, r, e1, VRep.cutm d v b.1 e2, VReps.cutm ds r b.2 e3⟩
end
end
/-- below n the store leans on nothing beyond n -/
def Low (n : Nat) (Z : Sto) : Prop := ∀ (i : Nat) (d : D), i < n → Z[i]? = some (some d) → D.lowr n d

/-- a list or a dict -/
def DatO (o : HO) : Prop := (∃ xs, o = .lst xs) ∨ (∃ kvs, o = .dK kvs) ∨ ∃ kvs, o = .dT kvs
theorem DatO.no_tbl {o : HO} (h : DatO o) : ∀ ps, o ≠ .tbl ps := fun ps z => by
  rcases h with ⟨_, h⟩ | ⟨_, h⟩ | ⟨_, h⟩ <;> (rw [h] at z; cases z)
/-- the store Z stands at m in the heap H; G: what is known and changes no more; pv: objects at work that the store does not tell -/
structure Rel (W : Wd) (K : PySem.W.Frag) (pv m : List Addr) (Z : Sto) (H G : Hp) : Prop where
  len : m.length = Z.length
  inj : ∀ (i j : Nat) (a : Addr) (d e : D), Z[i]? = some (some d) → Z[j]? = some (some e) → m[i]? = some a → m[j]? = some a → i = j
  sub : ∀ a o, G a = some o → H a = some o ∧ a ∉ pv ∧ ¬ Live Z m a ∧ ∀ ps, o ≠ .tbl ps
  obj : ∀ (i : Nat) (d : D) (a : Addr), Z[i]? = some (some d) → m[i]? = some a → ORep W K G m H a d
  npv : ∀ a, Live Z m a → a ∉ pv
  pvt : ∀ a, a ∈ pv → ∃ o, H a = some o ∧ DatO o
  tabs : LamX.Tabs W.T H
/-- a step: what was known stands, the frame's base is n -/
structure Stp (n : Nat) (pv m : List Addr) (Z : Sto) (H G : Hp) (m' : List Addr) (Z' : Sto) (H' G' : Hp) : Prop where
  pre : ∃ t, m' = m ++ t
  ex : Ex G G'
  pvk : ∀ a, a ∈ pv → H' a = H a
  low : ∀ k, k ≤ n → Low k Z → Low k Z'
section
variable {n : Nat} {pv m m' m'' : List Addr} {Z Z' Z'' : Sto} {H H' H'' G G' G'' : Hp}
theorem Stp.refl : Stp n pv m Z H G m Z H G := ⟨⟨[], by simp⟩, Ex.refl _, fun _ _ => rfl, fun _ _ h => h⟩
theorem Stp.trans (a : Stp n pv m Z H G m' Z' H' G') (b : Stp n pv m' Z' H' G' m'' Z'' H'' G'') : Stp n pv m Z H G m'' Z'' H'' G'' := by
  obtain ⟨t, e⟩ := a.pre
  obtain ⟨u, f⟩ := b.pre
  exact ⟨⟨t ++ u, by rw [f, e, List.append_assoc]⟩, a.ex.trans b.ex, fun x h => (b.pvk x h).trans (a.pvk x h), fun k hk h => b.low k hk (a.low k hk h)⟩
theorem Stp.at (a : Stp n pv m Z H G m' Z' H' G') : ∀ (i : Nat) (x : Addr), m[i]? = some x → m'[i]? = some x := fun i x e => by
  obtain ⟨t, rfl⟩ := a.pre
  rw [List.getElem?_append_left (List.getElem?_eq_some_iff.mp e).1]; exact e
theorem Stp.rep {W : Wd} {K : PySem.W.Frag} {d : D} {v : V} (a : Stp n pv m Z H G m' Z' H' G') (h : VRep W K G m d v) : VRep W K G' m' d v := VRep.mono a.ex a.at d v h
theorem Stp.reps {W : Wd} {K : PySem.W.Frag} {d : List D} {v : List V} (a : Stp n pv m Z H G m' Z' H' G') (h : VReps W K G m d v) : VReps W K G' m' d v := VReps.mono a.ex a.at d v h
end

/-- what follows an evaluation -/
def Pst (W : Wd) (K : PySem.W.Frag) (n : Nat) (Wx : WX) (σ : L2.St) (pv m : List Addr) (Z : Sto) (H G : Hp) {α β : Type} (rep : Hp → List Addr → α → β → Prop) (r : R α) (Q : β → Hp → Prop) : Prop := match r with
  | .ok a Z' => ∀ b m' H' G', Rel W K pv m' Z' H' G' → Stp n pv m Z H G m' Z' H' G' → rep G' m' a b → Q b H'
  | .exc c Z' => ∀ m' H' G', Rel W K pv m' Z' H' G' → Stp n pv m Z H G m' Z' H' G' → Wx (.ref (W.cls c)) none σ H'
  | .stuck => False
section
variable {W : Wd} {K : PySem.W.Frag} {n : Nat} {Wx : WX} {σ : L2.St} {pv m m' : List Addr} {Z Z' : Sto} {H H' G G' : Hp} {α β γ δ : Type}
theorem Pst.mono {rep : Hp → List Addr → α → β → Prop} {r : R α} {Q Q' : β → Hp → Prop} (h : Pst W K n Wx σ pv m Z H G rep r Q) (hQ : ∀ b H, Q b H → Q' b H) : Pst W K n Wx σ pv m Z H G rep r Q' := by
  unfold Pst at h ⊢
  split
  · exact fun b m' H' G' a b' c => hQ _ _ (h b m' H' G' a b' c)
  · exact h
  · exact h
theorem Pst.later {rep : Hp → List Addr → α → β → Prop} {r : R α} {Q : β → Hp → Prop} (h : Pst W K n Wx σ pv m Z H G rep r Q) (s : Stp n pv m Z H G m' Z' H' G') : Pst W K n Wx σ pv m' Z' H' G' rep r Q := by
  unfold Pst at h ⊢
  split
  · exact fun b m' H' G' a b' c => h b m' H' G' a (s.trans b') c
  · exact fun m' H' G' a b' => h m' H' G' a (s.trans b')
  · exact h
/-- one after the other -/
theorem Pst.bnd {x : M α} {f : α → M γ} {rep : Hp → List Addr → γ → δ → Prop} {rx : Hp → List Addr → α → β → Prop} {Q : δ → Hp → Prop} (h : Pst W K n Wx σ pv m Z H G rep (Fw.bnd x f Z) Q) :
    Pst W K n Wx σ pv m Z H G rx (x Z) (fun b H1 => ∃ a m1 Z1 G1, Rel W K pv m1 Z1 H1 G1 ∧ Stp n pv m Z H G m1 Z1 H1 G1 ∧ rx G1 m1 a b ∧ x Z = .ok a Z1 ∧ Pst W K n Wx σ pv m1 Z1 H1 G1 rep (f a Z1) Q) := by
  unfold Fw.bnd at h
  cases e : x Z with
  | ok a Z' =>
    rw [e] at h
    exact fun b m' H' G' R s1 rp => ⟨a, m', Z', G', R, s1, rp, rfl, h.later s1⟩
  | exc c Z' =>
    rw [e] at h
    exact h
  | stuck =>
    rw [e] at h
    exact h
end

section
variable {W : Wd} {K : PySem.W.Frag} {n : Nat} {pv m : List Addr} {Z : Sto} {H G : Hp} {p : Addr} {o : HO}
theorem Rel.fresh (R : Rel W K pv m Z H G) (hp : H p = none) : G p = none ∧ p ∉ pv ∧ ¬ Live Z m p := by
  refine ⟨?_, (fun h => by obtain ⟨o, e, _⟩ := R.pvt p h; rw [hp] at e; cases e), fun ⟨i, d, e1, e2⟩ => ?_⟩
  · cases e : G p with
    | none => rfl
    | some u =>
      have q := (R.sub p u e).1
      rw [hp] at q; cases q
  · have q := R.obj i d p e1 e2
    cases d with
    | lst ds =>
      obtain ⟨vs, q, _⟩ := q
      rw [hp] at q; cases q
    | dct t ks ds =>
      rcases q with ⟨_, _, _, _, q, _⟩ | ⟨_, _, _, _, q, _⟩ <;> (rw [hp] at q; cases q)
    | _ => exact q.elim
theorem ORep.mono {G G' : Hp} {m m' : List Addr} {H H' : Hp} {a : Addr} (e : Ex G G') (hm : ∀ (i : Nat) (a : Addr), m[i]? = some a → m'[i]? = some a) (h : ∀ o, H a = some o → H' a = some o) : ∀ {d : D}, ORep W K G m H a d → ORep W K G' m' H' a d
  | .lst ds, ⟨vs, q, r⟩ => ⟨vs, h _ q, VReps.mono e hm _ _ r⟩
  | .dct t ks ds, q => by
    rcases q with ⟨ns, vs, q0, q1, q2, q3, q4⟩ | ⟨ns, vs, q0, q1, q2, q3, q4⟩
    · exact .inl ⟨ns, vs, q0, q1, h _ q2, VReps.mono e hm _ _ q3, q4⟩
    · exact .inr ⟨ns, vs, q0, q1, h _ q2, VReps.mono e hm _ _ q3, q4⟩
  | .non, q => q.elim
  | .bl _, q => q.elim
  | .int _, q => q.elim
  | .str _, q => q.elim
  | .tup _, q => q.elim
  | .set _, q => q.elim
  | .scr _, q => q.elim
  | .obj _, q => q.elim
  | .fn _, q => q.elim
  | .clo, q => q.elim
  | .ref _, q => q.elim
  | .ctup _, q => q.elim
/-- a new object that is known and does not change -/
theorem Rel.new (R : Rel W K pv m Z H G) (hp : H p = none) (ho : ∀ ps, o ≠ .tbl ps) : Rel W K pv m Z (upd H p o) (upd G p o) := by
  obtain ⟨hG, hpv, hl⟩ := R.fresh hp
  have up : ∀ a u, H a = some u → upd H p o a = some u := fun a u e => by rw [upd_ne (ne_of_none e hp)]; exact e
  refine ⟨R.len, R.inj, fun a u e => ?_, fun i d a e1 e2 => (R.obj i d a e1 e2).mono (Ex.new hG) (fun _ _ h => h) (up a), R.npv, fun a h => ?_, R.tabs.ext up⟩
  · by_cases ha : a = p
    · subst ha
      rw [upd_same] at e ⊢
      cases e
      exact ⟨rfl, hpv, hl, ho⟩
    · rw [upd_ne ha] at e ⊢
      exact R.sub a u e
  · have ha : a ≠ p := fun z => hpv (z ▸ h)
    rw [upd_ne ha]
    exact R.pvt a h
theorem Stp.new (R : Rel W K pv m Z H G) (hp : H p = none) : Stp n pv m Z H G m Z (upd H p o) (upd G p o) := by
  obtain ⟨hG, hpv, hl⟩ := R.fresh hp
  exact ⟨⟨[], by simp⟩, Ex.new hG, fun a h => upd_ne fun z => hpv (z ▸ h), fun _ _ h => h⟩
theorem Rel.up (R : Rel W K pv m Z H G) : Ex G H := fun a o e => (R.sub a o e).1
/-- an object of the store -/
theorem Rel.at (R : Rel W K pv m Z H G) {i : Nat} {a : Addr} {d : D} (e1 : Z[i]? = some (some d)) (e2 : m[i]? = some a) : ORep W K G m H a d := R.obj i d a e1 e2
/-- the items of a tuple or list, as they stand in the heap -/
theorem seq_at (R : Rel W K pv m Z H G) {d : D} {v : V} {xs : List D} (h : VRep W K G m d v) (e : seqOf Z d = some xs) : ∃ a vs, v = .ref a ∧ (SqL K H a vs ∨ SqT K H a vs) ∧ VReps W K G m xs vs := by
  cases d with
  | tup ds =>
    simp only [seqOf, view, Option.some.injEq] at e; subst e
    simp only [VRep] at h
    obtain ⟨a, vs, h1, h2, h3⟩ := h
    exact ⟨a, vs, h1, .inr (SqT.of (R.up _ _ h2)), h3⟩
  | ctup ds =>
    simp only [seqOf, view, Option.some.injEq] at e; subst e
    simp only [VRep] at h
    obtain ⟨a, vs, h1, h2, h3⟩ := h
    exact ⟨a, vs, h1, .inr (R.up.sqT h2), h3⟩
  | lst ds =>
    simp only [seqOf, view, Option.some.injEq] at e; subst e
    simp only [VRep] at h
    obtain ⟨a, vs, h1, h2, h3⟩ := h
    exact ⟨a, vs, h1, .inl (SqL.of (R.up _ _ h2)), h3⟩
  | scr ns =>
    simp only [seqOf, view, Option.some.injEq] at e; subst e
    simp only [VRep] at h
    obtain ⟨a, h1, h2⟩ := h
    exact ⟨a, _, h1, .inl (R.up.sqL h2), VReps.of_ints ns⟩
  | ref i =>
    simp only [VRep] at h
    obtain ⟨a, h1, h2⟩ := h
    simp only [seqOf, view] at e
    cases hz : Z[i]? with
    | none => rw [hz] at e; simp at e
    | some o =>
      cases o with
      | none => rw [hz] at e; simp at e
      | some u =>
        rw [hz] at e
        have q := R.at hz h2
        cases u with
        | lst ds =>
          simp only [Option.some.injEq] at e; subst e
          obtain ⟨vs, q1, q2⟩ := q
          exact ⟨a, vs, h1, .inl (SqL.of q1), q2⟩
        | dct _ _ _ => simp at e
        | _ => exact q.elim
  | _ => simp [seqOf, view] at e
/-- a list, as it stands in the heap -/
theorem lst_at (R : Rel W K pv m Z H G) {d : D} {v : V} {xs : List D} (h : VRep W K G m d v) (e : view Z d = .lst xs) : ∃ a vs, v = .ref a ∧ H a = some (.lst vs) ∧ VReps W K G m xs vs := by
  cases d with
  | lst ds =>
    simp only [view, D.lst.injEq] at e; subst e
    simp only [VRep] at h
    obtain ⟨a, vs, h1, h2, h3⟩ := h
    exact ⟨a, vs, h1, R.up _ _ h2, h3⟩
  | ref i =>
    simp only [VRep] at h
    obtain ⟨a, h1, h2⟩ := h
    simp only [view] at e
    cases hz : Z[i]? with
    | none => rw [hz] at e; simp at e
    | some o =>
      cases o with
      | none => rw [hz] at e; simp at e
      | some u =>
        rw [hz] at e
        simp only at e; subst e
        obtain ⟨vs, q1, q2⟩ := R.at hz h2
        exact ⟨a, vs, h1, q1, q2⟩
  | _ => simp [view] at e
theorem tup_at (R : Rel W K pv m Z H G) {d : D} {v : V} {xs : List D} (h : VRep W K G m d v) (e : view Z d = .tup xs) : ∃ a vs, v = .ref a ∧ H a = some (.tup vs) ∧ VReps W K G m xs vs := by
  cases d with
  | tup ds =>
    simp only [view, D.tup.injEq] at e; subst e
    simp only [VRep] at h
    obtain ⟨a, vs, h1, h2, h3⟩ := h
    exact ⟨a, vs, h1, R.up _ _ h2, h3⟩
  | ref i =>
    simp only [VRep] at h
    obtain ⟨a, h1, h2⟩ := h
    simp only [view] at e
    cases hz : Z[i]? with
    | none => rw [hz] at e; simp at e
    | some o =>
      cases o with
      | none => rw [hz] at e; simp at e
      | some u =>
        rw [hz] at e
        simp only at e; subst e
        exact (R.at hz h2).elim
  | _ => simp [view] at e
/-- a dict, as it stands in the heap -/
theorem dct_at (R : Rel W K pv m Z H G) {d : D} {v : V} {t : Bool} {ks ds : List D} (h : VRep W K G m d v) (e : view Z d = .dct t ks ds) : ∃ a, v = .ref a ∧ ORep W K G m H a (.dct t ks ds) := by
  cases d with
  | dct t' ks' ds' =>
    simp only [view, D.dct.injEq] at e
    obtain ⟨rfl, rfl, rfl⟩ := e
    simp only [VRep] at h
    obtain ⟨a, h1, h⟩ := h
    refine ⟨a, h1, ?_⟩
    rcases h with ⟨ns, vs, q0, q1, q2, q3⟩ | ⟨ns, vs, q0, q1, q2, q3⟩
    · exact .inl ⟨ns, vs, q0, q1, R.up _ _ q2, q3⟩
    · exact .inr ⟨ns, vs, q0, q1, R.up _ _ q2, q3⟩
  | ref i =>
    simp only [VRep] at h
    obtain ⟨a, h1, h2⟩ := h
    simp only [view] at e
    cases hz : Z[i]? with
    | none => rw [hz] at e; simp at e
    | some o =>
      cases o with
      | none => rw [hz] at e; simp at e
      | some u =>
        rw [hz] at e
        simp only at e; subst e
        exact ⟨a, h1, R.at hz h2⟩
  | _ => simp [view] at e
/-- where no store is asked: the value itself -/
theorem view_rep (R : Rel W K pv m Z H G) {d : D} {v : V} (h : VRep W K G m d v) (hn : ∀ xs, view Z d ≠ .lst xs) (hd : ∀ t ks xs, view Z d ≠ .dct t ks xs) : view Z d = d ∨ view Z d = .clo := by
  cases d with
  | ref i =>
    simp only [VRep] at h
    obtain ⟨a, h1, h2⟩ := h
    simp only [view] at hn hd ⊢
    cases hz : Z[i]? with
    | none => exact .inr rfl
    | some o =>
      cases o with
      | none => exact .inr rfl
      | some u =>
        rw [hz] at hn hd
        have q := R.at hz h2
        cases u with
        | lst xs => exact absurd rfl (hn xs)
        | dct t ks xs => exact absurd rfl (hd t ks xs)
        | _ => exact q.elim
  | _ => exact .inl rfl
end
end Fw
end
section
set_option Elab.async false
set_option linter.all false
set_option maxRecDepth 100000
set_option maxHeartbeats 1000000
/-! Fw.Sound: expressions -/
namespace Fw
open PySem PySem.Spec PyProof.Rows L2

/-- the setting of an evaluation -/
structure Cf where
  W : Wd
  /-- the frame's base in the store -/
  n : Nat
  /-- what is wanted of an error -/
  Wx : WX
  F : FT
  F2 : FT
  cl : Option (List D → M D)
  /-- where the function stands that was handed in -/
  fc : Addr
  /-- the def hands out a new list -/
  fr : Bool
  /-- what is known to stand -/
  kn : List (Addr × HO)
  /-- the names' values where the function was made that was handed in -/
  env0 : Env
  st0 : L2.St
  fc0 : Addr
/-- the names' values -/
structure ERel (c : Cf) (K : PySem.W.Frag) (G : Hp) (m : List Addr) (ρ : Env) (σ : L2.St) : Prop where
  len : ρ.length = σ.length
  at_ : ∀ (i : Nat) (d : D), ρ[i]? = some (some d) → (d = .clo ∧ σ[i]? = some (some (.ref c.fc))) ∨ ∃ v, σ[i]? = some (some v) ∧ VRep c.W K G m d v
  known : ∀ p, p ∈ c.kn → G p.1 = some p.2
  up : ∀ (i : Nat) (d : D), c.env0[i]? = some (some d) → (d = .clo ∧ c.st0[i]? = some (some (.ref c.fc0))) ∨ ∃ v, c.st0[i]? = some (some v) ∧ VRep c.W K G m d v
  upl : c.env0.length = c.st0.length
theorem ERel.step {c : Cf} {K : PySem.W.Frag} {n : Nat} {pv m m' : List Addr} {Z Z' : Sto} {H H' G G' : Hp} {ρ : Env} {σ : L2.St} (e : ERel c K G m ρ σ) (s : Stp n pv m Z H G m' Z' H' G') : ERel c K G' m' ρ σ :=
  ⟨e.len, fun i d h => by
    rcases e.at_ i d h with h | ⟨v, h1, h2⟩
    · exact .inl h
    · exact .inr ⟨v, h1, s.rep h2⟩, fun p hp => s.ex _ _ (e.known p hp), fun i d h => by
    rcases e.up i d h with h | ⟨v, h1, h2⟩
    · exact .inl h
    · exact .inr ⟨v, h1, s.rep h2⟩, e.upl⟩
def repEq {α : Type} : Hp → List Addr → α → α → Prop := fun _ _ a b => a = b
section
variable (c : Cf) (K : PySem.W.Frag)
def tE (e : ME) : TE := fun σ H Q => ∃ pv m Z G ρ, Rel c.W K pv m Z H G ∧ ERel c K G m ρ σ ∧ Pst c.W K c.n c.Wx σ pv m Z H G (VRep c.W K) (ev c.F c.F2 c.cl e c.n ρ Z) Q
def tT (e : ME) : TT := fun σ H Q => ∃ pv m Z G ρ, Rel c.W K pv m Z H G ∧ ERel c K G m ρ σ ∧ Pst c.W K c.n c.Wx σ pv m Z H G repEq (evT c.F c.F2 c.cl e c.n ρ Z) Q
def tA (es : List ME) : TA := fun σ H Q => ∃ pv m Z G ρ, Rel c.W K pv m Z H G ∧ ERel c K G m ρ σ ∧ Pst c.W K c.n c.Wx σ pv m Z H G (VReps c.W K) (evs c.F c.F2 c.cl es c.n ρ Z) Q
end
theorem pe_weak {X : Cx} {e : Expr} {t t' : TE} (h : PE X e t) (w : ∀ σ H Q, t' σ H Q → t σ H Q) : PE X e t' := ⟨fun pins s σ H Q I q => h.run pins s σ H Q I (w σ H Q q)⟩
theorem pt_weak {X : Cx} {e : Expr} {t t' : TT} (h : PT X e t) (w : ∀ σ H Q, t' σ H Q → t σ H Q) : PT X e t' := ⟨fun pins s σ H Q I q => h.run pins s σ H Q I (w σ H Q q)⟩
theorem pw_weak {X : Cx} {e : Expr} {t t' : TT} (h : PW X e t) (w : ∀ σ H Q, t' σ H Q → t σ H Q) : PW X e t' := ⟨fun wh pins s σ H Q I q => h.run wh pins s σ H Q I (w σ H Q q)⟩
theorem pa_weak {X : Cx} {e : List Expr} {t t' : TA} (h : PA X e t) (w : ∀ σ H Q, t' σ H Q → t σ H Q) : PA X e t' := ⟨fun pos pins s σ H Q I q => h.run pos pins s σ H Q I (w σ H Q q)⟩
theorem ps_weak {X : Cx} {e : Stmt} {t t' : TS} (h : PS X e t) (w : ∀ D σ H, t' D σ H → t D σ H) : PS X e t' := ⟨fun pins s σ H Q I q => h.run pins s σ H Q I (w Q σ H q)⟩
theorem pss_weak {X : Cx} {e : List Stmt} {t t' : TS} (h : PSs X e t) (w : ∀ D σ H, t' D σ H → t D σ H) : PSs X e t' := ⟨fun pins s σ H Q I q => h.run pins s σ H Q I (w Q σ H q)⟩

section
variable {X : Cx} {c : Cf} {σ : L2.St} {pv m : List Addr} {Z : Sto} {H G : Hp} {ρ : Env} {pos : Pos}
/-- a value without an error, where nothing changes -/
theorem Pst.here {W : Wd} {K : PySem.W.Frag} {n : Nat} {Wx : WX} {α β : Type} {rep : Hp → List Addr → α → β → Prop} {a : α} {b : β} {Q : β → Hp → Prop} (h : Pst W K n Wx σ pv m Z H G rep (.ok a Z) Q) (R : Rel W K pv m Z H G) (r : rep G m a b) : Q b H := h b m H G R Stp.refl r
/-- .. where a new object comes -/
theorem Pst.new {W : Wd} {K : PySem.W.Frag} {n : Nat} {Wx : WX} {α β : Type} {rep : Hp → List Addr → α → β → Prop} {a : α} {b : β} {Q : β → Hp → Prop} {p : Addr} {o : HO} (h : Pst W K n Wx σ pv m Z H G rep (.ok a Z) Q) (R : Rel W K pv m Z H G) (hp : H p = none) (ho : ∀ ps, o ≠ .tbl ps)
    (r : rep (upd G p o) m a b) : Q b (upd H p o) := h b m _ _ (R.new hp ho) (Stp.new R hp) r

/-! ### names, constants -/
theorem s_int {i : Int} {k : Nat} : PE X (.Constant (.int i) k pos) (tE c X.K (.lit (.int i))) := pe_weak pe_int fun σ H Q ⟨pv, m, Z, G, ρ, R, E, h⟩ => by simp only [ev, ret] at h; exact Pst.here h R (by simp only [VRep])
theorem s_bl {b : Bool} {k : Nat} : PE X (.Constant (.bool b) k pos) (tE c X.K (.lit (.bl b))) := pe_weak pe_bl fun σ H Q ⟨pv, m, Z, G, ρ, R, E, h⟩ => by simp only [ev, ret] at h; exact Pst.here h R (by simp only [VRep])
theorem s_non {k : Nat} : PE X (.Constant .none k pos) (tE c X.K (.lit .non)) := pe_weak pe_non fun σ H Q ⟨pv, m, Z, G, ρ, R, E, h⟩ => by simp only [ev, ret] at h; exact Pst.here h R (by simp only [VRep])
theorem s_str {x : PySem.Str} {k : Nat} : PE X (.Constant (.str x) k pos) (tE c X.K (.lit (.str x))) := pe_weak pe_str fun σ H Q ⟨pv, m, Z, G, ρ, R, E, h⟩ => by simp only [ev, ret] at h; exact Pst.here h R (by simp only [VRep])
theorem s_var {i : Nat} {x : PySem.Str} (hN : X.N[i]? = some x) (hv : Vis X.env.scope x) (hd : (x == ("__debug__" : PySem.Str)) = false) (hcd : (x == ("__classdict__" : PySem.Str)) = false) : PE X (.Name x pos) (tE c X.K (.var i)) :=
  pe_weak (pe_var hN hv hd hcd) fun σ H Q ⟨pv, m, Z, G, ρ, R, E, h⟩ => by
    simp only [ev] at h
    cases e : ρ[i]? with
    | none => rw [e] at h; exact h.elim
    | some o =>
      cases o with
      | none => rw [e] at h; exact h.elim
      | some d =>
        rw [e] at h
        rcases E.at_ i d e with ⟨rfl, _⟩ | ⟨v, e1, r⟩
        · exact h.elim
        · cases d <;> first | exact ⟨v, e1, Pst.here h R r⟩ | exact h.elim
theorem s_gl {g : Nat} {d : D} {x : PySem.Str} {v : V} {u : Value} (hg : Gl X x) (hm : X.mg x = some u) (r : RelV v u) (hr : ∀ G m, VRep c.W X.K G m d v) (hd : (x == ("__debug__" : PySem.Str)) = false) : PE X (.Name x pos) (tE c X.K (.gl g d)) :=
  pe_weak (pe_glob hg hm r hd) fun σ H Q ⟨pv, m, Z, G, ρ, R, E, h⟩ => by simp only [ev, ret] at h; exact Pst.here h R (hr _ _)

/-! ### two expressions in a row, and an operation by values -/
/-- what an operation by values is to tell -/
def rOp (c : Cf) (K : PySem.W.Frag) (f : D → D → M D) : R2 := fun x y H Q => ∃ σ pv m Z G a b, Rel c.W K pv m Z H G ∧ VRep c.W K G m a x ∧ VRep c.W K G m b y ∧ Pst c.W K c.n c.Wx σ pv m Z H G (VRep c.W K) (f a b Z) Q
theorem two {a b : ME} {f : D → D → M D} {ta tb : TE} {K : PySem.W.Frag} {Q : VK} (R : Rel c.W K pv m Z H G) (E : ERel c K G m ρ σ)
    (h : Pst c.W K c.n c.Wx σ pv m Z H G (VRep c.W K) (bnd (ev c.F c.F2 c.cl a c.n ρ) (fun x => bnd (ev c.F c.F2 c.cl b c.n ρ) fun y => f x y) Z) Q) : tOp (rOp c K f) (tE c K a) (tE c K b) σ H Q := by
  refine ⟨pv, m, Z, G, ρ, R, E, (h.bnd (rx := VRep c.W K)).mono fun x H1 ⟨d, m1, Z1, G1, R1, s1, r1, _, h1⟩ => ?_⟩
  refine ⟨pv, m1, Z1, G1, ρ, R1, E.step s1, (h1.bnd (rx := VRep c.W K)).mono fun y H2 ⟨e, m2, Z2, G2, R2, s2, r2, _, h2⟩ => ?_⟩
  exact ⟨σ, pv, m2, Z2, G2, d, e, R2, s2.rep r1, r2, h2⟩
def opBO : BO → Operator
  | .add => .Add | .sub => .Sub | .mul => .Mult | .fdiv => .FloorDiv | .mod => .Mod | .shl => .LShift | .shr => .RShift | .and => .BitAnd | .or => .BitOr | .xor => .BitXor
theorem cap_line {n : Nat} (h : n ≤ cap) : n ≤ sizeLine := by rw [sizeLine_eq]; unfold cap at h; omega
theorem mul_cond {i j : Int} (h : i.natAbs < 18446744073709551616 ∨ j.natAbs < 18446744073709551616) : CMul i j := by
  unfold CMul
  rcases h with h | h
  · left; omega
  · right; omega
theorem repN_flat {α : Type} (xs : List α) : ∀ n : Nat, repN n xs = (List.replicate n xs).flatten
  | 0 => rfl
  | n + 1 => by rw [repN, repN_flat xs n, List.replicate_succ, List.flatten_cons]
theorem VReps.rep {W : Wd} {K : PySem.W.Frag} {ds : List D} {vs : List V} (h : VReps W K G m ds vs) : ∀ n : Nat, VReps W K G m (repN n ds) (repN n vs)
  | 0 => VReps.nil
  | n + 1 => h.append (h.rep n)
/-- a op b, both ints -/
theorem or_int (o : BO) {i j k : Int} (e : intOp o i j = some k) {pins : List (Addr × Obj)} {s : Shared} {σ : L2.St} {v u : Value} {Q : VK} (I : Inv X pins σ H s) (rx : RelV (.int i) v) (ry : RelV (.int j) u) (q : Q (.int k) H) :
    wpAny (model X.prog X.w) X.A (binaryOp (opBO o) v u) (EP X pins σ Q) X.xe s := by
  cases o <;> simp only [intOp] at e
  · cases e; exact op_add pins s σ H _ _ v u Q I rx ry ⟨i, j, rfl, rfl, q⟩
  · cases e; exact op_sub pins s σ H _ _ v u Q I rx ry ⟨i, j, rfl, rfl, q⟩
  · split at e
    · cases e; exact op_mul pins s σ H _ _ v u Q I rx ry ⟨i, j, rfl, rfl, mul_cond ‹_›, q⟩
    · cases e
  · split at e
    · cases e; exact op_fdivN pins s σ H _ _ v u Q I rx ry ⟨i, j, rfl, rfl, ‹_›, q⟩
    · cases e
  · split at e
    · cases e; exact op_modN pins s σ H _ _ v u Q I rx ry ⟨i, j, rfl, rfl, ‹_›, q⟩
    · cases e
  · split at e
    · cases e; exact op_shl pins s σ H _ _ v u Q I rx ry ⟨i, j, rfl, rfl, ‹_›, q⟩
    · cases e
  · split at e
    · cases e; exact op_shr pins s σ H _ _ v u Q I rx ry ⟨i, j, rfl, rfl, ‹_›, q⟩
    · cases e
  · cases e; exact op_and pins s σ H _ _ v u Q I rx ry ⟨i, j, rfl, rfl, q⟩
  · cases e; exact op_or pins s σ H _ _ v u Q I rx ry ⟨i, j, rfl, rfl, q⟩
  · cases e; exact op_xor pins s σ H _ _ v u Q I rx ry ⟨i, j, rfl, rfl, q⟩
theorem no_tbl_tup {xs : List V} : ∀ ps, HO.tup xs ≠ .tbl ps := fun _ z => nomatch z
theorem no_tbl_lst {xs : List V} : ∀ ps, HO.lst xs ≠ .tbl ps := fun _ z => nomatch z
/-- tuple + tuple -/
theorem or_catT {xs ys : List D} {a b : D} {x y : V} {pins : List (Addr × Obj)} {s : Shared} {σ σ' : L2.St} {v u : Value} {Q : VK} (R : Rel c.W X.K pv m Z H G) (ra : VRep c.W X.K G m a x) (rb : VRep c.W X.K G m b y) (ea : view Z a = .tup xs) (eb : view Z b = .tup ys)
    (hz : xs.length + ys.length ≤ cap) (h : Pst c.W X.K c.n c.Wx σ' pv m Z H G (VRep c.W X.K) (.ok (.tup (xs ++ ys)) Z) Q) (I : Inv X pins σ H s) (rx : RelV x v) (ry : RelV y u) : wpAny (model X.prog X.w) X.A (binaryOp .Add v u) (EP X pins σ Q) X.xe s := by
  obtain ⟨p, vs, e1, q1, r1⟩ := tup_at R ra ea
  obtain ⟨p2, us, e2, q2, r2⟩ := tup_at R rb eb
  have hl := r1.length
  have hl2 := r2.length
  -- what is written down of the two tuples
  have rt : ∀ {d : D} {z : V} {ds : List D}, VRep c.W X.K G m d z → view Z d = .tup ds → VRep c.W X.K G m (.tup ds) z := fun {d z ds} rd ed => by
    cases d with
    | tup _ => simp only [view, D.tup.injEq] at ed; subst ed; exact rd
    | ref i =>
      exfalso
      have rd' := rd
      simp only [VRep] at rd'
      obtain ⟨a, h1, h2⟩ := rd'
      simp only [view] at ed
      cases hz : Z[i]? with
      | none => rw [hz] at ed; simp at ed
      | some o =>
        cases o with
        | none => rw [hz] at ed; simp at ed
        | some u => rw [hz] at ed; simp only at ed; subst ed; exact (R.at hz h2).elim
    | _ => simp [view] at ed
  refine op_catA pins s σ H x y v u Q I rx ry ⟨p, p2, vs, us, e1, e2, SqT.of q1, SqT.of q2, cap_line (by omega), fun z => ?_, fun z1 z2 => ?_, fun z1 z2 p3 hp => ?_⟩
  · subst z
    have : xs = [] := List.eq_nil_of_length_eq_zero (by rw [hl]; rfl)
    subst this
    rw [← e2]
    exact Pst.here h R (by simpa using rt rb eb)
  · subst z2
    have : ys = [] := List.eq_nil_of_length_eq_zero (by rw [hl2]; rfl)
    subst this
    rw [← e1]
    exact Pst.here h R (by simpa using rt ra ea)
  · refine Pst.new h R hp no_tbl_tup ?_
    simp only [VRep]
    exact ⟨p3, _, rfl, upd_same, VReps.mono (Ex.new (R.fresh hp).1) (fun _ _ h => h) _ _ (r1.append r2)⟩
/-- list + list -/
theorem or_catL {xs ys : List D} {a b : D} {x y : V} {pins : List (Addr × Obj)} {s : Shared} {σ : L2.St} {v u : Value} {Q : VK} (R : Rel c.W X.K pv m Z H G) (ra : VRep c.W X.K G m a x) (rb : VRep c.W X.K G m b y) (ea : view Z a = .lst xs) (eb : view Z b = .lst ys)
    (hz : xs.length + ys.length ≤ cap) (h : ∀ p, H p = none → ∀ vs, VReps c.W X.K G m (xs ++ ys) vs → Q (.ref p) (upd H p (.lst vs))) (I : Inv X pins σ H s) (rx : RelV x v) (ry : RelV y u) : wpAny (model X.prog X.w) X.A (binaryOp .Add v u) (EP X pins σ Q) X.xe s := by
  obtain ⟨p, vs, e1, q1, r1⟩ := lst_at R ra ea
  obtain ⟨p2, us, e2, q2, r2⟩ := lst_at R rb eb
  have hl := r1.length
  have hl2 := r2.length
  exact op_cat pins s σ H x y v u Q I rx ry ⟨p, p2, vs, us, e1, e2, q1, q2, cap_line (by omega), fun p3 hp => h p3 hp _ (r1.append r2)⟩

/-! ### new lists and dicts -/
/-- a new list or dict stands at v, not yet known; anything else is known -/
def FRep (W : Wd) (K : PySem.W.Frag) (pv m : List Addr) (Z : Sto) (H G : Hp) (v : V) : D → Prop
  | .lst xs => ∃ p, v = .ref p ∧ G p = none ∧ p ∉ pv ∧ ¬ Live Z m p ∧ ORep W K G m H p (.lst xs)
  | .dct t ks xs => ∃ p, v = .ref p ∧ G p = none ∧ p ∉ pv ∧ ¬ Live Z m p ∧ ORep W K G m H p (.dct t ks xs)
  | d => VRep W K G m d v
def PstF (W : Wd) (K : PySem.W.Frag) (n : Nat) (Wx : WX) (σ : L2.St) (pv m : List Addr) (Z : Sto) (H G : Hp) (r : R D) (Q : VK) : Prop := match r with
  | .ok d Z' => ∀ v m' H' G', Rel W K pv m' Z' H' G' → Stp n pv m Z H G m' Z' H' G' → FRep W K pv m' Z' H' G' v d → Q v H'
  | .exc c Z' => ∀ m' H' G', Rel W K pv m' Z' H' G' → Stp n pv m Z H G m' Z' H' G' → Wx (.ref (W.cls c)) none σ H'
  | .stuck => False
theorem live_has {W : Wd} {K : PySem.W.Frag} (R : Rel W K pv m Z H G) {a : Addr} (h : Live Z m a) : ∃ o, H a = some o := by
  obtain ⟨i, d, e1, e2⟩ := h
  have q := R.obj i d a e1 e2
  cases d with
  | lst ds => obtain ⟨vs, q, _⟩ := q; exact ⟨_, q⟩
  | dct t ks ds => rcases q with ⟨_, _, _, _, q, _⟩ | ⟨_, _, _, _, q, _⟩ <;> exact ⟨_, q⟩
  | _ => exact q.elim
/-- what stands, and nobody changes, is known from now on -/
theorem Rel.add {W : Wd} {K : PySem.W.Frag} (R : Rel W K pv m Z H G) {p : Addr} {o : HO} (hp : H p = some o) (hg : G p = none) (hv : p ∉ pv) (hl : ¬ Live Z m p) (ho : ∀ ps, o ≠ .tbl ps) : Rel W K pv m Z H (upd G p o) :=
  ⟨R.len, R.inj, fun a u e => by
      by_cases ha : a = p
      · subst ha; rw [upd_same] at e; cases e; exact ⟨hp, hv, hl, ho⟩
      · rw [upd_ne ha] at e; exact R.sub a u e,
    fun i d a e1 e2 => (R.obj i d a e1 e2).mono (Ex.new hg) (fun _ _ h => h) fun _ h => h, R.npv, R.pvt, R.tabs⟩
theorem Stp.add {n : Nat} {m' : List Addr} {Z' : Sto} {H' G' : Hp} (s : Stp n pv m Z H G m' Z' H' G') {p : Addr} {o : HO} (hg : G' p = none) : Stp n pv m Z H G m' Z' H' (upd G' p o) :=
  ⟨s.pre, s.ex.trans (Ex.new hg), s.pvk, s.low⟩
theorem FRep.known {W : Wd} {K : PySem.W.Frag} {n : Nat} {m' : List Addr} {Z' : Sto} {H' G' : Hp} {v : V} {d : D} (R : Rel W K pv m' Z' H' G') (s : Stp n pv m Z H G m' Z' H' G') (f : FRep W K pv m' Z' H' G' v d) :
    ∃ G'', Rel W K pv m' Z' H' G'' ∧ Stp n pv m Z H G m' Z' H' G'' ∧ VRep W K G'' m' d v ∧ Ex G' G'' := by
  cases d with
  | lst xs =>
    obtain ⟨p, e1, e2, e3, e4, vs, e5, e6⟩ := f
    refine ⟨_, R.add e5 e2 e3 e4 no_tbl_lst, s.add e2, ?_, Ex.new e2⟩
    simp only [VRep]
    exact ⟨p, vs, e1, upd_same, VReps.mono (Ex.new e2) (fun _ _ h => h) _ _ e6⟩
  | dct t ks xs =>
    obtain ⟨p, e1, e2, e3, e4, e5⟩ := f
    rcases e5 with ⟨ns, vs, q0, q1, q2, q3, q4⟩ | ⟨ns, vs, q0, q1, q2, q3, q4⟩
    · refine ⟨_, R.add q2 e2 e3 e4 (fun _ z => nomatch z), s.add e2, ?_, Ex.new e2⟩
      simp only [VRep]
      exact ⟨p, e1, .inl ⟨ns, vs, q0, q1, upd_same, VReps.mono (Ex.new e2) (fun _ _ h => h) _ _ q3, q4⟩⟩
    · refine ⟨_, R.add q2 e2 e3 e4 (fun _ z => nomatch z), s.add e2, ?_, Ex.new e2⟩
      simp only [VRep]
      exact ⟨p, e1, .inr ⟨ns, vs, q0, q1, upd_same, VReps.mono (Ex.new e2) (fun _ _ h => h) _ _ q3, q4⟩⟩
  | _ => exact ⟨G', R, s, f, Ex.refl _⟩
theorem Pst.toF {W : Wd} {K : PySem.W.Frag} {n : Nat} {Wx : WX} {r : R D} {Q : VK} (h : Pst W K n Wx σ pv m Z H G (VRep W K) r Q) : PstF W K n Wx σ pv m Z H G r Q := by
  unfold Pst at h
  unfold PstF
  split
  · intro v m' H' G' R s f
    obtain ⟨G'', R', s', r, _⟩ := f.known R s
    exact h v m' H' G'' R' s' r
  · exact h
  · exact h
theorem PstF.later {W : Wd} {K : PySem.W.Frag} {n : Nat} {Wx : WX} {m' : List Addr} {Z' : Sto} {H' G' : Hp} {r : R D} {Q : VK} (h : PstF W K n Wx σ pv m Z H G r Q) (s : Stp n pv m Z H G m' Z' H' G') : PstF W K n Wx σ pv m' Z' H' G' r Q := by
  unfold PstF at h ⊢
  split
  · exact fun b m' H' G' a b' c => h b m' H' G' a (s.trans b') c
  · exact fun m' H' G' a b' => h m' H' G' a (s.trans b')
  · exact h
theorem PstF.bnd {W : Wd} {K : PySem.W.Frag} {n : Nat} {Wx : WX} {α β : Type} {x : M α} {f : α → M D} {rx : Hp → List Addr → α → β → Prop} {Q : VK} (h : PstF W K n Wx σ pv m Z H G (Fw.bnd x f Z) Q) :
    Pst W K n Wx σ pv m Z H G rx (x Z) (fun b H1 => ∃ a m1 Z1 G1, Rel W K pv m1 Z1 H1 G1 ∧ Stp n pv m Z H G m1 Z1 H1 G1 ∧ rx G1 m1 a b ∧ x Z = .ok a Z1 ∧ PstF W K n Wx σ pv m1 Z1 H1 G1 (f a Z1) Q) := by
  unfold Fw.bnd at h
  cases e : x Z with
  | ok a Z' =>
    rw [e] at h
    exact fun b m' H' G' R s1 rp => ⟨a, m', Z', G', R, s1, rp, rfl, h.later s1⟩
  | exc c Z' =>
    rw [e] at h
    exact h
  | stuck =>
    rw [e] at h
    exact h
/-- a new list is handed out -/
theorem PstF.lst {W : Wd} {K : PySem.W.Frag} {n : Nat} {Wx : WX} {xs : List D} {vs : List V} {Q : VK} {p : Addr} (h : PstF W K n Wx σ pv m Z H G (.ok (.lst xs) Z) Q) (R : Rel W K pv m Z H G) (hp : H p = none) (r : VReps W K G m xs vs) : Q (.ref p) (upd H p (.lst vs)) := by
  obtain ⟨hG, hpv, hl⟩ := R.fresh hp
  have up : ∀ a u, H a = some u → upd H p (.lst vs) a = some u := fun a u e => by rw [upd_ne (ne_of_none e hp)]; exact e
  refine h _ m _ G ⟨R.len, R.inj, fun a u e => ?_, fun i d a e1 e2 => (R.obj i d a e1 e2).mono (Ex.refl _) (fun _ _ h => h) (up a), R.npv, fun a ha => ?_, R.tabs.ext up⟩ ⟨⟨[], by simp⟩, Ex.refl _, fun a ha => upd_ne fun z => hpv (z ▸ ha), fun _ _ h => h⟩ ⟨p, rfl, hG, hpv, hl, vs, upd_same, r⟩
  · obtain ⟨q1, q2, q3, q4⟩ := R.sub a u e
    exact ⟨up a u q1, q2, q3, q4⟩
  · have ha' : a ≠ p := fun z => hpv (z ▸ ha)
    rw [upd_ne ha']
    exact R.pvt a ha
def tF (c : Cf) (K : PySem.W.Frag) (e : ME) : TE := fun σ H Q => ∃ pv m Z G ρ, Rel c.W K pv m Z H G ∧ ERel c K G m ρ σ ∧ PstF c.W K c.n c.Wx σ pv m Z H G (ev c.F c.F2 c.cl e c.n ρ Z) Q
theorem PE.ofF {e : Expr} {d : ME} (h : PE X e (tF c X.K d)) : PE X e (tE c X.K d) := pe_weak h fun σ H Q ⟨pv, m, Z, G, ρ, R, E, q⟩ => ⟨pv, m, Z, G, ρ, R, E, q.toF⟩
def rOpF (c : Cf) (K : PySem.W.Frag) (f : D → D → M D) : R2 := fun x y H Q => ∃ σ pv m Z G a b, Rel c.W K pv m Z H G ∧ VRep c.W K G m a x ∧ VRep c.W K G m b y ∧ PstF c.W K c.n c.Wx σ pv m Z H G (f a b Z) Q
theorem twoF {a b : ME} {f : D → D → M D} {ta tb : TE} {K : PySem.W.Frag} {Q : VK} (R : Rel c.W K pv m Z H G) (E : ERel c K G m ρ σ)
    (h : PstF c.W K c.n c.Wx σ pv m Z H G (bnd (ev c.F c.F2 c.cl a c.n ρ) (fun x => bnd (ev c.F c.F2 c.cl b c.n ρ) fun y => f x y) Z) Q) : tOp (rOpF c K f) (tE c K a) (tE c K b) σ H Q := by
  refine ⟨pv, m, Z, G, ρ, R, E, (h.bnd (rx := VRep c.W K)).mono fun x H1 ⟨d, m1, Z1, G1, R1, s1, r1, _, h1⟩ => ?_⟩
  refine ⟨pv, m1, Z1, G1, ρ, R1, E.step s1, (h1.bnd (rx := VRep c.W K)).mono fun y H2 ⟨e, m2, Z2, G2, R2, s2, r2, _, h2⟩ => ?_⟩
  exact ⟨σ, pv, m2, Z2, G2, d, e, R2, s2.rep r1, r2, h2⟩
theorem PstF.other {W : Wd} {K : PySem.W.Frag} {n : Nat} {Wx : WX} {r : R D} {Q : VK} (h : PstF W K n Wx σ pv m Z H G r Q) (hl : ∀ xs Z', r ≠ .ok (.lst xs) Z') (hd : ∀ t ks xs Z', r ≠ .ok (.dct t ks xs) Z') : Pst W K n Wx σ pv m Z H G (VRep W K) r Q := by
  unfold PstF at h
  unfold Pst
  split
  · rename_i d Z'
    intro v m' H' G' R s f
    refine h v m' H' G' R s ?_
    cases d with
    | lst xs => exact absurd rfl (hl xs Z')
    | dct t ks xs => exact absurd rfl (hd t ks xs Z')
    | _ => exact f
  · exact h
  · exact h
end
end Fw
end
section
set_option Elab.async false
set_option linter.all false
set_option maxRecDepth 100000
set_option maxHeartbeats 1000000
/-! Fw.Sound: operators -/
namespace Fw
open PySem PySem.Spec PyProof.Rows L2

/-! ### tuple * int -/
theorem tuple_mul0 (l : Addr) (items : Array Value) (n : Nat) (dd : Option Addr) (sl : Array (Option Value)) (x : Int) (u : Tok) (c0 : (decide (x < -(2 ^ 63)) || decide (x ≥ 2 ^ 63)) = false) (c1 : (items.isEmpty || x == 1) = true) :
    Meets (Builtin.«tuple.__mul__» ⟨[.ref l, .int x u], []⟩) (fun _ R s => s.heap.get? l = some { cls := .type "tuple", dict := dd, data := .seq items n, slots := sl } ∧ R (.ok (.ret (Value.ref l))) s) :=
  .of_wp fun prog w A R s h => by
    obtain ⟨hp, g, d, tk, os⟩ := s
    obtain ⟨hl, h⟩ := h
    have f1 := AutoSeq1.idx_int
    wp_walk using wpAny_loadPart' hl
    repeat (first
      | (refine wpAny_ite_false (decide_eq_false (by rw [c0]; exact Bool.false_ne_true)) ?_; wp_walk using wpAny_loadPart' hl)
      | (refine wpAny_ite_true (decide_eq_true (by rw [c1])) ?_; wp_walk using wpAny_loadPart' hl))
    exact ⟨_, rfl, h⟩
theorem tuple_mulZ (l : Addr) (items : Array Value) (n : Nat) (dd : Option Addr) (sl : Array (Option Value)) (x : Int) (u : Tok) (c0 : (decide (x < -(2 ^ 63)) || decide (x ≥ 2 ^ 63)) = false) (c1 : (items.isEmpty || x == 1) = false) (c2 : (decide (x ≤ 0) || items.isEmpty) = true) :
    Meets (Builtin.«tuple.__mul__» ⟨[.ref l, .int x u], []⟩) (fun _ R s => s.heap.get? l = some { cls := .type "tuple", dict := dd, data := .seq items n, slots := sl } ∧
      R (.ok (.ret (Value.ref s.heap.objs.size))) { s with heap := s.heap.push { cls := Value.type "tuple", data := Data.seq #[] }, toks := s.toks }) :=
  .of_wp fun prog w A R s h => by
    obtain ⟨hp, g, d, tk, os⟩ := s
    obtain ⟨hl, h⟩ := h
    have f1 := AutoSeq1.idx_int
    wp_walk using wpAny_loadPart' hl
    repeat (first
      | (refine wpAny_ite_false (decide_eq_false (by rw [c0]; exact Bool.false_ne_true)) ?_; wp_walk using wpAny_loadPart' hl)
      | (refine wpAny_ite_false (decide_eq_false (by rw [c1]; exact Bool.false_ne_true)) ?_; wp_walk using wpAny_loadPart' hl)
      | (refine wpAny_ite_true (decide_eq_true (by rw [c2])) ?_; wp_walk using wpAny_loadPart' hl)
      | (refine wpAny_ite_false (decide_eq_false (by rw [sizeLine_eq]; decide)) ?_; wp_walk using wpAny_loadPart' hl))
    exact ⟨_, rfl, h⟩

section
variable {X : Cx} {c : Cf} {pv m : List Addr} {Z : Sto} {H G : Hp} {ρ : Env} {pos : Pos}
/-- t * k, k not negative -/
theorem op_repA {pins : List (Addr × Obj)} {s : Shared} {σ : L2.St} {l : Addr} {k : Int} {xs : List V} {v u : Value} {Q : VK} (I : Inv X pins σ H s) (rx : RelV (.ref l) v) (ry : RelV (.int k) u) (hT : SqT X.K H l xs) (h0 : 0 ≤ k) (h1 : k ≤ 1000) (hz : xs.length ≤ 1000)
    (q0 : xs = [] ∨ k = 1 → Q (.ref l) H) (q1 : ∀ p, H p = none → Q (.ref p) (upd H p (.tup (repN k.toNat xs)))) : wpAny (model X.prog X.w) X.A (binaryOp .Mult v u) (EP X pins σ Q) X.xe s := by
  by_cases hn : xs = [] ∨ k = 1
  · cases rx
    obtain ⟨t, rfl⟩ := ry
    obtain ⟨its, r, ⟨⟨cls, dd, data, sl⟩, ho, hc, n, hd⟩, hs⟩ := I.tuple hT
    simp only at hc hd
    subst hc hd
    have c0 : (decide (k < -(2 ^ 63)) || decide (k ≥ 2 ^ 63)) = false := by
      rw [decide_eq_false (by omega), decide_eq_false (by omega)] <;> rfl
    have c1 : (its.toArray.isEmpty || k == 1) = true := by
      rcases hn with e | e
      · subst e; cases r; rfl
      · subst e; simp
    exact wpAny_binaryOp_repeat_ref (T := "tuple") (U := "int") (by decide) ⟨_, ho, rfl⟩ (fun s' => typeIs_int s' k t) noFill_tuple_mul F.fills_int_mul F.slot_int_rmul repeat_tuple F.slot_int_index.lookup
      (call_meets F.slot_int_rmul (typeIs_int s k t) F.entry_int_rmul (F.args_int_rmul_2 _ _) (int_rmul_tuple k t l its.toArray n dd sl)
        ⟨ho, rfl, ⟨_, ho, rfl⟩, call_meets F.slot_tuple_mul ⟨_, ho, rfl⟩ F.entry_tuple_mul (F.args_tuple_mul_2 _ _) (tuple_mul0 l its.toArray n dd sl k t c0 c1) ⟨ho, ⟨.ref l, H, I, rfl, q0 hn⟩⟩⟩)
  · by_cases hk : k = 0
    · subst hk
      cases rx
      obtain ⟨t, rfl⟩ := ry
      obtain ⟨its, r, ⟨⟨cls, dd, data, sl⟩, ho, hc, n, hd⟩, hs⟩ := I.tuple hT
      simp only at hc hd
      subst hc hd
      have c0 : (decide ((0 : Int) < -(2 ^ 63)) || decide ((0 : Int) ≥ 2 ^ 63)) = false := by decide
      have hi : its.toArray.isEmpty = false := by
        cases its with
        | nil => cases r; exact absurd (.inl rfl) hn
        | cons a b => rfl
      have c1 : (its.toArray.isEmpty || (0 : Int) == 1) = false := by rw [hi]; rfl
      have c2 : (decide ((0 : Int) ≤ 0) || its.toArray.isEmpty) = true := by simp
      refine wpAny_binaryOp_repeat_ref (T := "tuple") (U := "int") (by decide) ⟨_, ho, rfl⟩ (fun s' => typeIs_int s' 0 t) noFill_tuple_mul F.fills_int_mul F.slot_int_rmul repeat_tuple F.slot_int_index.lookup
        (call_meets F.slot_int_rmul (typeIs_int s 0 t) F.entry_int_rmul (F.args_int_rmul_2 _ _) (int_rmul_tuple 0 t l its.toArray n dd sl)
          ⟨ho, rfl, ⟨_, ho, rfl⟩, call_meets F.slot_tuple_mul ⟨_, ho, rfl⟩ F.entry_tuple_mul (F.args_tuple_mul_2 _ _) (tuple_mulZ l its.toArray n dd sl 0 t c0 c1 c2) ⟨ho, ?_⟩⟩)
      refine ⟨.ref s.heap.objs.size, _, I.laid (t' := s.toks) (o := .tup []) (fun b ob q => Heap.get?_push_of_some _ q) (Nat.le_refl _) ?_, rfl, q1 _ (I.hok.fresh (Nat.le_refl _))⟩
      exact ⟨Nat.zero_le _, [], .nil, IsTup.new _ _⟩
    · have q2 : ∀ p, H p = none → Q (.ref p) (upd H p (.tup (List.replicate k.toNat xs).flatten)) := fun p hp => by
        rw [← repN_flat]; exact q1 p hp
      exact op_repT pins s σ H _ _ v u Q I rx ry ⟨l, k, xs, rfl, rfl, hT, fun z => hn (.inl z), by have : k ≠ 1 := fun z => hn (.inr z); omega, h1, hz, q2⟩
theorem RelV.refl_ref {a : Addr} : RelV (.ref a) (.ref a) := rfl
theorem view_int {d : D} {Z : Sto} {i : Int} {v : V} {W : Wd} {K : PySem.W.Frag} (R : Rel W K pv m Z H G) (r : VRep W K G m d v) (e : view Z d = .int i) : d = .int i := by
  rcases view_rep R r (fun xs z => by rw [e] at z; cases z) (fun t ks xs z => by rw [e] at z; cases z) with h | h
  · rw [← h]; exact e
  · rw [h] at e; cases e
theorem view_str {d : D} {Z : Sto} {i : PySem.Str} {v : V} {W : Wd} {K : PySem.W.Frag} (R : Rel W K pv m Z H G) (r : VRep W K G m d v) (e : view Z d = .str i) : d = .str i := by
  rcases view_rep R r (fun xs z => by rw [e] at z; cases z) (fun t ks xs z => by rw [e] at z; cases z) with h | h
  · rw [← h]; exact e
  · rw [h] at e; cases e
theorem tup_self {d : D} {ds : List D} {z : V} {W : Wd} {K : PySem.W.Frag} (R : Rel W K pv m Z H G) (rd : VRep W K G m d z) (ed : view Z d = .tup ds) : d = .tup ds := by
  rcases view_rep R rd (fun xs z => by rw [ed] at z; cases z) (fun t ks xs z => by rw [ed] at z; cases z) with h | h
  · rw [← h]; exact ed
  · rw [h] at ed; cases ed
theorem or_bin (o : BO) : OpR X (binaryOp (opBO o)) (rOpF c X.K (binOp o)) := by
  rintro pins s σ H x y v u Q I rx ry ⟨σ', pv, m, Z, G, a, b, R, ra, rb, h⟩
  have hints : ∀ {i j : Int}, a = .int i → b = .int j → wpAny (model X.prog X.w) X.A (binaryOp (opBO o) v u) (EP X pins σ Q) X.xe s := fun {i j} ha hb => by
    subst ha hb
    simp only [binOp] at h
    cases e : intOp o i j with
    | none => rw [e] at h; exact h.elim
    | some k =>
      rw [e] at h
      simp only [VRep] at ra rb
      subst ra rb
      exact or_int o e I rx ry (Pst.here (h.other (fun _ _ z => nomatch z) (fun _ _ _ _ z => nomatch z)) R (by simp only [VRep]))
  unfold binOp at h
  split at h
  · exact hints rfl rfl
  · split at h
    · rename_i xs ys ea eb
      split at h
      · have ea' := tup_self R ra ea
        have eb' := tup_self R rb eb
        exact or_catT R ra rb ea eb ‹_› (h.other (fun _ _ z => nomatch z) (fun _ _ _ _ z => nomatch z)) I rx ry
      · exact h.elim
    · rename_i xs ys ea eb
      split at h
      · exact or_catL R ra rb ea eb ‹_› (fun p hp vs r => h.lst R hp r) I rx ry
      · exact h.elim
    · rename_i xs ys ea eb
      split at h
      · rename_i hz
        have e1 := view_str R ra ea
        have e2 := view_str R rb eb
        subst e1 e2
        simp only [VRep] at ra rb
        subst ra rb
        have hx : xs = ⟨#[]⟩ := by
          obtain ⟨q⟩ := xs
          congr
          exact Array.eq_empty_of_size_eq_zero hz.1
        have hcat : xs ++ ys = ys := by
          subst hx
          obtain ⟨q⟩ := ys
          show (⟨#[] ++ q⟩ : PySem.Str) = ⟨q⟩
          simp
        refine op_add_str pins s σ H _ _ v u Q I rx ry ⟨xs, ys, rfl, rfl, ?_, ?_⟩
        · have h1 : xs.length = 0 := hz.1
          have h2 : ys.length ≤ cap := hz.2
          exact cap_line (by omega)
        · rw [hcat]
          exact Pst.here (h.other (fun _ _ z => nomatch z) (fun _ _ _ _ z => nomatch z)) R (by simp only [VRep])
      · exact h.elim
    · rename_i xs k ea eb
      split at h
      · rename_i hz
        have e1 := tup_self R ra ea
        have e2 := view_int R rb eb
        subst e1 e2
        obtain ⟨p, vs, e1, q1, r1⟩ := tup_at R ra ea
        have hb : y = .int k := by simpa only [VRep] using rb
        subst hb
        have hl := r1.length
        subst e1
        have h' := h.other (fun _ _ z => nomatch z) (fun _ _ _ _ z => nomatch z)
        refine op_repA I rx ry (SqT.of q1) hz.1 hz.2.1 (by omega) (fun hc => ?_) fun p2 hp => ?_
        · refine Pst.here h' R ?_
          have er : repN k.toNat xs = xs := by
            rcases hc with e | e
            · subst e
              have : xs = [] := List.eq_nil_of_length_eq_zero (by rw [hl]; rfl)
              subst this
              have : ∀ n, repN n ([] : List D) = [] := fun n => by
                induction n with
                | zero => rfl
                | succ n ih => rw [repN, ih]; rfl
              exact this _
            · subst e
              show repN 1 xs = xs
              rw [repN, repN, List.append_nil]
          rw [er]; exact ra
        · refine Pst.new h' R hp no_tbl_tup ?_
          simp only [VRep]
          exact ⟨p2, _, rfl, upd_same, VReps.mono (Ex.new (R.fresh hp).1) (fun _ _ h => h) _ _ (r1.rep _)⟩
      · exact h.elim
    · rename_i xs k ea eb
      split at h
      · rename_i hz
        have e2 := view_int R rb eb
        subst e2
        obtain ⟨p, vs, e1, q1, r1⟩ := lst_at R ra ea
        simp only [VRep] at rb
        subst rb
        have hl := r1.length
        refine op_rep pins s σ H _ _ v u Q I rx ry ⟨p, k, vs, e1, rfl, q1, by omega, by omega, ?_, fun p2 hp => ?_⟩
        · rw [← hl, sizeLine_eq]
          have a1 : xs.length * k.toNat ≤ 1000 * 1000 := Nat.mul_le_mul hz.2.2 (by omega)
          omega
        · rw [← repN_flat]
          exact h.lst R hp (r1.rep _)
      · exact h.elim
    · exact h.elim
theorem s_binF {o : BO} {a b : ME} {x y : Expr} (ha : PE X x (tE c X.K a)) (hb : PE X y (tE c X.K b)) : PE X (.BinOp x (opBO o) y pos) (tF c X.K (.bin o a b)) :=
  pe_weak (pe_op (or_bin (c := c) o) ha hb) fun σ H Q ⟨pv, m, Z, G, ρ, R, E, h⟩ => by
    simp only [ev] at h
    exact twoF (ta := tE c X.K a) (tb := tE c X.K b) R E h
theorem s_neg {a : ME} {x : Expr} (ha : PE X x (tE c X.K a)) : PE X (.UnaryOp .USub x pos) (tE c X.K (.neg a)) :=
  pe_weak (pe_un un_neg ha) fun σ H Q ⟨pv, m, Z, G, ρ, R, E, h⟩ => by
    simp only [ev] at h
    refine ⟨pv, m, Z, G, ρ, R, E, (h.bnd (rx := VRep c.W X.K)).mono fun x H1 ⟨d, m1, Z1, G1, R1, s1, r1, _, h1⟩ => ?_⟩
    cases d with
    | int i =>
      simp only [VRep] at r1
      exact ⟨i, r1, Pst.here h1 R1 (by simp only [VRep])⟩
    | _ => exact h1.elim
end
end Fw
end
section
set_option Elab.async false
set_option linter.all false
set_option maxRecDepth 100000
set_option maxHeartbeats 1000000
/-! Fw.Sound: comparisons, and, or, not, displays -/
namespace Fw
open PySem PySem.Spec PyProof.Rows L2
mutual
def D.py : D → PyData
  | .bl b => .bool b
  | .int i => .int i
  | .str s => .str s
  | .tup xs => .tuple (D.pys xs)
  | .lst xs => .list (D.pys xs)
  | _ => .none
def D.pys : List D → List PyData
  | [] => []
  | x :: xs => D.py x :: D.pys xs
end
mutual
theorem py_plain : ∀ (d : D) (n : Nat), D.plainN d n = true → (D.py d).plain = true ∧ (D.py d).depth ≤ n
  | .non, _, _ => by simp [D.py, PyData.plain, PyData.depth]
  | .bl _, _, _ => by simp [D.py, PyData.plain, PyData.depth]
  | .int _, _, _ => by simp [D.py, PyData.plain, PyData.depth]
  | .str _, _, _ => by simp [D.py, PyData.plain, PyData.depth]
  | .tup xs, 0, h => by simp [D.plainN] at h
  | .tup xs, n + 1, h => by
    simp only [D.plainN] at h
    obtain ⟨a, b⟩ := pys_plain xs n h
    simp only [D.py, PyData.plain, PyData.depth]
    exact ⟨a, by omega⟩
  | .lst xs, 0, h => by simp [D.plainN] at h
  | .lst xs, n + 1, h => by
    simp only [D.plainN] at h
    obtain ⟨a, b⟩ := pys_plain xs n h
    simp only [D.py, PyData.plain, PyData.depth]
    exact ⟨a, by omega⟩
  | .dct _ _ _, _, h => by simp [D.plainN] at h
  | .set _, _, h => by simp [D.plainN] at h
  | .scr _, _, h => by simp [D.plainN] at h
  | .obj _, _, h => by simp [D.plainN] at h
  | .ctup _, _, h => by simp [D.plainN] at h
  | .fn _, _, h => by simp [D.plainN] at h
  | .clo, _, h => by simp [D.plainN] at h
  | .ref _, _, h => by simp [D.plainN] at h
theorem pys_plain : ∀ (ds : List D) (n : Nat), D.plainsN ds n = true → PyData.plainAll (D.pys ds) = true ∧ PyData.depthAll (D.pys ds) ≤ n
  | [], _, _ => by simp [D.pys, PyData.plainAll, PyData.depthAll]
  | x :: xs, n, h => by
    simp only [D.plainsN, Bool.and_eq_true] at h
    obtain ⟨a, b⟩ := py_plain x n h.1
    obtain ⟨c, d⟩ := pys_plain xs n h.2
    simp only [D.pys, PyData.plainAll, PyData.depthAll, a, c, Bool.and_self]
    exact ⟨trivial, by omega⟩
end
mutual
theorem py_eqv : ∀ (a b : D) (n k : Nat), D.plainN a n = true → D.plainN b k = true → PyData.eqv (D.py a) (D.py b) = D.eqv a b
  | .non, b, n, k, ha, hb => by cases b <;> first | (simp [D.plainN] at hb; done) | simp [D.py, PyData.eqv, D.eqv]
  | .bl x, b, n, k, ha, hb => by cases b <;> first | (simp [D.plainN] at hb; done) | simp [D.py, PyData.eqv, D.eqv]
  | .int x, b, n, k, ha, hb => by cases b <;> first | (simp [D.plainN] at hb; done) | simp [D.py, PyData.eqv, D.eqv]
  | .str x, b, n, k, ha, hb => by cases b <;> first | (simp [D.plainN] at hb; done) | simp [D.py, PyData.eqv, D.eqv]
  | .tup xs, b, 0, k, ha, hb => by simp [D.plainN] at ha
  | .tup xs, b, n + 1, k, ha, hb => by
    cases b with
    | tup ys =>
      cases k with
      | zero => simp [D.plainN] at hb
      | succ k =>
        simp only [D.plainN] at ha hb
        simp only [D.py, PyData.eqv, D.eqv]
        exact pys_eqv xs ys n k ha hb
    | _ => first | (simp [D.plainN] at hb; done) | simp [D.py, PyData.eqv, D.eqv]
  | .lst xs, b, 0, k, ha, hb => by simp [D.plainN] at ha
  | .lst xs, b, n + 1, k, ha, hb => by
    cases b with
    | lst ys =>
      cases k with
      | zero => simp [D.plainN] at hb
      | succ k =>
        simp only [D.plainN] at ha hb
        simp only [D.py, PyData.eqv, D.eqv]
        exact pys_eqv xs ys n k ha hb
    | _ => first | (simp [D.plainN] at hb; done) | simp [D.py, PyData.eqv, D.eqv]
  | .dct _ _ _, _, _, _, h, _ => by simp [D.plainN] at h
  | .set _, _, _, _, h, _ => by simp [D.plainN] at h
  | .scr _, _, _, _, h, _ => by simp [D.plainN] at h
  | .obj _, _, _, _, h, _ => by simp [D.plainN] at h
  | .ctup _, _, _, _, h, _ => by simp [D.plainN] at h
  | .fn _, _, _, _, h, _ => by simp [D.plainN] at h
  | .clo, _, _, _, h, _ => by simp [D.plainN] at h
  | .ref _, _, _, _, h, _ => by simp [D.plainN] at h
theorem pys_eqv : ∀ (a b : List D) (n k : Nat), D.plainsN a n = true → D.plainsN b k = true → PyData.eqvAll (D.pys a) (D.pys b) = D.eqvs a b
  | [], [], _, _, _, _ => by simp [D.pys, PyData.eqvAll, D.eqvs]
  | [], _ :: _, _, _, _, _ => by simp [D.pys, PyData.eqvAll, D.eqvs]
  | _ :: _, [], _, _, _, _ => by simp [D.pys, PyData.eqvAll, D.eqvs]
  | x :: xs, y :: ys, n, k, ha, hb => by
    simp only [D.plainsN, Bool.and_eq_true] at ha hb
    simp only [D.pys, PyData.eqvAll, D.eqvs, py_eqv x y n k ha.1 hb.1, pys_eqv xs ys n k ha.2 hb.2]
end
theorem pys_any {x : D} {n k : Nat} (hx : D.plainN x k = true) : ∀ (ds : List D), D.plainsN ds n = true → ((D.pys ds).any fun y => PyData.eqv y (D.py x)) = ds.any fun y => D.eqv y x
  | [], _ => by simp [D.pys]
  | y :: ys, h => by
    simp only [D.plainsN, Bool.and_eq_true] at h
    simp only [D.pys, List.any_cons, py_eqv y x n k h.1 hx, pys_any hx ys h.2]
section
variable {W : Wd} {K : PySem.W.Frag}
mutual
theorem VRep.dp {G H : Hp} {m : List Addr} (e : Ex G H) : ∀ (d : D) (v : V) (n : Nat), D.plainN d n = true → VRep W K G m d v → Dp K H v (D.py d)
  | .non, v, _, _, h => by simp only [VRep] at h; subst h; exact .non
  | .bl b, v, _, _, h => by simp only [VRep] at h; subst h; exact .bl b
  | .int i, v, _, _, h => by simp only [VRep] at h; subst h; exact .int i
  | .str s, v, _, _, h => by simp only [VRep] at h; subst h; exact .str s
  | .tup xs, v, 0, p, h => by simp [D.plainN] at p
  | .tup xs, v, n + 1, p, h => by
    simp only [D.plainN] at p
    simp only [VRep] at h
    obtain ⟨a, vs, rfl, h1, h2⟩ := h
    exact .tup (SqT.of (e _ _ h1)) (VReps.dp e xs vs n p h2)
  | .lst xs, v, 0, p, h => by simp [D.plainN] at p
  | .lst xs, v, n + 1, p, h => by
    simp only [D.plainN] at p
    simp only [VRep] at h
    obtain ⟨a, vs, rfl, h1, h2⟩ := h
    exact .lst (SqL.of (e _ _ h1)) (VReps.dp e xs vs n p h2)
  | .dct _ _ _, _, _, h, _ => by simp [D.plainN] at h
  | .set _, _, _, h, _ => by simp [D.plainN] at h
  | .scr _, _, _, h, _ => by simp [D.plainN] at h
  | .obj _, _, _, h, _ => by simp [D.plainN] at h
  | .ctup _, _, _, h, _ => by simp [D.plainN] at h
  | .fn _, _, _, h, _ => by simp [D.plainN] at h
  | .clo, _, _, h, _ => by simp [D.plainN] at h
  | .ref _, _, _, h, _ => by simp [D.plainN] at h
theorem VReps.dp {G H : Hp} {m : List Addr} (e : Ex G H) : ∀ (ds : List D) (vs : List V) (n : Nat), D.plainsN ds n = true → VReps W K G m ds vs → DpAll K H vs (D.pys ds)
  | [], vs, _, _, h => by simp only [VReps] at h; subst h; exact .nil
  | x :: xs, vs, n, p, h => by
    simp only [D.plainsN, Bool.and_eq_true] at p
    simp only [VReps] at h
    obtain ⟨v, r, rfl, h1, h2⟩ := h
    exact .cons (VRep.dp e x v n p.1 h1) (VReps.dp e xs r n p.2 h2)
end
/-- what is seen of a value, as data -/
theorem view_dp {pv m : List Addr} {Z : Sto} {H G : Hp} (R : Rel W K pv m Z H G) {d : D} {v : V} {n : Nat} (h : VRep W K G m d v) (p : D.plainN (view Z d) n = true) : Dp K H v (D.py (view Z d)) := by
  cases d with
  | ref i =>
    cases e : view Z (.ref i) with
    | lst xs =>
      rw [e] at p
      obtain ⟨a, vs, rfl, h1, h2⟩ := lst_at R h e
      cases n with
      | zero => simp [D.plainN] at p
      | succ n =>
        simp only [D.plainN] at p
        exact .lst (SqL.of h1) (VReps.dp R.up xs vs n p h2)
    | dct _ _ _ => rw [e] at p; simp [D.plainN] at p
    | clo => rw [e] at p; simp [D.plainN] at p
    | ref _ => rw [e] at p; simp [D.plainN] at p
    | _ =>
      rcases view_rep R h (fun xs z => by rw [e] at z; cases z) (fun t ks xs z => by rw [e] at z; cases z) with q | q
      · rw [e] at q; cases q
      · rw [e] at q; cases q
  | _ => exact VRep.dp R.up _ v n p h
end
section
variable {X : Cx} {c : Cf} {pv m : List Addr} {Z : Sto} {H G : Hp} {ρ : Env} {pos : Pos}
theorem okBl {W : Wd} {K : PySem.W.Frag} {n : Nat} {Wx : WX} {σ : L2.St} {b : Bool} {Q : VK} (h : Pst W K n Wx σ pv m Z H G (VRep W K) (.ok (.bl b) Z) Q) (R : Rel W K pv m Z H G) : Q (.bl b) H := Pst.here h R (by simp only [VRep])
def opCO : CO → CmpOp
  | .eq => .Eq | .ne => .NotEq | .lt => .Lt | .le => .LtE | .gt => .Gt | .ge => .GtE | .inn => .In | .nin => .NotIn | .is => .Is | .isn => .IsNot
theorem int_of_rep {W : Wd} {K : PySem.W.Frag} {i : Int} {v : V} (h : VRep W K G m (.int i) v) : v = .int i := by simpa only [VRep] using h
theorem fin_b {pins : List (Addr × Obj)} {σ : L2.St} {s : Shared} {Q : VK} {b : Bool} (I : Inv X pins σ H s) (q : Q (.bl b) H) : EP X pins σ Q (.bool b) s := ⟨.bl b, H, I, rfl, q⟩
theorem lex_same (a b : List Int) : HT.lexLt a b = lexLt a b := by
  induction a generalizing b with
  | nil => cases b <;> rfl
  | cons x xs ih =>
    cases b with
    | nil => rfl
    | cons y ys => rw [HT.lexLt_cons, lexLt, ih]
/-- membership -/
theorem or_in {neg : Bool} {a b : D} {x y : V} {k : Bool} {pins : List (Addr × Obj)} {s : Shared} {σ : L2.St} {v u : Value} {Q : VK} (hu : X.A.units + 64 < cLine) (R : Rel c.W X.K pv m Z H G) (ra : VRep c.W X.K G m a x) (rb : VRep c.W X.K G m b y)
    (I : Inv X pins σ H s) (rx : RelV x v) (ry : RelV y u) {xs : List D} (hs : seqOf Z b = some xs) (hns : ∀ ns, b ≠ .scr ns) (hp : D.plain a = true) (hps : D.plains xs = true) (hk : k = xs.any fun y => D.eqv y a) (q : Q (.bl (if neg then !k else k)) H) :
    wpAny (model X.prog X.w) X.A (compareOp (if neg then .NotIn else .In) v u) (EP X pins σ Q) X.xe s := by
  have da : Dp X.K H x (D.py a) := VRep.dp R.up a x 40 hp ra
  obtain ⟨as, r1⟩ := Dp.reads I _ x v da rx
  have p1 := py_plain a 40 hp
  have p2 := pys_plain xs 39 hps
  have hroom : X.A.units + 1 + min (PyData.depthAll (D.pys xs)) (D.py a).depth < cLine := by omega
  have ek : ((D.pys xs).any fun y => PyData.eqv y (D.py a)) = k := by rw [hk]; exact pys_any hp xs hps
  obtain ⟨p, vs, e1, e2, e3⟩ := seq_at R rb hs
  have dl : DpAll X.K H vs (D.pys xs) := VReps.dp R.up xs vs 39 hps e3
  subst e1
  rcases e2 with e2 | e2
  · obtain ⟨bs, r2⟩ := Dp.reads I _ _ u (.lst e2 dl) ry
    cases neg with
    | true => exact SeqAt.notIn_list_data r2 r1 p2.1 p1.1 hroom (by rw [ek]; exact fin_b I q)
    | false => exact SeqAt.in_list_data r2 r1 p2.1 p1.1 hroom (by rw [ek]; exact fin_b I q)
  · obtain ⟨bs, r2⟩ := Dp.reads I _ _ u (.tup e2 dl) ry
    cases neg with
    | true => exact SeqAt.notIn_tuple_data r2 r1 p2.1 p1.1 hroom (by rw [ek]; exact fin_b I q)
    | false => exact SeqAt.in_tuple_data r2 r1 p2.1 p1.1 hroom (by rw [ek]; exact fin_b I q)
end
end Fw
end
section
set_option Elab.async false
set_option linter.all false
set_option maxRecDepth 100000
set_option maxHeartbeats 1000000
/-! Fw.Sound: dicts asked, comparisons -/
namespace Fw
open PySem PySem.Spec PyProof.Rows L2
/-! ### dicts -/
mutual
theorem D.beq_eq : ∀ (a b : D), D.beq a b = true → a = b
  | .non, b, h => by cases b <;> simp [D.beq] at h; rfl
  | .bl x, b, h => by cases b <;> simp [D.beq] at h; rw [h]
  | .int x, b, h => by cases b <;> simp [D.beq] at h; rw [h]
  | .str x, b, h => by cases b <;> simp [D.beq] at h; rw [h]
  | .tup x, b, h => by cases b <;> simp [D.beq] at h; rw [D.beqs_eq _ _ h]
  | .lst x, b, h => by cases b <;> simp [D.beq] at h; rw [D.beqs_eq _ _ h]
  | .dct t x y, b, h => by cases b <;> simp [D.beq] at h; rw [h.1.1, D.beqs_eq _ _ h.1.2, D.beqs_eq _ _ h.2]
  | .set x, b, h => by cases b <;> simp [D.beq] at h; rw [h]
  | .scr x, b, h => by cases b <;> simp [D.beq] at h; rw [h]
  | .obj x, b, h => by cases b <;> simp [D.beq] at h; rw [D.beqs_eq _ _ h]
  | .ctup x, b, h => by cases b <;> simp [D.beq] at h; rw [D.beqs_eq _ _ h]
  | .fn x, b, h => by cases b <;> simp [D.beq] at h; rw [h]
  | .clo, b, h => by cases b <;> simp [D.beq] at h; rfl
  | .ref x, b, h => by cases b <;> simp [D.beq] at h; rw [h]
theorem D.beqs_eq : ∀ (a b : List D), D.beqs a b = true → a = b
  | [], [], _ => rfl
  | [], _ :: _, h => by simp [D.beqs] at h
  | _ :: _, [], h => by simp [D.beqs] at h
  | x :: xs, y :: ys, h => by
    simp only [D.beqs, Bool.and_eq_true] at h
    rw [D.beq_eq x y h.1, D.beqs_eq xs ys h.2]
end
mutual
theorem D.beq_refl : ∀ (a : D), D.beq a a = true
  | .non => by simp [D.beq]
  | .bl x => by simp [D.beq]
  | .int x => by simp [D.beq]
  | .str x => by simp [D.beq]
  | .tup x => by simp [D.beq, D.beqs_refl x]
  | .lst x => by simp [D.beq, D.beqs_refl x]
  | .dct t x y => by simp [D.beq, D.beqs_refl x, D.beqs_refl y]
  | .set x => by simp [D.beq]
  | .scr x => by simp [D.beq]
  | .obj x => by simp [D.beq, D.beqs_refl x]
  | .ctup x => by simp [D.beq, D.beqs_refl x]
  | .fn x => by simp [D.beq]
  | .clo => by simp [D.beq]
  | .ref x => by simp [D.beq]
theorem D.beqs_refl : ∀ (a : List D), D.beqs a a = true
  | [] => by simp [D.beqs]
  | x :: xs => by simp [D.beqs, D.beq_refl x, D.beqs_refl xs]
end
theorem D.beq_iff {a b : D} : D.beq a b = true ↔ a = b := ⟨D.beq_eq a b, fun h => h ▸ D.beq_refl a⟩
theorem D.beq_dec (a b : D) : D.beq a b = false ↔ a ≠ b := by
  rw [Ne, ← D.beq_iff]; simp
section
variable {W : Wd} {K : PySem.W.Frag} {G H : Hp} {m : List Addr}
/-- what the dict holds at a key: over keys of any kind -/
theorem dget_val {κ : Type} [DecidableEq κ] (f : κ → D) (hf : ∀ x y, f x = f y → x = y) (k : κ) : ∀ (ns : List κ) (ds : List D) (vs : List V), VReps W K G m ds vs → ns.length = vs.length →
    (∀ d, dget (ns.map f) ds (f k) = some d → ∃ v, valV (ns.zip vs) k = some v ∧ VRep W K G m d v) ∧ (dget (ns.map f) ds (f k) = none → valV (ns.zip vs) k = none)
  | [], ds, vs, r, l => by
    cases vs with
    | nil => simp [dget, valV]
    | cons _ _ => simp at l
  | n :: ns, ds, vs, r, l => by
    cases vs with
    | nil => simp at l
    | cons v vs =>
      cases ds with
      | nil => simp [VReps] at r
      | cons d ds =>
        simp only [VReps] at r
        obtain ⟨v', r', e, r1, r2⟩ := r
        simp only [List.cons.injEq] at e
        obtain ⟨rfl, rfl⟩ := e
        have ih := dget_val f hf k ns ds vs r2 (by simpa using l)
        simp only [List.map_cons, dget, List.zip_cons_cons]
        by_cases e : n = k
        · subst e
          rw [if_pos (D.beq_refl _), valV_pos rfl]
          exact ⟨fun d' h => ⟨v, rfl, by cases h; exact r1⟩, fun h => nomatch h⟩
        · rw [if_neg (by rw [D.beq_iff]; exact fun z => e (hf _ _ z)), valV_neg e]
          exact ih
theorem tupInt_inj : ∀ x y : List Int, D.tup (x.map D.int) = D.tup (y.map D.int) → x = y := fun x y h => by
  have := (D.tup.injEq _ _).mp h
  induction x generalizing y with
  | nil => cases y with
    | nil => rfl
    | cons _ _ => simp at this
  | cons a x ih => cases y with
    | nil => simp at this
    | cons b y =>
      simp only [List.map_cons, List.cons.injEq, D.int.injEq] at this
      rw [this.1, ih y (by rw [this.2]) this.2]
theorem valV_map_inj {κ κ' : Type} [DecidableEq κ] [DecidableEq κ'] (g : κ → κ') (hg : ∀ x y, g x = g y → x = y) (k : κ) : ∀ (ns : List κ) (vs : List V), valV ((ns.map g).zip vs) (g k) = valV (ns.zip vs) k
  | [], vs => by simp [valV]
  | n :: ns, [] => by simp [valV]
  | n :: ns, v :: vs => by
    simp only [List.map_cons, List.zip_cons_cons]
    by_cases e : n = k
    · subst e; rw [valV_pos rfl, valV_pos rfl]
    · rw [valV_neg (fun z => e (hg _ _ z)), valV_neg e]; exact valV_map_inj g hg k ns vs
theorem inl_inj : ∀ x y : Int, (Sum.inl x : Key) = Sum.inl y → x = y := fun _ _ h => Sum.inl.inj h
theorem inls_inj : ∀ x y : List Int, x.map (Sum.inl : Int → Key) = y.map Sum.inl → x = y
  | [], [], _ => rfl
  | [], _ :: _, h => by simp at h
  | _ :: _, [], h => by simp at h
  | a :: x, b :: y, h => by
    simp only [List.map_cons, List.cons.injEq] at h
    rw [Sum.inl.inj h.1, inls_inj x y h.2]
theorem kV_inls (l : List Int) : (l.map (Sum.inl : Int → Key)).map kV = l.map V.int := by rw [List.map_map]; rfl
theorem ints_of_isKey {xs : List D} (h : (intsOf xs).isSome = true) : ∃ l, intsOf xs = some l := Option.isSome_iff_exists.mp h
/-- a dict is asked -/
theorem dct_get {pv : List Addr} {Z : Sto} (R : Rel W K pv m Z H G) {a : Addr} {t : Bool} {ks ds : List D} {k : D} {y : V} (o : ORep W K G m H a (.dct t ks ds)) (hk : isKey t k = true) (rk : VRep W K G m k y) :
    ∃ ov, DGet H a y ov ∧ (∀ d, dget ks ds k = some d → ∃ v, ov = some v ∧ VRep W K G m d v) ∧ (dget ks ds k = none → ov = none) := by
  rcases o with ⟨ns, vs, rfl, rfl, h1, h2, h3, _⟩ | ⟨ns, vs, rfl, rfl, h1, h2, h3, _⟩
  · cases k with
    | int i =>
      simp only [VRep] at rk
      subst rk
      have q := dget_val (W := W) (K := K) (G := G) (m := m) D.int (fun _ _ h => D.int.inj h) i ns ds vs h2 h3
      rw [← valV_map_inj (Sum.inl : Int → Key) inl_inj i ns vs] at q
      exact ⟨_, DGet.k (k := Sum.inl i) h1, q.1, q.2⟩
    | _ => simp [isKey] at hk
  · cases k with
    | tup xs =>
      obtain ⟨l, hl⟩ := ints_of_isKey (by simpa [isKey] using hk)
      simp only [VRep] at rk
      obtain ⟨b, us, rfl, e2, e3⟩ := rk
      obtain ⟨e4, e5⟩ := e3.ints hl
      subst e4 e5
      have q := dget_val (W := W) (K := K) (G := G) (m := m) (fun l : List Int => D.tup (l.map D.int)) tupInt_inj l ns ds vs h2 h3
      rw [← valV_map_inj (fun l : List Int => l.map (Sum.inl : Int → Key)) inls_inj l ns vs] at q
      exact ⟨_, DGet.t h1 (by rw [kV_inls]; exact R.up _ _ e2), q.1, q.2⟩
    | _ => simp [isKey] at hk
end

/-! ### is -/
theorem is_bool_gen {M : Model} {A : Around} {E : Value → Shared → Prop} {s : Shared} {x : V} {v : Value} {b : Bool} {Q : Value → Shared → Prop} (r : RelV x v) (h : Q (.bool (v == .bool b)) s) : wpAny M A (compareOp .Is v (.bool b)) Q E s := by
  cases x with
  | non => cases r; exact wpAny_is_plain (by rfl) h
  | bl c => cases r; exact wpAny_is_plain (by rfl) h
  | int _ => obtain ⟨t, rfl⟩ := r; exact wpAny_is_plain (by rfl) h
  | str _ => obtain ⟨t, rfl⟩ := r; exact wpAny_is_plain (by rfl) h
  | byt _ => obtain ⟨t, rfl⟩ := r; exact wpAny_is_plain (by rfl) h
  | flt _ => obtain ⟨t, rfl⟩ := r; exact wpAny_is_plain (by rfl) h
  | ref _ => cases r; exact wpAny_is_plain (by rfl) h
  | ty _ => cases r; exact wpAny_is_plain (by rfl) h
theorem D.rep_non {W : Wd} {K : PySem.W.Frag} {G : Hp} {m : List Addr} {d : D} {x : V} (r : VRep W K G m d x) : decide (x = .non) = d.isNon := by
  cases d <;> simp only [VRep] at r <;> first
    | (subst r; rfl)
    | (obtain ⟨a, rfl, _⟩ := r; rfl)
    | (obtain ⟨a, vs, rfl, _⟩ := r; rfl)
    | (obtain ⟨a, vs, us, rfl, _⟩ := r; rfl)
    | (obtain ⟨rfl, _⟩ := r; rfl)
theorem D.rep_bl {W : Wd} {K : PySem.W.Frag} {G : Hp} {m : List Addr} {d : D} {x : V} {v : Value} {k : Bool} (r : VRep W K G m d x) (rx : RelV x v) : (v == Value.bool k) = d.isBl k := by
  cases d <;> simp only [VRep] at r <;> first
    | (subst r; cases rx; first | rfl | (rename_i b; cases b <;> cases k <;> rfl))
    | (subst r; obtain ⟨t, rfl⟩ := rx; rfl)
    | (obtain ⟨a, rfl, _⟩ := r; cases rx; rfl)
    | (obtain ⟨a, vs, rfl, _⟩ := r; cases rx; rfl)
    | (obtain ⟨a, vs, us, rfl, _⟩ := r; cases rx; rfl)
    | (obtain ⟨rfl, _⟩ := r; cases rx; rfl)
section
variable {X : Cx} {c : Cf} {σ : L2.St} {pv m : List Addr} {Z : Sto} {H G : Hp} {ρ : Env} {pos : Pos}
theorem or_member {neg : Bool} {a b : D} {x y : V} {k : Bool} {pins : List (Addr × Obj)} {s : Shared} {σ : L2.St} {v u : Value} {Q : VK} (hu : X.A.units + 64 < cLine) (R : Rel c.W X.K pv m Z H G) (ra : VRep c.W X.K G m a x) (rb : VRep c.W X.K G m b y)
    (I : Inv X pins σ H s) (rx : RelV x v) (ry : RelV y u) (hk : isIn Z a b = some k) (q : Q (.bl (if neg then !k else k)) H) :
    wpAny (model X.prog X.w) X.A (compareOp (if neg then .NotIn else .In) v u) (EP X pins σ Q) X.xe s := by
  have sq : ∀ xs, seqOf Z b = some xs → (∀ ns, b ≠ .scr ns) → (if D.plain a && D.plains xs then some (xs.any fun y => D.eqv y a) else none) = some k → wpAny (model X.prog X.w) X.A (compareOp (if neg then .NotIn else .In) v u) (EP X pins σ Q) X.xe s := fun xs h1 h2 h3 => by
    split at h3
    · rename_i hp
      rw [Bool.and_eq_true] at hp
      simp only [Option.some.injEq] at h3
      exact or_in hu R ra rb I rx ry h1 h2 hp.1 hp.2 h3.symm q
    · cases h3
  have nscr : ∀ e, view Z b = e → (∀ ns, e ≠ .scr ns) → ∀ ns, b ≠ .scr ns := fun e h1 h2 ns z => by
    subst z
    simp only [view] at h1
    exact h2 ns h1.symm
  unfold isIn at hk
  split at hk
  · rename_i xs e; exact sq xs (by simp only [seqOf, e]) (nscr _ e fun _ z => nomatch z) hk
  · rename_i xs e; exact sq xs (by simp only [seqOf, e]) (nscr _ e fun _ z => nomatch z) hk
  · rename_i xs e; exact sq xs (by simp only [seqOf, e]) (nscr _ e fun _ z => nomatch z) hk
  · rename_i t ks vs e
    split at hk
    · rename_i hkey
      obtain ⟨p, rfl, o⟩ := dct_at R rb e
      obtain ⟨ov, g, g1, g2⟩ := dct_get R o hkey ra
      have hov : ov.isSome = k := by
        simp only [Option.some.injEq] at hk
        rw [← hk]
        cases hd : dget ks vs a with
        | none => rw [g2 hd]; rfl
        | some d => obtain ⟨w, e1, _⟩ := g1 d hd; rw [e1]; rfl
      cases ry
      cases neg with
      | true => exact d_notIn (by omega) I g rx fun s' I' => by rw [hov]; exact fin_b I' q
      | false => exact d_in (by omega) I g rx fun s' I' => by rw [hov]; exact fin_b I' q
    · cases hk
  · cases hk
theorem or_cmp (hu : X.A.units + 64 < cLine) (o : CO) : OpR X (compareOp (opCO o)) (rOp c X.K (cmpOp o)) := by
  rintro pins s σ H x y v u Q I rx ry ⟨σ', pv, m, Z, G, a, b, R, ra, rb, h⟩
  cases o <;> simp only [cmpOp] at h
  · split at h
    · rename_i hp
      rw [Bool.and_eq_true] at hp
      obtain ⟨as, r1⟩ := Dp.reads I _ x v (view_dp R ra hp.1) rx
      obtain ⟨bs, r2⟩ := Dp.reads I _ y u (view_dp R rb hp.2) ry
      have p1 := py_plain _ 40 hp.1
      have p2 := py_plain _ 40 hp.2
      refine SeqAt.eq_plain r1 r2 p1.1 p2.1 (by omega) ?_
      rw [py_eqv _ _ 40 40 hp.1 hp.2]
      exact fin_b I (okBl h R)
    · exact h.elim
  · split at h
    · rename_i hp
      rw [Bool.and_eq_true] at hp
      obtain ⟨as, r1⟩ := Dp.reads I _ x v (view_dp R ra hp.1) rx
      obtain ⟨bs, r2⟩ := Dp.reads I _ y u (view_dp R rb hp.2) ry
      have p1 := py_plain _ 40 hp.1
      have p2 := py_plain _ 40 hp.2
      refine SeqAt.ne_plain r1 r2 p1.1 p2.1 (by omega) ?_
      rw [py_eqv _ _ 40 40 hp.1 hp.2]
      exact fin_b I (okBl h R)
    · exact h.elim
  · split at h
    · exact op_lt pins s σ H x y v u Q I rx ry ⟨_, _, int_of_rep ra, int_of_rep rb, okBl h R⟩
    · split at h
      · rename_i xs ys us vs e1 e2
        simp only [VRep] at ra rb
        obtain ⟨p, ws, q1, q2, q3⟩ := ra
        obtain ⟨p', ws', q1', q2', q3'⟩ := rb
        obtain ⟨rfl, _⟩ := q3.ints e1
        obtain ⟨rfl, _⟩ := q3'.ints e2
        refine op_ltT (by omega) pins s σ H x y v u Q I rx ry ⟨p, p', _, _, q1, q1', SqT.of (R.up _ _ q2), SqT.of (R.up _ _ q2'), ?_⟩
        rw [lex_same]
        exact okBl h R
      · exact h.elim
    · exact h.elim
  · split at h
    · exact op_le pins s σ H x y v u Q I rx ry ⟨_, _, int_of_rep ra, int_of_rep rb, okBl h R⟩
    · exact h.elim
  · split at h
    · exact op_gt pins s σ H x y v u Q I rx ry ⟨_, _, int_of_rep ra, int_of_rep rb, okBl h R⟩
    · exact h.elim
  · split at h
    · exact op_ge pins s σ H x y v u Q I rx ry ⟨_, _, int_of_rep ra, int_of_rep rb, okBl h R⟩
    · exact h.elim
  · split at h
    · exact or_member (neg := false) hu R ra rb I rx ry ‹_› (okBl h R)
    · exact h.elim
  · split at h
    · exact or_member (neg := true) hu R ra rb I rx ry ‹_› (okBl h R)
    · exact h.elim
  · split at h
    · simp only [VRep] at rb
      subst rb
      exact op_isN pins s σ H x _ v u Q I rx ry ⟨rfl, by rw [D.rep_non ra]; exact okBl h R⟩
    · simp only [VRep] at rb
      subst rb
      cases ry
      refine is_bool_gen rx ?_
      rw [D.rep_bl ra rx]
      exact fin_b I (okBl h R)
    · exact h.elim
  · split at h
    · simp only [VRep] at rb
      subst rb
      refine op_notN pins s σ H x _ v u Q I rx ry ⟨rfl, ?_⟩
      rw [D.rep_non ra]
      exact okBl h R
    · exact h.elim
theorem cmpOp_bl {o : CO} {a b : D} {Z Z' : Sto} {d : D} (h : cmpOp o a b Z = .ok d Z') : ∃ k, d = .bl k := by
  cases o <;> simp only [cmpOp] at h <;> repeat' (first | (cases h; exact ⟨_, rfl⟩) | (cases h; done) | split at h)
/-! ### the rules -/
theorem s_cmp {o : CO} {a b : ME} {x y : Expr} (hu : X.A.units + 64 < cLine) (ha : PE X x (tE c X.K a)) (hb : PE X y (tE c X.K b)) (hm : behindInMarks (opCO o) y = false) : PE X (.Compare x [opCO o] [y] pos) (tE c X.K (.cmp o a b)) :=
  pe_weak (pe_cmpR (or_cmp (c := c) hu o) ha hb hm) fun σ H Q ⟨pv, m, Z, G, ρ, R, E, h⟩ => by
    simp only [ev] at h
    exact two (ta := tE c X.K a) (tb := tE c X.K b) R E h
end
end Fw
end
section
set_option Elab.async false
set_option linter.all false
set_option maxRecDepth 100000
set_option maxHeartbeats 1000000
/-! Fw.Sound: logic, tests, displays, subscripts, fields -/
namespace Fw
open PySem PySem.Spec PyProof.Rows L2
/-! ### what an expression's form must be -/
def noSlice : Expr → Bool
  | .Slice _ _ _ _ => false
  | _ => true
def plainTest : Expr → Bool
  | .UnaryOp .Not _ _ => false
  | .BoolOp _ _ _ => false
  | .IfExp _ _ _ _ => false
  | .Compare _ _ _ _ => false
  | _ => true
def noStar : Expr → Bool
  | .Starred _ _ => false
  | _ => true
def noSetD : Expr → Bool
  | .Set _ _ _ => false
  | _ => true
def noCall : Expr → Bool
  | .Call (.Name _ _) [] [] _ => false
  | _ => true
theorem plainIx_of {e : Expr} (h : noSlice e = true) : PlainIx e := fun o i => by
  cases e <;> first | rfl | (simp [noSlice] at h)
theorem plainTest_of {e : Expr} {env : PySem.Env} (h : plainTest e = true) (whole : Sem Value) : isTrue e env whole = (do let v ← whole; standAt e.pos; holding [v] (truthy v)) := by
  cases e <;> first
    | rfl
    | (simp [plainTest] at h; done)
    | (rename_i op a p; cases op <;> first | rfl | (simp [plainTest] at h))
theorem noStar_of {e : Expr} {es : List Expr} {env : PySem.Env} (h : noStar e = true) : starEach (e :: es) env = (false, eval e env) :: starEach es env := by
  cases e <;> first | rfl | (simp [noStar] at h)
theorem noSet_of {e : Expr} {op : CmpOp} (h : noSetD e = true) : behindInMarks op e = false := by
  cases e <;> first | rfl | (simp [noSetD] at h)
theorem attrBase_of {e : Expr} {f : PySem.Str} {env : PySem.Env} {whole : Sem Value} (h : noCall e = true) : attributeBase e f env whole = whole := by
  cases e with
  | Call g as ks pos =>
    cases as with
    | cons _ _ => cases g <;> rfl
    | nil =>
      cases ks with
      | cons _ _ => cases g <;> rfl
      | nil => cases g <;> first | rfl | (simp [noCall] at h)
  | _ => rfl
section
variable {X : Cx} {c : Cf} {σ : L2.St} {pv m : List Addr} {Z : Sto} {H G : Hp} {ρ : Env} {pos p2 : Pos}
theorem bnd_ok {α β : Type} {x : M α} {f : α → M β} {Z Z' : Sto} {b : β} (h : bnd x f Z = .ok b Z') : ∃ a Z1, x Z = .ok a Z1 ∧ f a Z1 = .ok b Z' := by
  unfold bnd at h
  cases e : x Z with
  | ok a Z1 => rw [e] at h; exact ⟨a, Z1, rfl, h⟩
  | exc _ _ => rw [e] at h; cases h
  | stuck => rw [e] at h; cases h
/-! ### and, or, not as values -/
theorem s_one {op : BoolOp} {a : ME} {x : Expr} (ha : PE X x (tE c X.K a)) : PE X (.BoolOp op [x] pos) (tE c X.K a) := pe_one ha
theorem s_and {a b : ME} {x y : Expr} {rest : List Expr} (ha : PE X x (tE c X.K a)) (hb : PE X (.BoolOp .And (y :: rest) pos) (tE c X.K b)) : PE X (.BoolOp .And (x :: y :: rest) pos) (tE c X.K (.and a b)) :=
  pe_weak (pe_and ha hb) fun σ H Q ⟨pv, m, Z, G, ρ, R, E, h⟩ => by
    simp only [ev] at h
    refine ⟨pv, m, Z, G, ρ, R, E, (h.bnd (rx := VRep c.W X.K)).mono fun x H1 ⟨d, m1, Z1, G1, R1, s1, r1, _, h1⟩ => ?_⟩
    cases d with
    | bl k =>
      simp only [VRep] at r1
      refine ⟨k, r1, ?_⟩
      cases k with
      | true => exact ⟨pv, m1, Z1, G1, ρ, R1, E.step s1, h1⟩
      | false => exact okBl h1 R1
    | _ => exact h1.elim
theorem s_or {a b : ME} {x y : Expr} {rest : List Expr} (ha : PE X x (tE c X.K a)) (hb : PE X (.BoolOp .Or (y :: rest) pos) (tE c X.K b)) : PE X (.BoolOp .Or (x :: y :: rest) pos) (tE c X.K (.or a b)) :=
  pe_weak (pe_or ha hb) fun σ H Q ⟨pv, m, Z, G, ρ, R, E, h⟩ => by
    simp only [ev] at h
    refine ⟨pv, m, Z, G, ρ, R, E, (h.bnd (rx := VRep c.W X.K)).mono fun x H1 ⟨d, m1, Z1, G1, R1, s1, r1, _, h1⟩ => ?_⟩
    cases d with
    | bl k =>
      simp only [VRep] at r1
      refine ⟨k, r1, ?_⟩
      cases k with
      | false => exact ⟨pv, m1, Z1, G1, ρ, R1, E.step s1, h1⟩
      | true => exact okBl h1 R1
    | _ => exact h1.elim
theorem s_not {a : ME} {x : Expr} (ha : PE X x (tE c X.K a)) : PE X (.UnaryOp .Not x pos) (tE c X.K (.not a)) :=
  pe_weak (pe_not ha) fun σ H Q ⟨pv, m, Z, G, ρ, R, E, h⟩ => by
    simp only [ev] at h
    refine ⟨pv, m, Z, G, ρ, R, E, (h.bnd (rx := VRep c.W X.K)).mono fun x H1 ⟨d, m1, Z1, G1, R1, s1, r1, _, h1⟩ => ?_⟩
    cases d with
    | bl k =>
      simp only [VRep] at r1
      exact ⟨k, r1, okBl h1 R1⟩
    | _ => exact h1.elim
theorem s_chain {o p : CO} {a b d : ME} {x y z : Expr} (hu : X.A.units + 64 < cLine) (ha : PE X x (tE c X.K a)) (hb : PE X y (tE c X.K b)) (hd : PE X z (tE c X.K d)) (hm : noSetD z = true) :
    PE X (.Compare x [opCO o, opCO p] [y, z] pos) (tE c X.K (.chain o p a b d)) :=
  pe_weak (pe_chain (or_cmp (c := c) hu o) (or_cmp (c := c) hu p) ha hb hd (by simp only [lastMarks]; exact noSet_of hm)) fun σ H Q ⟨pv, m, Z, G, ρ, R, E, h⟩ => by
    simp only [ev] at h
    refine ⟨pv, m, Z, G, ρ, R, E, (h.bnd (rx := VRep c.W X.K)).mono fun x H1 ⟨d1, m1, Z1, G1, R1, s1, r1, _, h1⟩ => ?_⟩
    refine ⟨pv, m1, Z1, G1, ρ, R1, E.step s1, (h1.bnd (rx := VRep c.W X.K)).mono fun y H2 ⟨d2, m2, Z2, G2, R2, s2, r2, _, h2⟩ => ?_⟩
    refine ⟨σ, pv, m2, Z2, G2, d1, d2, R2, s2.rep r1, r2, (h2.bnd (rx := VRep c.W X.K)).mono fun z H3 ⟨d3, m3, Z3, G3, R3, s3, r3, e3, h3⟩ => ?_⟩
    obtain ⟨k, rfl⟩ := cmpOp_bl e3
    simp only [VRep] at r3
    refine ⟨k, r3, ?_⟩
    cases k with
    | false => exact okBl h3 R3
    | true =>
      refine ⟨pv, m3, Z3, G3, ρ, R3, (E.step (s1.trans (s2.trans s3))), (Pst.bnd (rx := VRep c.W X.K) h3).mono fun w H4 ⟨d4, m4, Z4, G4, R4, s4, r4, _, h4⟩ => ?_⟩
      exact ⟨σ, pv, m4, Z4, G4, d2, d4, R4, s4.rep (s3.rep r2), r4, h4⟩
/-! ### tests -/
theorem okT {W : Wd} {K : PySem.W.Frag} {n : Nat} {Wx : WX} {σ : L2.St} {b : Bool} {Q : Bool → Hp → Prop} (h : Pst W K n Wx σ pv m Z H G repEq (.ok b Z) Q) (R : Rel W K pv m Z H G) : Q b H := Pst.here h R rfl
/-- an expression whose value is a bool -/
theorem tT_bl {e : ME} (he : ∀ n ρ, evT c.F c.F2 c.cl e n ρ = bnd (ev c.F c.F2 c.cl e n ρ) fun d => opt (truth d)) (hb : ∀ n ρ Z d Z', ev c.F c.F2 c.cl e n ρ Z = .ok d Z' → ∃ k, d = .bl k) {K : PySem.W.Frag} {Q : Bool → Hp → Prop} (h : tT c K e σ H Q) :
    tE c K e σ H fun x H' => ∃ k, x = .bl k ∧ Q k H' := by
  obtain ⟨pv, m, Z, G, ρ, R, E, h⟩ := h
  rw [he] at h
  refine ⟨pv, m, Z, G, ρ, R, E, (h.bnd (rx := VRep c.W K)).mono fun x H1 ⟨d, m1, Z1, G1, R1, s1, r1, e1, h1⟩ => ?_⟩
  obtain ⟨k, rfl⟩ := hb _ _ _ _ _ e1
  simp only [VRep] at r1
  exact ⟨k, r1, okT h1 R1⟩
theorem t_cmp {o : CO} {a b : ME} {x y : Expr} (hu : X.A.units + 64 < cLine) (ha : PE X x (tE c X.K a)) (hb : PE X y (tE c X.K b)) (hm : noSetD y = true) : PT X (.Compare x [opCO o] [y] pos) (tT c X.K (.cmp o a b)) :=
  pt_weak (pt_cmpR (or_cmp (c := c) hu o) ha hb (noSet_of hm)) fun σ H Q h => by
    have h' := tT_bl (fun n ρ => by simp only [evT]) (fun n ρ Z d Z' q => by
      simp only [ev] at q
      obtain ⟨x, Z1, _, q⟩ := bnd_ok q
      obtain ⟨y, Z2, _, q⟩ := bnd_ok q
      exact cmpOp_bl q) h
    obtain ⟨pv, m, Z, G, ρ, R, E, h⟩ := h'
    simp only [ev] at h
    exact two (ta := tE c X.K a) (tb := tE c X.K b) R E h
theorem t_truth {e : ME} {x : Expr} (ha : PE X x (tE c X.K e)) (hp : plainTest x = true) (he : ∀ n ρ, evT c.F c.F2 c.cl e n ρ = bnd (ev c.F c.F2 c.cl e n ρ) fun d => opt (truth d)) : PT X x (tT c X.K e) :=
  pt_weak (pt_truth ha (plainTest_of hp)) fun σ H Q ⟨pv, m, Z, G, ρ, R, E, h⟩ => by
    rw [he] at h
    refine ⟨pv, m, Z, G, ρ, R, E, (h.bnd (rx := VRep c.W X.K)).mono fun x H1 ⟨d, m1, Z1, G1, R1, s1, r1, e1, h1⟩ => ?_⟩
    cases d with
    | non => simp only [VRep] at r1; subst r1; exact ⟨false, rfl, okT h1 R1⟩
    | bl k => simp only [VRep] at r1; subst r1; exact ⟨k, rfl, okT h1 R1⟩
    | int i => simp only [VRep] at r1; subst r1; exact ⟨(i != 0), rfl, okT h1 R1⟩
    | _ => exact h1.elim
theorem t_not {a : ME} {x : Expr} (ha : PT X x (tT c X.K a)) : PT X (.UnaryOp .Not x pos) (tT c X.K (.not a)) :=
  pt_weak (pt_not ha) fun σ H Q ⟨pv, m, Z, G, ρ, R, E, h⟩ => by
    simp only [evT] at h
    refine ⟨pv, m, Z, G, ρ, R, E, (h.bnd (rx := repEq)).mono fun k H1 ⟨d, m1, Z1, G1, R1, s1, r1, e1, h1⟩ => ?_⟩
    cases r1
    exact okT h1 R1
theorem w_and1 {a : ME} {x : Expr} (ha : PT X x (tT c X.K a)) : PW X (.BoolOp .And [x] pos) (tT c X.K a) := pw_and1 ha
theorem w_or1 {a : ME} {x : Expr} (ha : PT X x (tT c X.K a)) : PW X (.BoolOp .Or [x] pos) (tT c X.K a) := pw_or1 ha
theorem w_and {a b : ME} {x y : Expr} {rest : List Expr} (ha : PT X x (tT c X.K a)) (hb : PW X (.BoolOp .And (y :: rest) pos) (tT c X.K b)) : PW X (.BoolOp .And (x :: y :: rest) pos) (tT c X.K (.and a b)) :=
  pw_weak (pw_and ha hb) fun σ H Q ⟨pv, m, Z, G, ρ, R, E, h⟩ => by
    simp only [evT] at h
    refine ⟨pv, m, Z, G, ρ, R, E, (h.bnd (rx := repEq)).mono fun k H1 ⟨d, m1, Z1, G1, R1, s1, r1, e1, h1⟩ => ?_⟩
    cases r1
    cases k with
    | true => exact ⟨pv, m1, Z1, G1, ρ, R1, E.step s1, h1⟩
    | false => exact okT h1 R1
theorem w_or {a b : ME} {x y : Expr} {rest : List Expr} (ha : PT X x (tT c X.K a)) (hb : PW X (.BoolOp .Or (y :: rest) pos) (tT c X.K b)) : PW X (.BoolOp .Or (x :: y :: rest) pos) (tT c X.K (.or a b)) :=
  pw_weak (pw_or ha hb) fun σ H Q ⟨pv, m, Z, G, ρ, R, E, h⟩ => by
    simp only [evT] at h
    refine ⟨pv, m, Z, G, ρ, R, E, (h.bnd (rx := repEq)).mono fun k H1 ⟨d, m1, Z1, G1, R1, s1, r1, e1, h1⟩ => ?_⟩
    cases r1
    cases k with
    | false => exact ⟨pv, m1, Z1, G1, ρ, R1, E.step s1, h1⟩
    | true => exact okT h1 R1
theorem t_bool {op : BoolOp} {xs : List Expr} {a : ME} (h : PW X (.BoolOp op xs pos) (tT c X.K a)) : PT X (.BoolOp op xs pos) (tT c X.K a) := ⟨fun pins s σ H Q I q => h.run _ pins s σ H Q I q⟩
theorem s_ite {k a b : ME} {x y z : Expr} (hk : PT X x (tT c X.K k)) (ha : PE X y (tE c X.K a)) (hb : PE X z (tE c X.K b)) : PE X (.IfExp x y z pos) (tE c X.K (.ite k a b)) :=
  pe_weak (pe_ifExp hk ha hb) fun σ H Q ⟨pv, m, Z, G, ρ, R, E, h⟩ => by
    simp only [ev] at h
    refine ⟨pv, m, Z, G, ρ, R, E, (h.bnd (rx := repEq)).mono fun k H1 ⟨d, m1, Z1, G1, R1, s1, r1, e1, h1⟩ => ?_⟩
    cases r1
    cases k with
    | true => exact ⟨pv, m1, Z1, G1, ρ, R1, E.step s1, h1⟩
    | false => exact ⟨pv, m1, Z1, G1, ρ, R1, E.step s1, h1⟩
/-! ### several -/
theorem a_nil : PA X [] (tA c X.K []) := pa_weak pa_nil fun σ H Q ⟨pv, m, Z, G, ρ, R, E, h⟩ => by
  simp only [evs, ret] at h
  exact Pst.here h R VReps.nil
theorem a_cons {e : ME} {es : List ME} {x : Expr} {xs : List Expr} (hs : noStar x = true) (ha : PE X x (tE c X.K e)) (hr : PA X xs (tA c X.K es)) : PA X (x :: xs) (tA c X.K (e :: es)) :=
  pa_weak (pa_cons ha hr (noStar_of hs)) fun σ H Q ⟨pv, m, Z, G, ρ, R, E, h⟩ => by
    simp only [evs] at h
    refine ⟨pv, m, Z, G, ρ, R, E, (h.bnd (rx := VRep c.W X.K)).mono fun x H1 ⟨d, m1, Z1, G1, R1, s1, r1, _, h1⟩ => ?_⟩
    refine ⟨pv, m1, Z1, G1, ρ, R1, E.step s1, (h1.bnd (rx := VReps c.W X.K)).mono fun xs H2 ⟨ds, m2, Z2, G2, R2, s2, r2, _, h2⟩ => ?_⟩
    exact Pst.here h2 R2 (VReps.cons (s2.rep r1) r2)
theorem evs_length {F F2 : FT} {cl : Option (List D → M D)} {n : Nat} {ρ : Env} : ∀ {es : List ME} {Z Z' : Sto} {ds : List D}, evs F F2 cl es n ρ Z = .ok ds Z' → ds.length = es.length
  | [], Z, Z', ds, h => by simp only [evs, ret] at h; cases h; rfl
  | e :: es, Z, Z', ds, h => by
    simp only [evs] at h
    obtain ⟨x, Z1, _, h⟩ := bnd_ok h
    obtain ⟨xs, Z2, h2, h⟩ := bnd_ok h
    cases h
    simp [evs_length h2]
theorem s_tup {es : List ME} {xs : List Expr} {x1 : Nat} (hl : es.length ≤ 10000) (h : PA X xs (tA c X.K es)) : PE X (.Tuple xs x1 pos) (tE c X.K (.tup es)) :=
  pe_weak (pe_tup h) fun σ H Q ⟨pv, m, Z, G, ρ, R, E, h⟩ => by
    simp only [ev] at h
    refine ⟨pv, m, Z, G, ρ, R, E, (h.bnd (rx := VReps c.W X.K)).mono fun xs H1 ⟨ds, m1, Z1, G1, R1, s1, r1, e1, h1⟩ => ?_⟩
    have l1 := r1.length
    have l2 := evs_length e1
    refine ⟨by rw [sizeLine_eq]; omega, fun p hp => Pst.new h1 R1 hp no_tbl_tup ?_⟩
    simp only [VRep]
    exact ⟨p, _, rfl, upd_same, VReps.mono (Ex.new (R1.fresh hp).1) (fun _ _ h => h) _ _ r1⟩
theorem s_lstF {es : List ME} {xs : List Expr} (hl : es.length ≤ 10000) (h : PA X xs (tA c X.K es)) : PE X (.List xs pos) (tF c X.K (.lst es)) :=
  pe_weak (pe_lst h) fun σ H Q ⟨pv, m, Z, G, ρ, R, E, h⟩ => by
    simp only [ev] at h
    refine ⟨pv, m, Z, G, ρ, R, E, (h.bnd (rx := VReps c.W X.K)).mono fun xs H1 ⟨ds, m1, Z1, G1, R1, s1, r1, e1, h1⟩ => ?_⟩
    have l1 := r1.length
    have l2 := evs_length e1
    exact ⟨by rw [sizeLine_eq]; omega, fun p hp => h1.lst R1 hp r1⟩
/-! ### subscripts, slices, fields -/
theorem place_ix {n : Nat} {i : Int} {k : Nat} (h : place n i = some k) : ixN n i = some k := by
  unfold place at h
  unfold ixN
  split at h
  · split at h
    · rw [if_pos ‹_›, if_pos (by omega)]; exact h
    · cases h
  · split at h
    · cases h
      rw [if_neg ‹_›, if_pos (by omega)]
    · cases h
theorem place_at {xs : List D} {vs : List V} {i : Int} {d : D} {W : Wd} {K : PySem.W.Frag} (r : VReps W K G m xs vs) (h : (place xs.length i).bind (xs[·]?) = some d) : ∃ v, atI vs i = some v ∧ VRep W K G m d v := by
  rw [Option.bind_eq_some_iff] at h
  obtain ⟨k, h1, h2⟩ := h
  obtain ⟨v, h3, h4⟩ := r.get h2
  rw [r.length] at h1
  exact ⟨v, by unfold atI; rw [place_ix h1]; exact h3, h4⟩
theorem ix_sub (hu : X.A.units + 64 < cLine) : IxR X (rOp c X.K subOp) := by
  rintro value slice pins s σ H x y v u Q I rx ry ⟨σ', pv, m, Z, G, a, b, R, ra, rb, h⟩ hs
  have sq : ∀ (xs : List D) (i : Int), seqOf Z a = some xs → b = .int i → Pst c.W X.K c.n c.Wx σ' pv m Z H G (VRep c.W X.K) (match (place xs.length i).bind (xs[·]?) with | some d => .ok d Z | none => .stuck) Q →
      wpAny (model X.prog X.w) X.A (subscriptTail value slice v u) (EP X pins σ Q) X.xe s := fun xs i h1 h2 h3 => by
    cases e : (place xs.length i).bind (xs[·]?) with
    | none => rw [e] at h3; exact h3.elim
    | some d =>
      rw [e] at h3
      obtain ⟨p, vs, e1, e2, e3⟩ := seq_at R ra h1
      obtain ⟨w, q1, q2⟩ := place_at e3 e
      subst h2
      rcases e2 with e2 | e2
      · exact ix_list value slice pins s σ H x y v u Q I rx ry ⟨p, vs, i, w, e1, int_of_rep rb, e2, q1, Pst.here h3 R q2⟩ hs
      · exact ix_tup value slice pins s σ H x y v u Q I rx ry ⟨p, vs, i, w, e1, int_of_rep rb, e2, q1, Pst.here h3 R q2⟩ hs
  unfold subOp at h
  split at h
  · rename_i xs i e
    exact sq xs i (by simp only [seqOf, e]) rfl h
  · rename_i xs i e
    exact sq xs i (by simp only [seqOf, e]) rfl h
  · rename_i xs i e
    exact sq xs i (by simp only [seqOf, e]) rfl h
  · rename_i ns i e
    refine sq (ns.map .int) i (by simp only [seqOf, e]) rfl ?_
    rw [List.length_map]
    cases e2 : place ns.length i with
    | none => rw [e2] at h; exact h.elim
    | some k =>
      rw [e2] at h
      simp only [Option.bind_some, List.getElem?_map] at h ⊢
      cases e3 : ns[k]? with
      | none => rw [e3] at h; exact h.elim
      | some j => rw [e3] at h; exact h
  · rename_i b _ _ t ks vs e
    split at h
    · rename_i hkey
      obtain ⟨p, rfl, o⟩ := dct_at R ra e
      obtain ⟨ov, g, g1, g2⟩ := dct_get R o hkey rb
      cases hd : dget ks vs b with
      | none => rw [hd] at h; exact h.elim
      | some d =>
        rw [hd] at h
        obtain ⟨w, rfl, rw'⟩ := g1 d hd
        cases rx
        exact tail_any (ops := [.ref p, u]) (dict_typeIs I g) PySem.F.slot_dict_getitem.lookup (d_getItem (by omega) I g ry fun w' s' I' r' => ⟨w, H, I', r', Pst.here h R rw'⟩) hs
    · exact h.elim
  · exact h.elim
theorem s_sub {a i : ME} {x y : Expr} (hu : X.A.units + 64 < cLine) (ha : PE X x (tE c X.K a)) (hi : PE X y (tE c X.K i)) (hs : noSlice y = true) : PE X (.Subscript x y pos) (tE c X.K (.sub a i)) :=
  pe_weak (pe_ix (ix_sub (c := c) hu) ha hi (plainIx_of hs)) fun σ H Q ⟨pv, m, Z, G, ρ, R, E, h⟩ => by
    simp only [ev] at h
    exact two (ta := tE c X.K a) (tb := tE c X.K i) R E h
/-- a part of a slice -/
def tO (c : Cf) (K : PySem.W.Frag) (e : Option ME) : TO := fun σ H Q => ∃ pv m Z G ρ, Rel c.W K pv m Z H G ∧ ERel c K G m ρ σ ∧ Pst c.W K c.n c.Wx σ pv m Z H G repEq (evO c.F c.F2 c.cl e c.n ρ Z) Q
theorem po_weak {X : Cx} {e : Option Expr} {t t' : TO} (h : PO X e t) (w : ∀ σ H Q, t' σ H Q → t σ H Q) : PO X e t' := ⟨fun pins s σ H Q I q => h.run pins s σ H Q I (w σ H Q q)⟩
theorem o_none : PO X none (tO c X.K none) := po_weak po_none fun σ H Q ⟨pv, m, Z, G, ρ, R, E, h⟩ => by
  simp only [evO, ret] at h
  exact Pst.here h R rfl
theorem o_some {e : ME} {x : Expr} (ha : PE X x (tE c X.K e)) : PO X (some x) (tO c X.K (some e)) := po_weak (po_some ha) fun σ H Q ⟨pv, m, Z, G, ρ, R, E, h⟩ => by
  simp only [evO] at h
  refine ⟨pv, m, Z, G, ρ, R, E, (h.bnd (rx := VRep c.W X.K)).mono fun x H1 ⟨d, m1, Z1, G1, R1, s1, r1, e1, h1⟩ => ?_⟩
  cases d with
  | int i =>
    simp only [VRep] at r1
    exact ⟨i, r1, Pst.here h1 R1 rfl⟩
  | _ => exact h1.elim
theorem cut_six (n d : Nat) (l : Option Int) : HT.sIx n d l = cutAt n d l := by
  cases l with
  | none => rfl
  | some i =>
    unfold HT.sIx cutAt
    simp only
    split
    · omega
    · rfl
theorem VReps.cut {W : Wd} {K : PySem.W.Frag} {xs : List D} {vs : List V} (r : VReps W K G m xs vs) (lo hi : Option Int) : VReps W K G m (Fw.cut xs lo hi) (cutV vs lo hi) := by
  unfold Fw.cut cutV
  rw [cut_six, cut_six, r.length]
  exact (r.drop _).take _
/-- a slice by values -/
def rSl (c : Cf) (K : PySem.W.Frag) : V → Option Int → Option Int → Hp → VK → Prop := fun x lo hi H Q => ∃ σ pv m Z G a, Rel c.W K pv m Z H G ∧ VRep c.W K G m a x ∧ PstF c.W K c.n c.Wx σ pv m Z H G (slcOp a lo hi Z) Q
theorem sl_any : SlR X (rSl c X.K) := by
  rintro pins s σ H x v vl vu lo hi sl Q I rx hs pl pu ⟨σ', pv, m, Z, G, a, R, ra, h⟩
  unfold slcOp at h
  split at h
  · rename_i xs e
    obtain ⟨p, vs, e1, e2, e3⟩ := tup_at R ra e
    have h' := h.other (fun _ _ z => nomatch z) (fun _ _ _ _ z => nomatch z)
    refine sl_tupA pins s σ H x v vl vu lo hi sl Q I rx hs pl pu ⟨p, vs, e1, SqT.of e2, fun hw => ?_, fun hw p2 hp => ?_⟩
    · rw [← e1]
      refine Pst.here h' R ?_
      have hx := tup_self R ra e
      subst hx
      rw [cut_six, cut_six, ← e3.length] at hw
      have : Fw.cut xs lo hi = xs := by
        unfold Fw.cut
        rw [hw.1, hw.2]
        simp
      rw [this]
      exact ra
    · refine Pst.new h' R hp no_tbl_tup ?_
      simp only [VRep]
      exact ⟨p2, _, rfl, upd_same, VReps.mono (Ex.new (R.fresh hp).1) (fun _ _ h => h) _ _ (e3.cut lo hi)⟩
  · rename_i xs e
    obtain ⟨p, vs, e1, e2, e3⟩ := lst_at R ra e
    exact sl_list pins s σ H x v vl vu lo hi sl Q I rx hs pl pu ⟨p, vs, e1, SqL.of e2, fun p2 hp => h.lst R hp (e3.cut lo hi)⟩
  · exact h.elim
theorem s_slcF {a : ME} {lo hi : Option ME} {x : Expr} {l u : Option Expr} (ha : PE X x (tE c X.K a)) (hl : PO X l (tO c X.K lo)) (hu : PO X u (tO c X.K hi)) : PE X (.Subscript x (.Slice l u none p2) pos) (tF c X.K (.slc a lo hi)) :=
  pe_weak (pe_slice (sl_any (c := c)) ha hl hu) fun σ H Q ⟨pv, m, Z, G, ρ, R, E, h⟩ => by
    simp only [ev] at h
    refine ⟨pv, m, Z, G, ρ, R, E, (h.bnd (rx := VRep c.W X.K)).mono fun x H1 ⟨d, m1, Z1, G1, R1, s1, r1, _, h1⟩ => ?_⟩
    refine ⟨pv, m1, Z1, G1, ρ, R1, E.step s1, (h1.bnd (rx := repEq)).mono fun l1 H2 ⟨d2, m2, Z2, G2, R2, s2, r2, _, h2⟩ => ?_⟩
    refine ⟨pv, m2, Z2, G2, ρ, R2, E.step (s1.trans s2), (h2.bnd (rx := repEq)).mono fun l2 H3 ⟨d3, m3, Z3, G3, R3, s3, r3, _, h3⟩ => ?_⟩
    cases r2
    cases r3
    exact ⟨σ, pv, m3, Z3, G3, d, R3, s3.rep (s2.rep r1), h3⟩
/-- what a class of the text has -/
structure TblOk (W : Wd) (K : PySem.W.Frag) : Prop where
  cls : Cls K W.tC
  na : ∀ f ∈ [sN, sRanks, sAll, sRank], NoAttr K W.tC f
def fldN : Nat → Option PySem.Str
  | 0 => some sN
  | 1 => some sRanks
  | 2 => some sAll
  | 3 => some sRank
  | _ => none
theorem tFs_get {vs : List V} {k : Nat} {f : PySem.Str} {v : V} (hk : fldN k = some f) (hl : vs.length = 4) (hv : vs[k]? = some v) : (tFs vs).lookup f = some v ∧ f ∈ [sN, sRanks, sAll, sRank] := by
  obtain ⟨a, b, d, e, rfl⟩ : ∃ a b d e, vs = [a, b, d, e] := by
    match vs, hl with
    | [a, b, d, e], _ => exact ⟨a, b, d, e, rfl⟩
  match k, hk with
  | 0, hk => cases hk; simp at hv; subst hv; exact ⟨rfl, by simp⟩
  | 1, hk => cases hk; simp at hv; subst hv; exact ⟨rfl, by simp⟩
  | 2, hk => cases hk; simp at hv; subst hv; exact ⟨rfl, by simp⟩
  | 3, hk => cases hk; simp at hv; subst hv; exact ⟨rfl, by simp⟩
theorem s_fld {a : ME} {k : Nat} {f : PySem.Str} {x : Expr} (T : TblOk c.W X.K) (hk : fldN k = some f) (ha : PE X x (tE c X.K a)) (hx : noCall x = true) : PE X (.Attribute x f pos) (tE c X.K (.fld a k)) :=
  pe_weak (pe_fld ha (attrBase_of hx)) fun σ H Q ⟨pv, m, Z, G, ρ, R, E, h⟩ => by
    simp only [ev] at h
    refine ⟨pv, m, Z, G, ρ, R, E, (h.bnd (rx := VRep c.W X.K)).mono fun x H1 ⟨d, m1, Z1, G1, R1, s1, r1, _, h1⟩ => ?_⟩
    cases d with
    | obj fs =>
      simp only [fldOp] at h1
      simp only [VRep] at r1
      obtain ⟨p, dx, vs, e1, e2, e3, e4⟩ := r1
      cases hf : fs[k]? with
      | none => rw [hf] at h1; exact h1.elim
      | some d =>
        rw [hf] at h1
        obtain ⟨v, q1, q2⟩ := e4.get hf
        obtain ⟨q3, q4⟩ := tFs_get hk e3 q1
        exact ⟨p, c.W.tC, dx, tFs vs, v, e1, R1.up _ _ e2, T.cls, T.na f q4, q3, Pst.here h1 R1 q2⟩
    | _ => exact h1.elim
end
end Fw
end
section
set_option Elab.async false
set_option linter.all false
set_option maxRecDepth 100000
set_option maxHeartbeats 1000000
/-! Fw.Sound: built-in functions -/
namespace Fw
open PySem PySem.Spec PyProof.Rows L2
/-- a built-in by values -/
def rB (c : Cf) (K : PySem.W.Frag) (b : BI) : List V → Hp → VK → Prop := fun xs H Q => ∃ σ pv m Z G ds, Rel c.W K pv m Z H G ∧ VReps c.W K G m ds xs ∧ PstF c.W K c.n c.Wx σ pv m Z H G (biOp b ds Z) Q
theorem VReps.inv1 {W : Wd} {K : PySem.W.Frag} {G : Hp} {m : List Addr} {d : D} {xs : List V} (h : VReps W K G m [d] xs) : ∃ x, xs = [x] ∧ VRep W K G m d x := by
  simp only [VReps] at h
  obtain ⟨v, r, rfl, h1, rfl⟩ := h
  exact ⟨v, rfl, h1⟩
theorem VReps.inv2 {W : Wd} {K : PySem.W.Frag} {G : Hp} {m : List Addr} {d e : D} {xs : List V} (h : VReps W K G m [d, e] xs) : ∃ x y, xs = [x, y] ∧ VRep W K G m d x ∧ VRep W K G m e y := by
  simp only [VReps] at h
  obtain ⟨v, r, rfl, h1, w, r2, rfl, h2, rfl⟩ := h
  exact ⟨v, w, rfl, h1, h2⟩
theorem VReps.inv3 {W : Wd} {K : PySem.W.Frag} {G : Hp} {m : List Addr} {d e f : D} {xs : List V} (h : VReps W K G m [d, e, f] xs) : ∃ x y z, xs = [x, y, z] ∧ VRep W K G m d x ∧ VRep W K G m e y ∧ VRep W K G m f z := by
  simp only [VReps] at h
  obtain ⟨v, r, rfl, h1, w, r2, rfl, h2, z, r3, rfl, h3, rfl⟩ := h
  exact ⟨v, w, z, rfl, h1, h2, h3⟩
section
variable {X : Cx} {c : Cf} {σ : L2.St} {pv m : List Addr} {Z : Sto} {H G : Hp} {ρ : Env} {pos p2 : Pos}
theorem PstF.int {W : Wd} {K : PySem.W.Frag} {n : Nat} {Wx : WX} {i : Int} {Q : VK} (h : PstF W K n Wx σ pv m Z H G (.ok (.int i) Z) Q) (R : Rel W K pv m Z H G) : Q (.int i) H :=
  Pst.here (h.other (fun _ _ z => nomatch z) (fun _ _ _ _ z => nomatch z)) R (by simp only [VRep])
theorem PstF.bl {W : Wd} {K : PySem.W.Frag} {n : Nat} {Wx : WX} {i : Bool} {Q : VK} (h : PstF W K n Wx σ pv m Z H G (.ok (.bl i) Z) Q) (R : Rel W K pv m Z H G) : Q (.bl i) H :=
  Pst.here (h.other (fun _ _ z => nomatch z) (fun _ _ _ _ z => nomatch z)) R (by simp only [VRep])
theorem seq_len {L : V → Hp → Prop} {p : Addr} {vs : List V} {K : PySem.W.Frag} (h : SqL K H p vs ∨ SqT K H p vs) : LenV K (.ref p) H vs.length := by
  rcases h with h | h
  · exact .inl ⟨vs, h, rfl⟩
  · exact .inr ⟨vs, h, rfl⟩
theorem len_dK {pins : List (Addr × Obj)} {s : Shared} {p : Addr} {kvs : List (Key × V)} {us : List Value} {Q : VK} (I : Inv X pins σ H s) (e : H p = some (.dK kvs)) (r : Vals [V.ref p] us) (q : Q (.int kvs.length) H) : wpAny (model X.prog X.w) X.A (call (.builtin "len") us) (EP X pins σ Q) X.xe s := by
  rw [Vals.ref1 r]
  exact d_len I (.inl e) fun t s' I' => ⟨.int kvs.length, H, I', ⟨t, rfl⟩, q⟩
theorem b_len : CallR X (.builtin "len") (rB c X.K .len) := by
  rintro pins s σ H xs us Q I r ⟨σ', pv, m, Z, G, ds, R, rs, h⟩
  match ds, h with
  | [a], h =>
    obtain ⟨x, rfl, ra⟩ := rs.inv1
    have sq : ∀ xs, seqOf Z a = some xs → PstF c.W X.K c.n c.Wx σ' pv m Z H G (.ok (.int xs.length) Z) Q → wpAny (model X.prog X.w) X.A (call (.builtin "len") us) (EP X pins σ Q) X.xe s := fun xs e h => by
      obtain ⟨p, vs, e1, e2, e3⟩ := seq_at R ra e
      rw [e3.length] at h
      exact call_len pins s σ H _ us Q I r ⟨x, vs.length, rfl, by rw [e1]; exact seq_len (L := fun _ _ => True) e2, h.int R⟩
    simp only [biOp] at h
    split at h
    · exact sq _ (by simp only [seqOf, *]) h
    · exact sq _ (by simp only [seqOf, *]) h
    · exact sq _ (by simp only [seqOf, *]) h
    · rename_i ns e
      exact sq (ns.map .int) (by simp only [seqOf, e]) (by rw [List.length_map]; exact h)
    · rename_i t ks vs e
      obtain ⟨p, rfl, o⟩ := dct_at R ra e
      rcases o with ⟨ns, ws, _, rfl, q1, q2, q3, _⟩ | ⟨ns, ws, _, rfl, q1, q2, q3, _⟩
      · refine len_dK I q1 r ?_
        have : ((ns.map (Sum.inl : Int → Key)).zip ws).length = (ns.map D.int).length := by simp [q3]
        rw [this]
        exact h.int R
      · refine call_len_dT pins s σ H _ us Q I r ⟨p, _, rfl, q1, ?_⟩
        have : ((ns.map fun l => l.map (Sum.inl : Int → Key)).zip ws).length = (ns.map fun l => D.tup (l.map D.int)).length := by simp [q3]
        rw [this]
        exact h.int R
    · exact h.elim
theorem b_sum (hc : X.calm = true) : CallR X (.builtin "sum") (rB c X.K .sum) := by
  rintro pins s σ H xs us Q I r ⟨σ', pv, m, Z, G, ds, R, rs, h⟩
  match ds, h with
  | [a], h =>
    obtain ⟨x, rfl, ra⟩ := rs.inv1
    simp only [biOp] at h
    split at h
    · rename_i xs e
      split at h
      · rename_i ns e2
        obtain ⟨p, vs, rfl, q1, q2⟩ := lst_at R ra e
        obtain ⟨rfl, _⟩ := q2.ints e2
        exact cr_sum hc pins s σ H _ us Q I r ⟨p, ns, rfl, SqL.of q1, h.int R⟩
      · exact h.elim
    · exact h.elim
theorem b_all (hc : X.calm = true) : CallR X (.builtin "all") (rB c X.K .all) := by
  rintro pins s σ H xs us Q I r ⟨σ', pv, m, Z, G, ds, R, rs, h⟩
  match ds, h with
  | [a], h =>
    obtain ⟨x, rfl, ra⟩ := rs.inv1
    simp only [biOp] at h
    split at h
    · rename_i xs e
      split at h
      · rename_i ns e2
        obtain ⟨p, vs, rfl, q1, q2⟩ := lst_at R ra e
        have := q2.bls e2
        subst this
        exact cr_all hc pins s σ H _ us Q I r ⟨p, ns, rfl, SqL.of q1, h.bl R⟩
      · exact h.elim
    · exact h.elim
theorem b_any (hc : X.calm = true) : CallR X (.builtin "any") (rB c X.K .any) := by
  rintro pins s σ H xs us Q I r ⟨σ', pv, m, Z, G, ds, R, rs, h⟩
  match ds, h with
  | [a], h =>
    obtain ⟨x, rfl, ra⟩ := rs.inv1
    simp only [biOp] at h
    split at h
    · rename_i xs e
      split at h
      · rename_i ns e2
        obtain ⟨p, vs, rfl, q1, q2⟩ := lst_at R ra e
        have := q2.bls e2
        subst this
        exact cr_any hc pins s σ H _ us Q I r ⟨p, ns, rfl, SqL.of q1, h.bl R⟩
      · exact h.elim
    · exact h.elim
theorem maxI_eq : ∀ (ns : List Int) (k m : Int), m ∈ k :: ns → (∀ y ∈ k :: ns, y ≤ m) → maxI k ns = m
  | [], k, m, h1, _ => by simp at h1; exact h1.symm
  | x :: xs, k, m, h1, h2 => by
    rw [maxI]
    apply maxI_eq xs
    · have a := h2 k (by simp)
      have b := h2 x (by simp)
      simp only [List.mem_cons] at h1 ⊢
      rcases h1 with e | e | e
      · split
        · left; omega
        · left; exact e
      · split
        · left; exact e
        · left; omega
      · right; exact e
    · intro y hy
      simp only [List.mem_cons] at hy
      rcases hy with e | e
      · subst e
        split
        · exact h2 x (by simp)
        · exact h2 k (by simp)
      · exact h2 y (by simp [e])
theorem minI_eq : ∀ (ns : List Int) (k m : Int), m ∈ k :: ns → (∀ y ∈ k :: ns, m ≤ y) → minI k ns = m
  | [], k, m, h1, _ => by simp at h1; exact h1.symm
  | x :: xs, k, m, h1, h2 => by
    rw [minI]
    apply minI_eq xs
    · have a := h2 k (by simp)
      have b := h2 x (by simp)
      simp only [List.mem_cons] at h1 ⊢
      rcases h1 with e | e | e
      · split
        · left; omega
        · left; exact e
      · split
        · left; exact e
        · left; omega
      · right; exact e
    · intro y hy
      simp only [List.mem_cons] at hy
      rcases hy with e | e
      · subst e
        split
        · exact h2 x (by simp)
        · exact h2 k (by simp)
      · exact h2 y (by simp [e])
theorem b_abs : CallR X (.builtin "abs") (rB c X.K .abs) := by
  rintro pins s σ H xs us Q I r ⟨σ', pv, m, Z, G, ds, R, rs, h⟩
  match ds, h with
  | [.int i], h =>
    obtain ⟨x, rfl, ra⟩ := rs.inv1
    simp only [VRep] at ra
    subst ra
    exact call_abs pins s σ H _ us Q I r ⟨i, rfl, PstF.int h R⟩
theorem b_int : CallR X (.type "int") (rB c X.K .int) := by
  rintro pins s σ H xs us Q I r ⟨σ', pv, m, Z, G, ds, R, rs, h⟩
  match ds, h with
  | [.int i], h =>
    obtain ⟨x, rfl, ra⟩ := rs.inv1
    simp only [VRep] at ra
    subst ra
    exact call_int1 pins s σ H _ us Q I r (.inl ⟨i, rfl, PstF.int h R⟩)
  | [.bl i], h =>
    obtain ⟨x, rfl, ra⟩ := rs.inv1
    simp only [VRep] at ra
    subst ra
    exact call_int1 pins s σ H _ us Q I r (.inr ⟨i, rfl, PstF.int h R⟩)
theorem b_max2 (hc : X.calm = true) : CallR X (.builtin "max") (rB c X.K .max2) := by
  rintro pins s σ H xs us Q I r ⟨σ', pv, m, Z, G, ds, R, rs, h⟩
  match ds, h with
  | [.int i, .int j], h =>
    obtain ⟨x, y, rfl, ra, rb⟩ := rs.inv2
    simp only [VRep] at ra rb
    subst ra rb
    exact call_max2 hc pins s σ H _ us Q I r ⟨i, j, rfl, PstF.int h R⟩
theorem b_min2 (hc : X.calm = true) : CallR X (.builtin "min") (rB c X.K .min2) := by
  rintro pins s σ H xs us Q I r ⟨σ', pv, m, Z, G, ds, R, rs, h⟩
  match ds, h with
  | [.int i, .int j], h =>
    obtain ⟨x, y, rfl, ra, rb⟩ := rs.inv2
    simp only [VRep] at ra rb
    subst ra rb
    exact call_min2 hc pins s σ H _ us Q I r ⟨i, j, rfl, PstF.int h R⟩
theorem b_tuple : CallR X (.type "tuple") (rB c X.K .tuple) := by
  rintro pins s σ H xs us Q I r ⟨σ', pv, m, Z, G, ds, R, rs, h⟩
  match ds, h with
  | [a], h =>
    obtain ⟨x, rfl, ra⟩ := rs.inv1
    simp only [biOp] at h
    split at h
    · rename_i xs e
      obtain ⟨p, vs, rfl, q1, q2⟩ := tup_at R ra e
      have e' := tup_self R ra e
      subst e'
      have h' := h.other (fun _ _ z => nomatch z) (fun _ _ _ _ z => nomatch z)
      exact call_tuple_of pins s σ H _ us Q I r ⟨p, vs, rfl, .inr ⟨SqT.of q1, Pst.here h' R ra⟩⟩
    · rename_i xs e
      obtain ⟨p, vs, rfl, q1, q2⟩ := lst_at R ra e
      have h' := h.other (fun _ _ z => nomatch z) (fun _ _ _ _ z => nomatch z)
      refine call_tuple_of pins s σ H _ us Q I r ⟨p, vs, rfl, .inl ⟨SqL.of q1, fun l hl => Pst.new h' R hl no_tbl_tup ?_⟩⟩
      simp only [VRep]
      exact ⟨l, _, rfl, upd_same, VReps.mono (Ex.new (R.fresh hl).1) (fun _ _ h => h) _ _ q2⟩
    · exact h.elim
/-! ### isinstance -/
def rIs (c : Cf) (K : PySem.W.Frag) (b : BI) (T : String) : List V → Hp → VK → Prop := fun xs H Q => ∃ σ pv m Z G a x, xs = [x, .ty T] ∧ Rel c.W K pv m Z H G ∧ VRep c.W K G m a x ∧ PstF c.W K c.n c.Wx σ pv m Z H G (biOp b [a] Z) Q
def isiB : D → String → Option Bool
  | .int _, t => kitB "int" t
  | .bl _, t => kitB "bool" t
  | .non, t => kitB "NoneType" t
  | .str _, t => kitB "str" t
  | .tup _, t => kitB "tuple" t
  | .lst _, t => kitB "list" t
  | _, _ => none
theorem isi_gen {W : Wd} {T : String} {pins : List (Addr × Obj)} {s : Shared} {σ : L2.St} {us : List Value} {Q : VK} {a : D} {x : V} {k : Bool} (I : Inv X pins σ H s) (R : Rel W X.K pv m Z H G) (ra : VRep W X.K G m a x) (r : Vals [x, .ty T] us) (hk : isiB (view Z a) T = some k) (q : Q (.bl k) H) :
    wpAny (model X.prog X.w) X.A (call (.builtin "isinstance") us) (EP X pins σ Q) X.xe s := by
  have self : (∀ xs, view Z a ≠ .lst xs) → (∀ t ks xs, view Z a ≠ .dct t ks xs) → view Z a ≠ .clo → a = view Z a := fun h1 h2 h3 => by
    rcases view_rep R ra h1 h2 with h | h
    · exact h.symm
    · exact absurd h h3
  have fin : ∀ t, TyX X.K H x (.type t) → kitB t T = some k → wpAny (model X.prog X.w) X.A (call (.builtin "isinstance") us) (EP X pins σ Q) X.xe s := fun t h1 h2 =>
    call_isi pins s σ H _ us Q I r ⟨x, .ty T, .type t, .type T, k, rfl, .ty T, h1, kit_ty h2, q⟩
  cases e : view Z a with
  | int i =>
    have h := self (fun xs z => by rw [e] at z; cases z) (fun t ks xs z => by rw [e] at z; cases z) (fun z => by rw [e] at z; cases z)
    rw [e] at hk
    rw [h, e] at ra
    simp only [VRep] at ra
    subst ra
    exact fin _ (.base (.int i)) hk
  | bl i =>
    have h := self (fun xs z => by rw [e] at z; cases z) (fun t ks xs z => by rw [e] at z; cases z) (fun z => by rw [e] at z; cases z)
    rw [e] at hk
    rw [h, e] at ra
    simp only [VRep] at ra
    subst ra
    exact fin _ (.base (.bl i)) hk
  | non =>
    have h := self (fun xs z => by rw [e] at z; cases z) (fun t ks xs z => by rw [e] at z; cases z) (fun z => by rw [e] at z; cases z)
    rw [e] at hk
    rw [h, e] at ra
    simp only [VRep] at ra
    subst ra
    exact fin _ (.base .non) hk
  | str i =>
    have h := self (fun xs z => by rw [e] at z; cases z) (fun t ks xs z => by rw [e] at z; cases z) (fun z => by rw [e] at z; cases z)
    rw [e] at hk
    rw [h, e] at ra
    simp only [VRep] at ra
    subst ra
    exact fin _ (.base (.str i)) hk
  | tup xs =>
    obtain ⟨p, vs, rfl, q1, q2⟩ := tup_at R ra e
    rw [e] at hk
    exact fin _ (.base (.tup q1)) hk
  | lst xs =>
    obtain ⟨p, vs, rfl, q1, q2⟩ := lst_at R ra e
    rw [e] at hk
    exact fin _ (.base (.lst q1)) hk
  | _ => rw [e] at hk; simp [isiB] at hk
theorem kb_int : kitB "int" "int" = some true ∧ kitB "bool" "int" = some true ∧ kitB "NoneType" "int" = some false ∧ kitB "str" "int" = some false ∧ kitB "tuple" "int" = some false ∧ kitB "list" "int" = some false := by decide +kernel
theorem kb_bool : kitB "int" "bool" = some false ∧ kitB "bool" "bool" = some true ∧ kitB "NoneType" "bool" = some false ∧ kitB "str" "bool" = some false ∧ kitB "tuple" "bool" = some false ∧ kitB "list" "bool" = some false := by decide +kernel
theorem kb_tuple : kitB "int" "tuple" = some false ∧ kitB "bool" "tuple" = some false ∧ kitB "NoneType" "tuple" = some false ∧ kitB "str" "tuple" = some false ∧ kitB "tuple" "tuple" = some true ∧ kitB "list" "tuple" = some false := by decide +kernel
theorem kb_str : kitB "int" "str" = some false ∧ kitB "bool" "str" = some false ∧ kitB "NoneType" "str" = some false ∧ kitB "str" "str" = some true ∧ kitB "tuple" "str" = some false ∧ kitB "list" "str" = some false := by decide +kernel
theorem kb_list : kitB "int" "list" = some false ∧ kitB "bool" "list" = some false ∧ kitB "NoneType" "list" = some false ∧ kitB "str" "list" = some false ∧ kitB "tuple" "list" = some false ∧ kitB "list" "list" = some true := by decide +kernel
def isBI : BI → Option String
  | .isInt => some "int"
  | .isBool => some "bool"
  | .isTuple => some "tuple"
  | .isStr => some "str"
  | .isList => some "list"
  | _ => none
theorem isi_op {b : BI} {T : String} (hb : isBI b = some T) {a : D} {Z : Sto} {r : R D} (h : biOp b [a] Z = r) : r = .stuck ∨ ∃ k, isiB (view Z a) T = some k ∧ r = .ok (.bl k) Z := by
  obtain ⟨i1, i2, i3, i4, i5, i6⟩ := kb_int
  obtain ⟨b1, b2, b3, b4, b5, b6⟩ := kb_bool
  obtain ⟨t1, t2, t3, t4, t5, t6⟩ := kb_tuple
  obtain ⟨s1, s2, s3, s4, s5, s6⟩ := kb_str
  obtain ⟨l1, l2, l3, l4, l5, l6⟩ := kb_list
  cases b <;> simp only [isBI] at hb <;> first | (cases hb; done) | skip
  all_goals
    cases hb
    simp only [biOp] at h
    cases e : view Z a <;> rw [e] at h <;> simp only at h <;> first
      | (left; exact h.symm)
      | (right; exact ⟨_, by simp only [isiB, i1, i2, i3, i4, i5, i6, b1, b2, b3, b4, b5, b6, t1, t2, t3, t4, t5, t6, s1, s2, s3, s4, s5, s6, l1, l2, l3, l4, l5, l6], h.symm⟩)
theorem b_isi {b : BI} {T : String} (hb : isBI b = some T) : CallR X (.builtin "isinstance") (rIs c X.K b T) := by
  rintro pins s σ H xs us Q I r ⟨σ', pv, m, Z, G, a, x, rfl, R, ra, h⟩
  rcases isi_op hb (rfl : biOp b [a] Z = _) with e | ⟨k, e1, e2⟩
  · rw [e] at h; exact h.elim
  · rw [e2] at h
    exact isi_gen I R ra r e1 (h.bl R)
end
end Fw
end
section
set_option Elab.async false
set_option linter.all false
set_option maxRecDepth 100000
set_option maxHeartbeats 1000000
/-! Fw.Sound: targets, what is walked -/
namespace Fw
open PySem PySem.Spec PyProof.Rows L2
section
variable {X : Cx} {c : Cf} {σ : L2.St} {pv m : List Addr} {Z : Sto} {H G : Hp} {ρ : Env} {pos p2 : Pos}
/-! ### targets -/
theorem ERel.set {K : PySem.W.Frag} {ρ : Env} {i : Nat} {d : D} {v : V} (e : ERel c K G m ρ σ) (r : VRep c.W K G m d v) : ERel c K G m (ρ.set i (some d)) (σ.set i (some v)) :=
  ⟨by simp [e.len], fun j u h => by
    by_cases hij : i = j
    · subst hij
      have hi : i < ρ.length := by
        have := (List.getElem?_eq_some_iff.mp h).1
        simpa using this
      rw [List.getElem?_set_self hi] at h
      cases h
      exact .inr ⟨v, List.getElem?_set_self (by rw [← e.len]; exact hi), r⟩
    · rw [List.getElem?_set_ne hij] at h ⊢
      exact e.at_ j u h, e.known, e.up, e.upl⟩
theorem ERel.none {K : PySem.W.Frag} {ρ : Env} {i : Nat} (e : ERel c K G m ρ σ) : ERel c K G m (ρ.set i none) (σ.set i none) :=
  ⟨by simp [e.len], fun j u h => by
    by_cases hij : i = j
    · subst hij
      have hi : i < ρ.length := by
        have := (List.getElem?_eq_some_iff.mp h).1
        simpa using this
      rw [List.getElem?_set_self hi] at h
      cases h
    · rw [List.getElem?_set_ne hij] at h ⊢
      exact e.at_ j u h, e.known, e.up, e.upl⟩
theorem ERel.wipe {K : PySem.W.Frag} {ρ : Env} (e : ERel c K G m ρ σ) : ∀ vs : List Nat, ERel c K G m (wipeE vs ρ) (L2.wipe σ vs)
  | [] => e
  | i :: vs => (ERel.wipe e vs).none
/-- a target takes a value -/
def tG (c : Cf) (K : PySem.W.Frag) (t : MT) : TG := fun v σ H Q => ∃ pv m Z G ρ d ρ', Rel c.W K pv m Z H G ∧ ERel c K G m ρ σ ∧ VRep c.W K G m d v ∧ asgT t d ρ Z = some ρ' ∧ ∀ σ', ERel c K G m ρ' σ' → σ'.length = σ.length → (∀ i, i ∉ t.slots → σ'[i]? = σ[i]?) → Q σ' H
def tGs (c : Cf) (K : PySem.W.Frag) (ts : List MT) : TGs := fun vs σ H Q => ∃ pv m Z G ρ ds ρ', Rel c.W K pv m Z H G ∧ ERel c K G m ρ σ ∧ VReps c.W K G m ds vs ∧ asgTs ts ds ρ Z = some ρ' ∧ ∀ σ', ERel c K G m ρ' σ' → σ'.length = σ.length → (∀ i, i ∉ MT.slotss ts → σ'[i]? = σ[i]?) → Q σ' H
theorem pg_weak {X : Cx} {e : Expr} {t t' : TG} (h : PG X e t) (w : ∀ v σ H Q, t' v σ H Q → t v σ H Q) : PG X e t' := ⟨fun pins s σ H v u Q I r q => h.run pins s σ H v u Q I r (w v σ H Q q)⟩
theorem pgs_weak {X : Cx} {e : List Expr} {t t' : TGs} (h : PGs X e t) (w : ∀ v σ H Q, t' v σ H Q → t v σ H Q) : PGs X e t' := ⟨fun pins s σ H v u Q I r q => h.run pins s σ H v u Q I r (w v σ H Q q)⟩
theorem g_nm {i : Nat} {x : PySem.Str} (hN : X.N.Nodup) (hi : X.N[i]? = some x) (hx : Loc X.env.scope x) (hf : X.fn x = true ∨ X.env.scope.names.lookup x = some .local) : PG X (.Name x pos) (tG c X.K (.nm i)) :=
  pg_weak (pg_name hN hi hx hf) fun v σ H Q ⟨pv, m, Z, G, ρ, d, ρ', R, E, r, h, q⟩ => by
    simp only [asgT] at h
    split at h
    · cases h
      refine q _ (E.set r) (by simp) fun j hj => ?_
      have : i ≠ j := fun z => hj (by simp [MT.slots, z])
      rw [List.getElem?_set_ne this]
    · cases h
theorem gs_nil : PGs X [] (tGs c X.K []) := pgs_weak pgs_nil fun vs σ H Q ⟨pv, m, Z, G, ρ, ds, ρ', R, E, r, h, q⟩ => by
  cases ds with
  | nil =>
    simp only [asgTs] at h
    cases h
    simp only [VReps] at r
    exact ⟨r, q σ E rfl fun _ _ => rfl⟩
  | cons _ _ => simp [asgTs] at h
theorem assignEach_cons {e : Expr} {es : List Expr} {env : PySem.Env} (hs : noStar e = true) : assignEach (e :: es) env = (false, assign e env) :: assignEach es env := by
  cases e <;> first | rfl | (simp [noStar] at hs)
theorem gs_cons {t : MT} {ts : List MT} {e : Expr} {es : List Expr} (hs : noStar e = true) (h1 : PG X e (tG c X.K t)) (h2 : PGs X es (tGs c X.K ts)) : PGs X (e :: es) (tGs c X.K (t :: ts)) :=
  pgs_weak (pgs_cons h1 h2 (by rw [assignEach_cons hs]; rfl)) fun vs σ H Q ⟨pv, m, Z, G, ρ, ds, ρ', R, E, r, h, q⟩ => by
    cases ds with
    | nil => simp [asgTs] at h
    | cons d ds =>
      simp only [VReps] at r
      obtain ⟨v, rr, rfl, r1, r2⟩ := r
      simp only [asgTs] at h
      cases e1 : asgT t d ρ Z with
      | none => rw [e1] at h; cases h
      | some ρ1 =>
        rw [e1] at h
        refine ⟨v, rr, rfl, pv, m, Z, G, ρ, d, ρ1, R, E, r1, e1, fun σ' E' hl hk => ?_⟩
        refine ⟨pv, m, Z, G, ρ1, ds, ρ', R, E', r2, h, fun σ2 E2 hl2 hk2 => q σ2 E2 (hl2.trans hl) fun i hi => ?_⟩
        simp only [MT.slotss, List.mem_append, not_or] at hi
        rw [hk2 i hi.2, hk i hi.1]
def noStars (es : List Expr) : Bool := es.all noStar
theorem assignEach_len {env : PySem.Env} : ∀ {es : List Expr}, noStars es = true → (assignEach es env).length = es.length ∧ (assignEach es env).findIdx? (·.1) = none
  | [], _ => ⟨rfl, rfl⟩
  | e :: es, h => by
    simp only [noStars, List.all_cons, Bool.and_eq_true] at h
    obtain ⟨h1, h2⟩ := assignEach_len (env := env) (es := es) h.2
    rw [assignEach_cons h.1]
    refine ⟨by simp [h1], ?_⟩
    rw [List.findIdx?_cons]
    simp [h2]
theorem asgTs_len : ∀ {ts : List MT} {ds : List D} {ρ ρ' : Env} {Z : Sto}, asgTs ts ds ρ Z = some ρ' → ds.length = ts.length
  | [], [], _, _, _, _ => rfl
  | [], _ :: _, _, _, _, h => by simp [asgTs] at h
  | _ :: _, [], _, _, _, h => by simp [asgTs] at h
  | t :: ts, d :: ds, ρ, ρ', Z, h => by
    simp only [asgTs] at h
    cases e : asgT t d ρ Z with
    | none => rw [e] at h; cases h
    | some ρ1 => rw [e] at h; simp [asgTs_len h]
theorem g_tp {ts : List MT} {es : List Expr} {k : Nat} (hc : X.calm = true) (hs : noStars es = true) (hl : es.length = ts.length) (h : PGs X es (tGs c X.K ts)) : PG X (.Tuple es k pos) (tG c X.K (.tp ts)) :=
  pg_weak (pg_tup (n := ts.length) hc h (by rw [(assignEach_len hs).1, hl]) (assignEach_len hs).2) fun v σ H Q ⟨pv, m, Z, G, ρ, d, ρ', R, E, r, h, q⟩ => by
    cases d with
    | tup xs =>
      simp only [asgT] at h
      simp only [VRep] at r
      obtain ⟨a, vs, e1, e2, e3⟩ := r
      exact ⟨a, vs, e1, SqT.of (R.up _ _ e2), by rw [← e3.length, asgTs_len h], pv, m, Z, G, ρ, xs, ρ', R, E, e3, h, q⟩
    | ctup xs =>
      simp only [asgT] at h
      simp only [VRep] at r
      obtain ⟨a, vs, e1, e2, e3⟩ := r
      exact ⟨a, vs, e1, R.up.sqT e2, by rw [← e3.length, asgTs_len h], pv, m, Z, G, ρ, xs, ρ', R, E, e3, h, q⟩
    | _ => simp [asgT] at h

/-! ### what is walked -/
/-- an iterator J over xs: the items of as, walked in the way k -/
def ItOk (c : Cf) (K : PySem.W.Frag) (pv : List Addr) (k : IK) (as : List D) (vs : List V) (xs : List D) (J : It) : Prop := ∀ (pv' m : List Addr) (Z : Sto) (H G : Hp), Rel c.W K pv' m Z H G → VReps c.W K G m as vs → iterOf k as Z = some xs →
  (∀ i, i < xs.length → J.go i H) ∧ J.stop xs.length H ∧ ∀ i x H', i < xs.length → J.yld i H x H' → ∃ d G', xs[i]? = some d ∧ Rel c.W K pv' m Z H' G' ∧ (∀ n, Stp n pv' m Z H G m Z H' G') ∧ VRep c.W K G' m d x
def tI (c : Cf) (K : PySem.W.Frag) (k : IK) (es : List ME) : TI := fun σ H R => ∃ pv m Z G ρ, Rel c.W K pv m Z H G ∧ ERel c K G m ρ σ ∧ Pst c.W K c.n c.Wx σ pv m Z H G (VReps c.W K) (evs c.F c.F2 c.cl es c.n ρ Z) fun vs H1 =>
  ∃ as m1 Z1 G1 xs, Rel c.W K pv m1 Z1 H1 G1 ∧ Stp c.n pv m Z H G m1 Z1 H1 G1 ∧ VReps c.W K G1 m1 as vs ∧ evs c.F c.F2 c.cl es c.n ρ Z = .ok as Z1 ∧ iterOf k as Z1 = some xs ∧ ∀ J, ItOk c K pv k as vs xs J → R J H1
theorem pi_weak {X : Cx} {tg e : Expr} {t t' : TI} (h : PI X tg e t) (w : ∀ σ H Q, t' σ H Q → t σ H Q) : PI X tg e t' := ⟨fun pins s σ H Q I q => h.run pins s σ H Q I (w σ H Q q)⟩
/-- either of two rules -/
theorem PI.or {tg e : Expr} {t t' : TI} (h : PI X tg e t) (h' : PI X tg e t') : PI X tg e (fun σ H R => t σ H R ∨ t' σ H R) := ⟨fun pins s σ H Q I q => q.elim (h.run pins s σ H Q I) (h'.run pins s σ H Q I)⟩
theorem evs_one {F F2 : FT} {cl : Option (List D → M D)} {e : ME} {n : Nat} {ρ : Env} : evs F F2 cl [e] n ρ = bnd (ev F F2 cl e n ρ) fun x => ret [x] := by
  funext Z
  simp only [evs, bnd, ret]
/-- the list or tuple itself -/
def iSeq (K : PySem.W.Frag) (tl : TE) : TI := fun σ H R => tl σ H fun x H1 => ∃ a, x = .ref a ∧ (((∃ xs, SqL K H1 a xs) ∧ R (Itl K a) H1) ∨ ((∃ xs, SqT K H1 a xs) ∧ R (Itt K a) H1))
theorem pi_seqLT {tg l : Expr} {tl : TE} (hl : PE X l tl) : PI X tg l (iSeq X.K tl) := by
  refine ⟨fun pins s σ H R I h => ?_⟩
  refine thn (hl.run pins s σ H _ I h) fun v s1 ⟨x, H1, I1, r1, q1⟩ => ?_
  obtain ⟨a, e, q1⟩ := q1
  subst e
  cases r1
  rcases q1 with ⟨⟨xs, hq⟩, q⟩ | ⟨⟨xs, hq⟩, q⟩
  · obtain ⟨its, rv, p, hz⟩ := I1.list hq
    refine wpAny_pyIter_list p.isList ?_
    refine ⟨s1.heap.objs.size, [s1.heap.objs.size], _, _, H1, rfl, I1.kept (t' := s1.toks) fun b o e => Heap.get?_push_of_some _ e, turn_list a _, ⟨_, Heap.get?_push_size _ rfl, rfl, rfl⟩, fun b hb => ?_, q⟩
    have e : b = s1.heap.objs.size := by simpa using hb
    subst e
    exact I1.fpOk (Nat.le_refl _) (I1.hok.fresh (Nat.le_refl _))
  · obtain ⟨its, rv, p, hz⟩ := I1.tuple hq
    refine wpAny_pyIter_tuple (show s1.heap.IsTuple a its.toArray from p) ?_
    refine ⟨s1.heap.objs.size, [s1.heap.objs.size], _, _, H1, rfl, I1.kept (t' := s1.toks) fun b o e => Heap.get?_push_of_some _ e, turn_tuple a _, ⟨_, Heap.get?_push_size _ rfl, rfl, rfl⟩, fun b hb => ?_, q⟩
    have e : b = s1.heap.objs.size := by simpa using hb
    subst e
    exact I1.fpOk (Nat.le_refl _) (I1.hok.fresh (Nat.le_refl _))
theorem iterSeq_of {a : D} {Z : Sto} {xs : List D} (h : iterOf .seq [a] Z = some xs) : seqOf Z a = some xs ∧ ∀ ns, a ≠ .scr ns := by
  have ns : ∀ e, view Z a = e → (∀ ns, e ≠ .scr ns) → ∀ ns, a ≠ .scr ns := fun e h1 h2 ns z => by
    subst z
    simp only [view] at h1
    exact h2 ns h1.symm
  simp only [iterOf] at h
  split at h
  · rename_i ys e; cases h; exact ⟨by simp only [seqOf, e], ns _ e fun _ z => nomatch z⟩
  · rename_i ys e; cases h; exact ⟨by simp only [seqOf, e], ns _ e fun _ z => nomatch z⟩
  · rename_i ys e; cases h; exact ⟨by simp only [seqOf, e], ns _ e fun _ z => nomatch z⟩
  · cases h
/-- what a list is, in any later state -/
def isL (Z : Sto) (a : D) : Prop := ∃ xs, view Z a = .lst xs
theorem seq_kind {W : Wd} {K : PySem.W.Frag} (R : Rel W K pv m Z H G) {d : D} {v : V} {xs : List D} (h : VRep W K G m d v) (e : iterOf .seq [d] Z = some xs) :
    ∃ a vs, v = .ref a ∧ VReps W K G m xs vs ∧ ((SqL K H a vs ∧ ((∃ ys, d = .lst ys) ∨ ∃ i, d = .ref i)) ∨ (SqT K H a vs ∧ ((∃ ys, d = .tup ys) ∨ ∃ ys, d = .ctup ys))) := by
  simp only [iterOf] at e
  cases d with
  | tup ys =>
    simp only [view] at e
    cases e
    simp only [VRep] at h
    obtain ⟨a, vs, h1, h2, h3⟩ := h
    exact ⟨a, vs, h1, h3, .inr ⟨SqT.of (R.up _ _ h2), .inl ⟨_, rfl⟩⟩⟩
  | ctup ys =>
    simp only [view] at e
    cases e
    simp only [VRep] at h
    obtain ⟨a, vs, h1, h2, h3⟩ := h
    exact ⟨a, vs, h1, h3, .inr ⟨R.up.sqT h2, .inr ⟨_, rfl⟩⟩⟩
  | lst ys =>
    simp only [view] at e
    cases e
    simp only [VRep] at h
    obtain ⟨a, vs, h1, h2, h3⟩ := h
    exact ⟨a, vs, h1, h3, .inl ⟨SqL.of (R.up _ _ h2), .inl ⟨_, rfl⟩⟩⟩
  | ref i =>
    cases e2 : view Z (.ref i) with
    | lst ys =>
      rw [e2] at e
      cases e
      obtain ⟨a, vs, h1, h2, h3⟩ := lst_at R h e2
      exact ⟨a, vs, h1, h3, .inl ⟨SqL.of h2, .inr ⟨i, rfl⟩⟩⟩
    | tup ys => exact absurd (tup_self R h e2) (by simp)
    | ctup ys =>
      rcases view_rep R h (fun xs z => by rw [e2] at z; cases z) (fun t ks xs z => by rw [e2] at z; cases z) with q | q
      · rw [e2] at q; cases q
      · rw [e2] at q; cases q
    | _ => rw [e2] at e; cases e
  | _ => simp [view] at e
theorem i_seq {tg x : Expr} {e : ME} (ha : PE X x (tE c X.K e)) : PI X tg x (tI c X.K .seq [e]) :=
  pi_weak (pi_seqLT ha) fun σ H Q ⟨pv, m, Z, G, ρ, R, E, h⟩ => by
    rw [evs_one] at h
    refine ⟨pv, m, Z, G, ρ, R, E, (h.bnd (rx := VRep c.W X.K)).mono fun x H1 ⟨d, m1, Z1, G1, R1, s1, r1, e1, h1⟩ => ?_⟩
    obtain ⟨as, m2, Z2, G2, xs, R2, s2, r2, e2, e3, q⟩ := Pst.here h1 R1 (b := [x]) (VReps.cons r1 VReps.nil)
    have ea : as = [d] ∧ Z2 = Z1 := by
      unfold bnd at e2
      rw [e1] at e2
      cases e2
      exact ⟨rfl, rfl⟩
    obtain ⟨rfl, rfl⟩ := ea
    obtain ⟨x', ex, r2'⟩ := r2.inv1
    cases ex
    obtain ⟨a, vs, rfl, k1, k2⟩ := seq_kind R2 r2' e3
    refine ⟨a, rfl, ?_⟩
    rcases k2 with ⟨k2, kk⟩ | ⟨k2, kk⟩
    · refine .inl ⟨⟨vs, k2⟩, q _ fun pv' m' Z' H' G' R' r' e' => ?_⟩
      obtain ⟨y, ey, r''⟩ := r'.inv1
      cases ey
      obtain ⟨a', vs', ea', l1, l2⟩ := seq_kind R' r'' e'
      cases ea'
      have l3 : SqL X.K H' a vs' := by
        rcases l2 with ⟨l2, _⟩ | ⟨_, z⟩
        · exact l2
        · rcases kk with ⟨_, rfl⟩ | ⟨_, rfl⟩ <;> rcases z with ⟨_, z⟩ | ⟨_, z⟩ <;> cases z
      have w := walk_list (K := X.K) (a := a) (xs := vs')
      have hl := l1.length
      refine ⟨fun i hi => w.goes i H' (by omega) l3, by rw [hl]; exact w.stops H' l3, fun i x H2 hi y => ?_⟩
      obtain ⟨rfl, y2⟩ := w.yields i H' x H2 (by omega) l3 y
      have hd : xs[i]? = some xs[i] := List.getElem?_eq_getElem hi
      obtain ⟨v, v1, v2⟩ := l1.get hd
      rw [y2] at v1
      cases v1
      exact ⟨_, G', hd, R', fun n => Stp.refl, v2⟩
    · refine .inr ⟨⟨vs, k2⟩, q _ fun pv' m' Z' H' G' R' r' e' => ?_⟩
      obtain ⟨y, ey, r''⟩ := r'.inv1
      cases ey
      obtain ⟨a', vs', ea', l1, l2⟩ := seq_kind R' r'' e'
      cases ea'
      have l3 : SqT X.K H' a vs' := by
        rcases l2 with ⟨_, z⟩ | ⟨l2, _⟩
        · rcases kk with ⟨_, rfl⟩ | ⟨_, rfl⟩ <;> rcases z with ⟨_, z⟩ | ⟨_, z⟩ <;> cases z
        · exact l2
      have w := walk_tup (K := X.K) (a := a) (xs := vs')
      have hl := l1.length
      refine ⟨fun i hi => w.goes i H' (by omega) l3, by rw [hl]; exact w.stops H' l3, fun i x H2 hi y => ?_⟩
      obtain ⟨rfl, y2⟩ := w.yields i H' x H2 (by omega) l3 y
      have hd : xs[i]? = some xs[i] := List.getElem?_eq_getElem hi
      obtain ⟨v, v1, v2⟩ := l1.get hd
      rw [y2] at v1
      cases v1
      exact ⟨_, G', hd, R', fun n => Stp.refl, v2⟩
/-! #### ranges -/
theorem rangeL_len : ∀ (a : Int) (n : Nat), (rangeL a n).length = n
  | _, 0 => rfl
  | a, n + 1 => by rw [rangeL, List.length_cons, rangeL_len]
theorem rangeL_get : ∀ (a : Int) (n i : Nat), i < n → (rangeL a n)[i]? = some (.int (a + i))
  | a, n + 1, 0, _ => by simp [rangeL]
  | a, n + 1, i + 1, h => by
    rw [rangeL, List.getElem?_cons_succ, rangeL_get (a + 1) n i (by omega)]
    congr 2
    omega
theorem itOk_range {K : PySem.W.Frag} {k : IK} {as : List D} {vs : List V} {a : Int} {n : Nat} : ItOk c K pv k as vs (rangeL a n) (Itr a n) := fun pv' m' Z' H' G' R' r' e' => by
  have w := walk_range (lo := a) (n := n)
  rw [rangeL_len]
  refine ⟨fun i hi => w.goes i H' hi trivial, w.stops H' trivial, fun i x H2 hi y => ?_⟩
  obtain ⟨rfl, rfl⟩ := w.yields i H' x H2 hi trivial y
  exact ⟨_, G', rangeL_get a n i hi, R', fun n => Stp.refl, by simp only [VRep]⟩
theorem noStar1 {x : Expr} {env : PySem.Env} (h : noStar x = true) : starEach [x] env = [(false, eval x env)] := noStar_of h
theorem i_rng1 {tg x : Expr} {e : ME} {p : Pos} (hg : Gl X "range") (hm : X.mg "range" = none) (hx : noStar x = true) (ha : PA X [x] (tA c X.K [e])) : PI X tg (.Call (.Name "range" p) [x] [] pos) (tI c X.K .rng [e]) :=
  pi_weak (pi_range1 hg hm ha (noStar1 hx)) fun σ H Q ⟨pv, m, Z, G, ρ, R, E, h⟩ => by
    refine ⟨pv, m, Z, G, ρ, R, E, h.mono fun vs H1 ⟨as, m2, Z2, G2, xs, R2, s2, r2, e2, e3, q⟩ => ?_⟩
    have hl := evs_length e2
    match as, hl with
    | [d], _ =>
      obtain ⟨y, rfl, r2'⟩ := r2.inv1
      cases d with
      | int j =>
        simp only [VRep] at r2'
        subst r2'
        simp only [iterOf] at e3
        split at e3
        · rename_i hc
          cases e3
          have : cap = 100000 := rfl
          exact ⟨j, rfl, by omega, by omega, q _ itOk_range⟩
        · cases e3
      | _ => simp [iterOf] at e3
theorem i_rng2 {tg x y : Expr} {e f : ME} {p : Pos} (hg : Gl X "range") (hm : X.mg "range" = none) (hx : noStar x = true) (hy : noStar y = true) (ha : PA X [x, y] (tA c X.K [e, f])) : PI X tg (.Call (.Name "range" p) [x, y] [] pos) (tI c X.K .rng [e, f]) :=
  pi_weak (pi_range2 hg hm ha (by rw [noStar_of hx, noStar1 hy]) (noStar1 hy)) fun σ H Q ⟨pv, m, Z, G, ρ, R, E, h⟩ => by
    refine ⟨pv, m, Z, G, ρ, R, E, h.mono fun vs H1 ⟨as, m2, Z2, G2, xs, R2, s2, r2, e2, e3, q⟩ => ?_⟩
    have hl := evs_length e2
    match as, hl with
    | [d, d'], _ =>
      obtain ⟨y, z, rfl, r2', r2''⟩ := r2.inv2
      cases d with
      | int i =>
        cases d' with
        | int j =>
          simp only [VRep] at r2' r2''
          subst r2' r2''
          simp only [iterOf] at e3
          split at e3
          · rename_i hc
            cases e3
            exact ⟨i, j, rfl, by omega, q _ itOk_range⟩
          · cases e3
        | _ => simp [iterOf] at e3
      | _ => simp [iterOf] at e3
/-! #### pairs -/
theorem Rel.pair {W : Wd} {K : PySem.W.Frag} {H2 : Hp} {T : Addr} {x y : V} {d e : D} (R : Rel W K pv m Z H G) (hT : H T = none) (h2 : H2 = upd H T (.tup [x, y])) (rx : VRep W K G m d x) (ry : VRep W K G m e y) :
    ∃ G', Rel W K pv m Z H2 G' ∧ (∀ n, Stp n pv m Z H G m Z H2 G') ∧ VRep W K G' m (.tup [d, e]) (.ref T) := by
  subst h2
  have e1 : Ex G (upd G T (.tup [x, y])) := Ex.new (R.fresh hT).1
  refine ⟨_, R.new hT no_tbl_tup, fun n => Stp.new R hT, ?_⟩
  simp only [VRep]
  exact ⟨T, _, rfl, upd_same, VReps.cons (VRep.mono e1 (fun _ _ h => h) _ _ rx) (VReps.cons (VRep.mono e1 (fun _ _ h => h) _ _ ry) VReps.nil)⟩
theorem enumL_len : ∀ (n : Nat) (xs : List D), (enumL n xs).length = xs.length
  | _, [] => rfl
  | n, x :: xs => by rw [enumL, List.length_cons, List.length_cons, enumL_len]
theorem enumL_get : ∀ (n i : Nat) (xs : List D) (d : D), xs[i]? = some d → (enumL n xs)[i]? = some (.tup [.int ((n + i : Nat) : Int), d])
  | _, _, [], _, h => by simp at h
  | n, 0, x :: xs, d, h => by simp at h; subst h; simp [enumL]
  | n, i + 1, x :: xs, d, h => by
    rw [enumL, List.getElem?_cons_succ, enumL_get (n + 1) i xs d (by simpa using h)]
    congr 5
    omega
theorem i_enum {x : Expr} {e : ME} {p tpos : Pos} {elts : List Expr} {kk : Nat} (hg : Gl X "enumerate") (hm : X.mg "enumerate" = none) (hx : noStar x = true) (ha : PA X [x] (tA c X.K [e])) : PI X (.Tuple elts kk tpos) (.Call (.Name "enumerate" p) [x] [] pos) (tI c X.K .enum [e]) :=
  pi_weak (pi_enum hg hm ha (noStar1 hx)) fun σ H Q ⟨pv, m, Z, G, ρ, R, E, h⟩ => by
    refine ⟨pv, m, Z, G, ρ, R, E, h.mono fun vs H1 ⟨as, m2, Z2, G2, xs, R2, s2, r2, e2, e3, q⟩ => ?_⟩
    have hl := evs_length e2
    match as, hl with
    | [d], _ =>
      obtain ⟨y, rfl, r2'⟩ := r2.inv1
      have e3' := e3
      simp only [iterOf] at e3
      split at e3
      · rename_i ys ev
        cases e3
        obtain ⟨a, vs, rfl, q1, q2⟩ := lst_at R2 r2' ev
        refine ⟨a, vs, rfl, SqL.of q1, q _ fun pv' m' Z' H' G' R' r' e' => ?_⟩
        obtain ⟨y, ey, r''⟩ := r'.inv1
        cases ey
        simp only [iterOf] at e'
        split at e'
        · rename_i zs ev'
          obtain ⟨a', vs', ea', l1, l2⟩ := lst_at R' r'' ev'
          cases ea'
          have w := walk_enum (K := X.K) (a := a) (xs := vs')
          have hl := l2.length
          have hz : (enumL 0 zs).length = zs.length := enumL_len 0 zs
          have ee : enumL 0 zs = enumL 0 ys := Option.some.inj e'
          rw [← ee, hz]
          refine ⟨fun i hi => w.goes i H' (by omega) (SqL.of l1), by rw [hl]; exact w.stops H' (SqL.of l1), fun i x H2 hi y => ?_⟩
          obtain ⟨T, x1, x2, rfl, t1, t2, t3, t4⟩ := w.yields i H' x H2 (by omega) (SqL.of l1) y
          have hd : zs[i]? = some zs[i] := List.getElem?_eq_getElem hi
          obtain ⟨v, v1, v2⟩ := l2.get hd
          have t5 : some v = some x2 := v1.symm.trans t4
          cases t5
          cases t3
          obtain ⟨G'', R'', st, rr⟩ := Rel.pair R' t1 t2 (d := .int ((i : Nat) : Int)) (by simp only [VRep]) v2
          exact ⟨_, G'', by rw [enumL_get 0 i zs _ hd, Nat.zero_add], R'', st, rr⟩
        · cases e'
      · cases e3
theorem zipL_len : ∀ (xs ys : List D), (zipL xs ys).length = min xs.length ys.length
  | [], _ => by simp [zipL]
  | _ :: _, [] => by simp [zipL]
  | x :: xs, y :: ys => by simp only [zipL, List.length_cons, zipL_len xs ys]; omega
theorem zipL_get : ∀ (i : Nat) (xs ys : List D) (d e : D), xs[i]? = some d → ys[i]? = some e → (zipL xs ys)[i]? = some (.tup [d, e])
  | _, [], _, _, _, h, _ => by simp at h
  | _, _ :: _, [], _, _, _, h => by simp at h
  | 0, x :: xs, y :: ys, d, e, h, h' => by simp at h h'; subst h h'; simp [zipL]
  | i + 1, x :: xs, y :: ys, d, e, h, h' => by
    rw [zipL, List.getElem?_cons_succ]
    exact zipL_get i xs ys d e (by simpa using h) (by simpa using h')
theorem zip_kind {W : Wd} {K : PySem.W.Frag} (R : Rel W K pv m Z H G) {d e : D} {x y : V} {xs : List D} (rx : VRep W K G m d x) (ry : VRep W K G m e y) (h : iterOf .zip [d, e] Z = some xs) :
    ∃ a b ds es vs us, x = .ref a ∧ y = .ref b ∧ xs = zipL ds es ∧ VReps W K G m ds vs ∧ VReps W K G m es us ∧ ((H a = some (.lst vs) ∧ H b = some (.lst us) ∧ ((∃ ys, d = .lst ys) ∨ ∃ i, d = .ref i)) ∨ (H a = some (.tup vs) ∧ H b = some (.tup us) ∧ ∃ ys, d = .tup ys)) := by
  simp only [iterOf] at h
  split at h
  · rename_i ds es e1 e2
    cases h
    obtain ⟨a, vs, rfl, q1, q2⟩ := tup_at R rx e1
    obtain ⟨b, us, rfl, q3, q4⟩ := tup_at R ry e2
    exact ⟨a, b, ds, es, vs, us, rfl, rfl, rfl, q2, q4, .inr ⟨q1, q3, ds, tup_self R rx e1⟩⟩
  · rename_i ds es e1 e2
    cases h
    obtain ⟨a, vs, rfl, q1, q2⟩ := lst_at R rx e1
    obtain ⟨b, us, rfl, q3, q4⟩ := lst_at R ry e2
    refine ⟨a, b, ds, es, vs, us, rfl, rfl, rfl, q2, q4, .inl ⟨q1, q3, ?_⟩⟩
    cases d with
    | lst ys => exact .inl ⟨ys, rfl⟩
    | ref i => exact .inr ⟨i, rfl⟩
    | _ => simp [view] at e1
  · cases h
theorem walk_zipT {K : PySem.W.Frag} {a b : Addr} {xs ys : List V} {n : Nat} (hn : n = min xs.length ys.length) : Walk (RZ.ItzT K a b) n (fun H => SqT K H a xs ∧ SqT K H b ys) (YPair (fun i => xs[i]?) (fun i => ys[i]?)) := by
  subst hn
  refine ⟨fun i _ hi q => ?_, fun _ q => ⟨xs, ys, q.1, q.2, by omega⟩, fun i H v H' _ q y => ?_⟩
  · have h1 : i < xs.length := by omega
    have h2 : i < ys.length := by omega
    exact ⟨xs, ys, xs[i], ys[i], q.1, q.2, by simp [h1], by simp [h2]⟩
  · obtain ⟨T, x, z, h1, h2, h3, h4, h5⟩ := y
    exact ⟨T, x, z, h1, h2, h3, h4 xs q.1, h5 ys q.2⟩
theorem i_zip {x y : Expr} {e f : ME} {p tpos : Pos} {elts : List Expr} {kk : Nat} (hg : Gl X "zip") (hm : X.mg "zip" = none) (hx : noStar x = true) (hy : noStar y = true) (ha : PA X [x, y] (tA c X.K [e, f])) :
    PI X (.Tuple elts kk tpos) (.Call (.Name "zip" p) [x, y] [] pos) (tI c X.K .zip [e, f]) :=
  pi_weak (RZ.pi_zipA hg hm ha (noStar_of hx) (by rw [noStar1 hy]; rfl)) fun σ H Q ⟨pv, m, Z, G, ρ, R, E, h⟩ => by
    refine ⟨pv, m, Z, G, ρ, R, E, h.mono fun vs H1 ⟨as, m2, Z2, G2, xs, R2, s2, r2, e2, e3, q⟩ => ?_⟩
    have hl := evs_length e2
    match as, hl with
    | [d, d'], _ =>
      obtain ⟨y, z, rfl, ra, rb⟩ := r2.inv2
      obtain ⟨a, b, ds, es, vs, us, rfl, rfl, rfl, q1, q2, q3⟩ := zip_kind R2 ra rb e3
      refine ⟨a, b, vs, us, rfl, ?_⟩
      rcases q3 with ⟨q3, q4, kk⟩ | ⟨q3, q4, kk⟩
      · refine .inl ⟨SqL.of q3, SqL.of q4, q _ fun pv' m' Z' H' G' R' r' e' => ?_⟩
        obtain ⟨y, z, ey, ra', rb'⟩ := r'.inv2
        cases ey
        obtain ⟨a', b', ds', es', vs', us', ea, eb, ee, l1, l2, l3⟩ := zip_kind R' ra' rb' e'
        cases ea
        cases eb
        have l4 : H' a = some (.lst vs') ∧ H' b = some (.lst us') := by
          rcases l3 with ⟨l3, l4, _⟩ | ⟨_, _, z⟩
          · exact ⟨l3, l4⟩
          · rcases kk with ⟨_, rfl⟩ | ⟨_, rfl⟩ <;> (obtain ⟨_, z⟩ := z; cases z)
        have h1 := l1.length
        have h2 := l2.length
        have w := walk_zip (K := X.K) (a := a) (b := b) (xs := vs') (ys := us') rfl
        have hlen : (zipL ds es).length = min vs'.length us'.length := by rw [ee, zipL_len]; omega
        have g : SqL X.K H' a vs' ∧ SqL X.K H' b us' := ⟨SqL.of l4.1, SqL.of l4.2⟩
        rw [hlen]
        refine ⟨fun i hi => w.goes i H' hi g, w.stops H' g, fun i x H2 hi y => ?_⟩
        obtain ⟨T, x1, x2, rfl, t1, t2, t3, t4⟩ := w.yields i H' x H2 hi g y
        have hd : ds'[i]? = some ds'[i] := List.getElem?_eq_getElem (by omega)
        have he : es'[i]? = some es'[i] := List.getElem?_eq_getElem (by omega)
        obtain ⟨v, v1, v2⟩ := l1.get hd
        obtain ⟨u, u1, u2⟩ := l2.get he
        have t5 : some v = some x1 := v1.symm.trans t3
        have t6 : some u = some x2 := u1.symm.trans t4
        cases t5
        cases t6
        obtain ⟨G'', R'', st, rr⟩ := Rel.pair R' t1 t2 v2 u2
        exact ⟨_, G'', by rw [ee]; exact zipL_get i _ _ _ _ hd he, R'', st, rr⟩
      · refine .inr ⟨SqT.of q3, SqT.of q4, q _ fun pv' m' Z' H' G' R' r' e' => ?_⟩
        obtain ⟨y, z, ey, ra', rb'⟩ := r'.inv2
        cases ey
        obtain ⟨a', b', ds', es', vs', us', ea, eb, ee, l1, l2, l3⟩ := zip_kind R' ra' rb' e'
        cases ea
        cases eb
        have l4 : H' a = some (.tup vs') ∧ H' b = some (.tup us') := by
          rcases l3 with ⟨_, _, z⟩ | ⟨l3, l4, _⟩
          · obtain ⟨_, rfl⟩ := kk
            rcases z with ⟨_, z⟩ | ⟨_, z⟩ <;> cases z
          · exact ⟨l3, l4⟩
        have h1 := l1.length
        have h2 := l2.length
        have w := walk_zipT (K := X.K) (a := a) (b := b) (xs := vs') (ys := us') rfl
        have hlen : (zipL ds es).length = min vs'.length us'.length := by rw [ee, zipL_len]; omega
        have g : SqT X.K H' a vs' ∧ SqT X.K H' b us' := ⟨SqT.of l4.1, SqT.of l4.2⟩
        rw [hlen]
        refine ⟨fun i hi => w.goes i H' hi g, w.stops H' g, fun i x H2 hi y => ?_⟩
        obtain ⟨T, x1, x2, rfl, t1, t2, t3, t4⟩ := w.yields i H' x H2 hi g y
        have hd : ds'[i]? = some ds'[i] := List.getElem?_eq_getElem (by omega)
        have he : es'[i]? = some es'[i] := List.getElem?_eq_getElem (by omega)
        obtain ⟨v, v1, v2⟩ := l1.get hd
        obtain ⟨u, u1, u2⟩ := l2.get he
        have t5 : some v = some x1 := v1.symm.trans t3
        have t6 : some u = some x2 := u1.symm.trans t4
        cases t5
        cases t6
        obtain ⟨G'', R'', st, rr⟩ := Rel.pair R' t1 t2 v2 u2
        exact ⟨_, G'', by rw [ee]; exact zipL_get i _ _ _ _ hd he, R'', st, rr⟩
end
end Fw
end
section
set_option Elab.async false
set_option linter.all false
set_option maxRecDepth 100000
set_option maxHeartbeats 1000000
/-! Fw.Sound: list comprehensions, changed objects -/
namespace Fw
open PySem PySem.Spec PyProof.Rows L2
/-- within a comprehension: no error, no function that was handed in -/
abbrev Cf.inn (c : Cf) : Cf := { c with Wx := fun _ _ _ _ => False, cl := none }
theorem D.beqs_iff {a b : List D} (h : D.beqs a b = true) : a = b := D.beqs_eq a b h
theorem view_noref {d : D} (h : isRef d = false) (Z Z' : Sto) : view Z d = view Z' d := by
  cases d <;> first | rfl | (simp [isRef] at h)
theorem iterOf_noref {k : IK} : ∀ {as : List D}, as.any isRef = false → ∀ Z Z' : Sto, iterOf k as Z = iterOf k as Z' := fun {as} h Z Z' => by
  cases k with
  | rng => cases as with
    | nil => rfl
    | cons a as => cases as with
      | nil => cases a <;> rfl
      | cons b as => cases as with
        | nil => cases a <;> cases b <;> rfl
        | cons _ _ => cases a <;> cases b <;> rfl
  | seq => cases as with
    | nil => rfl
    | cons a as => cases as with
      | nil =>
        simp only [List.any_cons, List.any_nil, Bool.or_false] at h
        simp only [iterOf, view_noref h Z Z']
      | cons _ _ => rfl
  | enum => cases as with
    | nil => rfl
    | cons a as => cases as with
      | nil =>
        simp only [List.any_cons, List.any_nil, Bool.or_false] at h
        simp only [iterOf, view_noref h Z Z']
      | cons _ _ => rfl
  | zip => cases as with
    | nil => rfl
    | cons a as => cases as with
      | nil => rfl
      | cons b as => cases as with
        | nil =>
          simp only [List.any_cons, List.any_nil, Bool.or_false, Bool.or_eq_false_iff] at h
          simp only [iterOf, view_noref h.1 Z Z', view_noref h.2 Z Z']
        | cons _ _ => rfl
  | items => cases as with
    | nil => rfl
    | cons a as => cases as <;> rfl
theorem stays_iter {k : IK} {as xs : List D} {Z Z' : Sto} (h : iterOf k as Z = some xs) (hs : stays k as xs Z' = true) : iterOf k as Z' = some xs := by
  unfold stays at hs
  rw [Bool.or_eq_true] at hs
  rcases hs with hs | hs
  · rw [← h]
    exact iterOf_noref (by simpa using hs) Z' Z
  · cases e : iterOf k as Z' with
    | none => rw [e] at hs; cases hs
    | some ys =>
      rw [e] at hs
      rw [D.beqs_iff hs]
section
variable {X : Cx} {c : Cf} {σ : L2.St} {pv m : List Addr} {Z : Sto} {H G : Hp} {ρ : Env} {pos p2 : Pos}
theorem Pst.okI {W : Wd} {K : PySem.W.Frag} {n : Nat} {Wx : WX} {α β : Type} {rep : Hp → List Addr → α → β → Prop} {r : R α} {a : α} {Z' : Sto} {Q : β → Hp → Prop} (e : r = .ok a Z')
    (h : ∀ b m' H' G', Rel W K pv m' Z' H' G' → Stp n pv m Z H G m' Z' H' G' → rep G' m' a b → Q b H') : Pst W K n Wx σ pv m Z H G rep r Q := by
  subst e; exact h
theorem bnd0_ok {α β : Type} {x : M α} {f : α → M β} {Z Z' : Sto} {b : β} (h : bnd0 x f Z = .ok b Z') : ∃ a Z1, x Z = .ok a Z1 ∧ f a Z1 = .ok b Z' := by
  unfold bnd0 at h
  cases e : x Z with
  | ok a Z1 => rw [e] at h; exact ⟨a, Z1, rfl, h⟩
  | exc _ _ => rw [e] at h; cases h
  | stuck => rw [e] at h; cases h
theorem PstF.bnd0 {W : Wd} {K : PySem.W.Frag} {n : Nat} {Wx : WX} {α β : Type} {x : M α} {f : α → M β} {g : β → M D} {Q : VK} (h : PstF W K n Wx σ pv m Z H G (Fw.bnd (Fw.bnd0 x f) g Z) Q) :
    ∃ a Z1, x Z = .ok a Z1 ∧ PstF W K n Wx σ pv m Z H G (Fw.bnd (f a) g Z1) Q := by
  unfold Fw.bnd Fw.bnd0 at h
  cases e : x Z with
  | ok a Z1 => rw [e] at h; exact ⟨a, Z1, rfl, h⟩
  | exc _ _ => rw [e] at h; exact h.elim
  | stuck => rw [e] at h; exact h.elim
theorem Rel.less {W : Wd} {K : PySem.W.Frag} {D : Addr} (R : Rel W K (D :: pv) m Z H G) : Rel W K pv m Z H G :=
  ⟨R.len, R.inj, fun a o e => let ⟨h1, h2, h3⟩ := R.sub a o e; ⟨h1, fun z => h2 (List.mem_cons_of_mem _ z), h3⟩, R.obj, fun a h z => R.npv a h (List.mem_cons_of_mem _ z), fun a h => R.pvt a (List.mem_cons_of_mem _ h), R.tabs⟩
theorem Stp.less {n : Nat} {m' : List Addr} {Z' : Sto} {H' G' : Hp} {D : Addr} (s : Stp n (D :: pv) m Z H G m' Z' H' G') : Stp n pv m Z H G m' Z' H' G' :=
  ⟨s.pre, s.ex, fun a h => s.pvk a (List.mem_cons_of_mem _ h), s.low⟩
/-- a list in the making -/
theorem Rel.priv {W : Wd} {K : PySem.W.Frag} {D : Addr} {o : HO} (R : Rel W K pv m Z H G) (hD : H D = none) (ho : DatO o) : Rel W K (D :: pv) m Z (upd H D o) G := by
  obtain ⟨hG, hpv, hl⟩ := R.fresh hD
  have up : ∀ a u, H a = some u → upd H D o a = some u := fun a u e => by rw [upd_ne (ne_of_none e hD)]; exact e
  refine ⟨R.len, R.inj, fun a u e => ?_, fun i d a e1 e2 => (R.obj i d a e1 e2).mono (Ex.refl _) (fun _ _ h => h) (up a), fun a h z => ?_, fun a h => ?_, R.tabs.ext up⟩
  · obtain ⟨q1, q2, q3⟩ := R.sub a u e
    refine ⟨up a u q1, fun z => ?_, q3⟩
    rcases List.mem_cons.mp z with z | z
    · subst z; rw [hG] at e; cases e
    · exact q2 z
  · rcases List.mem_cons.mp z with z | z
    · subst z; exact hl h
    · exact R.npv a h z
  · rcases List.mem_cons.mp h with z | z
    · subst z; rw [upd_same]; exact ⟨o, rfl, ho⟩
    · have ha : a ≠ D := fun e => hpv (e ▸ z)
      rw [upd_ne ha]; exact R.pvt a z
theorem Stp.priv {W : Wd} {K : PySem.W.Frag} {n : Nat} {D : Addr} {o : HO} (R : Rel W K pv m Z H G) (hD : H D = none) : Stp n pv m Z H G m Z (upd H D o) G := by
  obtain ⟨hG, hpv, hl⟩ := R.fresh hD
  exact ⟨⟨[], by simp⟩, Ex.refl _, fun a h => upd_ne fun z => hpv (z ▸ h), fun _ _ h => h⟩
/-- data that changes is no table -/
theorem tabs_upd {T : List (Addr × PySem.Str)} {H : Hp} {D : Addr} {o u : HO} (h : LamX.Tabs T H) (hD : H D = some u) (hu : DatO u) : LamX.Tabs T (upd H D o) := fun p hp => by
  obtain ⟨ps, h1, h2, h3⟩ := h p hp
  refine ⟨ps, ?_, h2, fun pos cv hc => ?_⟩
  · have : p.1 ≠ D := fun z => by rw [z, hD] at h1; exact hu.no_tbl ps (Option.some.inj h1)
    rw [upd_ne this]; exact h1
  · obtain ⟨a, e1, e2⟩ := h3 pos cv hc
    refine ⟨a, e1, ?_⟩
    have : a ≠ D := fun z => by
      rw [z, hD] at e2
      have := Option.some.inj e2
      rcases hu with ⟨_, hu⟩ | ⟨_, hu⟩ | ⟨_, hu⟩ <;> (rw [hu] at this; cases this)
    rw [upd_ne this]; exact e2
theorem dat_lst {xs : List V} : DatO (.lst xs) := .inl ⟨xs, rfl⟩
/-- it grows -/
theorem Rel.grow {W : Wd} {K : PySem.W.Frag} {D : Addr} {o : HO} (R : Rel W K (D :: pv) m Z H G) (ho : DatO o) : Rel W K (D :: pv) m Z (upd H D o) G := by
  obtain ⟨u, hD, hu⟩ := R.pvt D List.mem_cons_self
  refine ⟨R.len, R.inj, fun a u e => ?_, fun i d a e1 e2 => ?_, R.npv, fun a h => ?_, tabs_upd R.tabs hD hu⟩
  · obtain ⟨q1, q2, q3⟩ := R.sub a u e
    have ha : a ≠ D := fun z => q2 (by rw [z]; exact List.mem_cons_self)
    exact ⟨by rw [upd_ne ha]; exact q1, q2, q3⟩
  · have q := R.obj i d a e1 e2
    have ha : a ≠ D := fun z => R.npv a ⟨i, d, e1, e2⟩ (by rw [z]; exact List.mem_cons_self)
    exact q.mono (Ex.refl _) (fun _ _ h => h) fun o e => by rw [upd_ne ha]; exact e
  · by_cases ha : a = D
    · subst ha; rw [upd_same]; exact ⟨o, rfl, ho⟩
    · rw [upd_ne ha]; exact R.pvt a h
theorem wipe_get {σ : L2.St} : ∀ {vs : List Nat} {i : Nat}, i ∈ vs → (L2.wipe σ vs)[i]? = if i < σ.length then some none else none
  | [], _, h => by simp at h
  | v :: vs, i, h => by
    unfold L2.wipe
    by_cases hi : v = i
    · subst hi
      by_cases hv : v < σ.length
      · rw [List.getElem?_set_self (by rw [wipe_length]; exact hv), if_pos hv]
      · rw [List.getElem?_eq_none (by simp [wipe_length]; omega), if_neg hv]
    · rw [List.getElem?_set_ne hi]
      rcases List.mem_cons.mp h with z | z
      · exact absurd z.symm hi
      · exact wipe_get z
theorem wipe_eq {σ σ2 : L2.St} {vs : List Nat} (hl : σ2.length = (L2.wipe σ vs).length) (h : ∀ i, i ∉ vs → σ2[i]? = (L2.wipe σ vs)[i]?) : L2.wipe σ2 vs = L2.wipe σ vs := by
  rw [wipe_length] at hl
  apply List.ext_getElem?
  intro i
  by_cases hi : i ∈ vs
  · rw [wipe_get hi, wipe_get hi, hl]
  · rw [wipe_out hi, h i hi]
/-- the tests of a comprehension -/
def tC (c : Cf) (K : PySem.W.Frag) (cs : List ME) : TT := fun σ H Q => ∃ pv m Z G ρ, Rel c.W K pv m Z H G ∧ ERel c K G m ρ σ ∧ Pst c.W K c.n c.Wx σ pv m Z H G repEq (evC c.F c.F2 c.cl cs c.n ρ Z) Q
theorem pts_weak {X : Cx} {e : List Expr} {t t' : TT} (h : PTs X e t) (w : ∀ σ H Q, t' σ H Q → t σ H Q) : PTs X e t' := ⟨fun pins s σ H Q I q => h.run pins s σ H Q I (w σ H Q q)⟩
theorem c_nil : PTs X [] (tC c X.K []) := pts_weak pts_nil fun σ H Q ⟨pv, m, Z, G, ρ, R, E, h⟩ => by
  simp only [evC, ret] at h
  exact okT h R
theorem c_one {a : ME} {x : Expr} (ha : PT X x (tT c X.K a)) : PTs X [x] (tC c X.K [a]) := pts_weak (pts_one ha) fun σ H Q ⟨pv, m, Z, G, ρ, R, E, h⟩ => by
  simp only [evC] at h
  refine ⟨pv, m, Z, G, ρ, R, E, (h.bnd (rx := repEq)).mono fun k H1 ⟨d, m1, Z1, G1, R1, s1, r1, e1, h1⟩ => ?_⟩
  cases r1
  cases k with
  | true => exact okT h1 R1
  | false => exact okT h1 R1
theorem loop_step {W : Wd} {K : PySem.W.Frag} {n : Nat} {Wx : WX} {st : Sto → Bool} {f : D → M (Option D)} {x : D} {xs : List D} {g : List D → M D} {Q : VK} (h : PstF W K n Wx σ pv m Z H G (bnd (compLoop st f (x :: xs)) g Z) Q) :
    st Z = true ∧ ∃ o Zo, f x Z = .ok o Zo ∧ PstF W K n Wx σ pv m Z H G (bnd (compLoop st f xs) (fun r => g (match o with | some d => d :: r | none => r)) Zo) Q := by
  have e : compLoop st f (x :: xs) Z = if st Z then bnd0 (f x) (fun o => bnd0 (compLoop st f xs) fun r => ret (match o with | some d => d :: r | none => r)) Z else .stuck := rfl
  unfold bnd at h
  rw [e] at h
  cases hs : st Z with
  | false => rw [hs] at h; exact h.elim
  | true =>
    rw [hs, if_pos rfl] at h
    unfold bnd0 at h
    refine ⟨rfl, ?_⟩
    cases e1 : f x Z with
    | ok o Zo =>
      rw [e1] at h
      refine ⟨o, Zo, rfl, ?_⟩
      unfold bnd
      simp only at h
      cases e2 : compLoop st f xs Zo with
      | ok r Zr => rw [e2] at h; exact h
      | exc _ _ => rw [e2] at h; exact h.elim
      | stuck => rw [e2] at h; exact h
    | exc _ _ => rw [e1] at h; exact h.elim
    | stuck => rw [e1] at h; exact h.elim
theorem loop_nil {W : Wd} {K : PySem.W.Frag} {n : Nat} {Wx : WX} {st : Sto → Bool} {f : D → M (Option D)} {g : List D → M D} {Q : VK} (h : PstF W K n Wx σ pv m Z H G (bnd (compLoop st f []) g Z) Q) : st Z = true ∧ PstF W K n Wx σ pv m Z H G (g [] Z) Q := by
  have e : compLoop st f [] Z = if st Z then .ok [] Z else .stuck := rfl
  unfold bnd at h
  rw [e] at h
  cases hs : st Z with
  | false => rw [hs] at h; exact h.elim
  | true => rw [hs, if_pos rfl] at h; exact ⟨rfl, h⟩
/-- a turn of a comprehension -/
def compF (F F2 : FT) (t : MT) (cs : List ME) (e : ME) (n : Nat) (ρ : Env) : D → M (Option D) := fun x s => match asgT t x (wipeE t.slots ρ) s with
  | none => .stuck
  | some ρ' => bnd (evC F F2 none cs n ρ') (fun k => if k then bnd (ev F F2 none e n ρ') fun d => ret (some d) else ret none) s
theorem ev_comp {F F2 : FT} {cl : Option (List D → M D)} {t : MT} {k : IK} {es cs : List ME} {e : ME} {n : Nat} {ρ : Env} : ev F F2 cl (.comp t k es cs e) n ρ = bnd (evs F F2 cl es n ρ) fun as s => match iterOf k as s with
    | none => .stuck
    | some xs => if cap < xs.length then .stuck else bnd (compLoop (stays k as xs) (compF F F2 t cs e n ρ) xs) (fun r => ret (.lst r)) s := by
  simp only [ev]; rfl
theorem s_lcF {t : MT} {k : IK} {es cs : List ME} {e : ME} :
    ∀ σ H Q, tF c X.K (.comp t k es cs e) σ H Q → tLc (tI c X.K k es) (tG c.inn X.K t) (tC c.inn X.K cs) (tE c.inn X.K e) t.slots σ H Q := fun σ H Q ⟨pv, m, Z, G, ρ, R, E, h⟩ => by
  rw [ev_comp] at h
  refine ⟨pv, m, Z, G, ρ, R, E, (h.bnd (rx := VReps c.W X.K)).mono fun vs H1 ⟨as, m1, Z1, G1, R1, s1, r1, e1, h1⟩ => ?_⟩
  cases hit : iterOf k as Z1 with
  | none => rw [hit] at h1; exact h1.elim
  | some xs =>
    rw [hit] at h1
    simp only at h1
    refine ⟨as, m1, Z1, G1, xs, R1, s1, r1, e1, hit, fun J hJ L hD => ?_⟩
    by_cases hcap : cap < xs.length
    · rw [if_pos hcap] at h1; exact h1.elim
    rw [if_neg hcap] at h1
    have E1 := E.step s1
    obtain ⟨f, hf⟩ : ∃ f : D → M (Option D), f = compF c.F c.F2 t cs e c.n ρ := ⟨_, rfl⟩
    rw [← hf] at h1
    have hDp : L ∉ pv := (R1.fresh hD).2.1
    let I : Nat → Hp → Prop := fun i H' => i ≤ xs.length ∧ ∃ m' Z' G' acc accV, Rel c.W X.K (L :: pv) m' Z' H' G' ∧ VReps c.W X.K G' m' as vs ∧ ERel c X.K G' m' ρ σ ∧ H' L = some (.lst accV) ∧ VReps c.W X.K G' m' acc accV ∧ acc.length ≤ i ∧
      PstF c.W X.K c.n c.Wx σ pv m' Z' H' G' (bnd (compLoop (stays k as xs) f (xs.drop i)) (fun r => ret (.lst (acc ++ r))) Z') Q
    refine ⟨fun i mm H' => mm = xs.length - i ∧ I i H', ?_, ?_⟩
    · refine ⟨_, rfl, Nat.zero_le _, m1, Z1, G1, [], [], R1.priv hD dat_lst, r1, E1, upd_same, VReps.nil, Nat.le_refl _, ?_⟩
      rw [List.drop_zero]
      simp only [List.nil_append]
      exact h1.later (Stp.priv R1 hD)
    · rintro i mm H' ⟨rfl, hi, m', Z', G', acc, accV, R', ra, E', hDl, rac, hac, h'⟩
      by_cases hlt : i < xs.length
      · have hdrop : xs.drop i = xs[i] :: xs.drop (i + 1) := List.drop_eq_getElem_cons hlt
        rw [hdrop] at h'
        obtain ⟨hst, o, Zo, ho, h3⟩ := loop_step h'
        have hit' := stays_iter hit hst
        obtain ⟨g1, g2, g3⟩ := hJ (L :: pv) m' Z' H' G' R' ra hit'
        refine .inr ⟨g1 i hlt, I (i + 1), fun H'' q => ⟨xs.length - (i + 1), by omega, rfl, q⟩, fun x H'' hy => ?_⟩
        obtain ⟨d, G'', hd, R'', st2, rd⟩ := g3 i x H'' hlt hy
        have hdx : xs[i]? = some xs[i] := List.getElem?_eq_getElem hlt
        rw [hdx] at hd
        cases hd
        rw [hf] at ho
        simp only [compF] at ho
        cases ha : asgT t xs[i] (wipeE t.slots ρ) Z' with
        | none => rw [ha] at ho; cases ho
        | some ρ' =>
          rw [ha] at ho
          simp only at ho
          obtain ⟨b, Zb, hb, ho⟩ := bnd_ok ho
          have stn := st2 c.n
          have Ew : ERel c.inn X.K G'' m' (wipeE t.slots ρ) (L2.wipe σ t.slots) := by
            have := (E'.step stn).wipe t.slots
            exact ⟨this.len, this.at_, this.known, this.up, this.upl⟩
          refine ⟨L :: pv, m', Z', G'', wipeE t.slots ρ, xs[i], ρ', R'', Ew, rd, ha, fun σ2 E2 hl2 hk2 => ⟨wipe_eq hl2 hk2, L :: pv, m', Z', G'', ρ', R'', E2, Pst.okI hb fun b' m2 H2 G2 R2 s2 eb => ?_⟩⟩
          cases eb
          have stA := stn.trans s2
          cases b with
          | false =>
            simp only [Bool.false_eq_true, if_false] at ho ⊢
            cases ho
            have hD2 : H2 L = some (.lst accV) := by rw [stA.pvk L List.mem_cons_self]; exact hDl
            exact ⟨hlt, m2, _, G2, acc, accV, R2, stA.reps ra, E'.step stA, hD2, stA.reps rac, by omega, PstF.later (m := m') (Z := Z') (H := H') (G := G') h3 stA.less⟩
          | true =>
            simp only [if_true] at ho ⊢
            obtain ⟨d, Zd, hd, ho⟩ := bnd_ok ho
            cases ho
            refine ⟨L :: pv, m2, Zb, G2, ρ', R2, E2.step s2, Pst.okI hd fun y m3 H3 G3 R3 s3 ry => ?_⟩
            have stB := stA.trans s3
            have hD3 : H3 L = some (.lst accV) := by rw [stB.pvk L List.mem_cons_self]; exact hDl
            have rac3 := stB.reps rac
            have hsz : accV.length < sizeLine := by
              have q1 := rac.length
              have q2 : cap = 100000 := rfl
              rw [sizeLine_eq]
              omega
            refine ⟨accV, hD3, hsz, hlt, m3, _, G3, acc ++ [d], accV ++ [y], R3.grow dat_lst, stB.reps ra, E'.step stB, upd_same, rac3.append (VReps.cons ry VReps.nil), by simp; omega, ?_⟩
            have stC : Stp c.n pv m' Z' H' G' m3 Zo (upd H3 L (.lst (accV ++ [y]))) G3 := ⟨stB.pre, stB.ex, fun a ha' => by
              have hne : a ≠ L := fun z => hDp (z ▸ ha')
              rw [upd_ne hne]
              exact stB.pvk a (List.mem_cons_of_mem _ ha'), stB.low⟩
            have h4 := PstF.later (m := m') (Z := Z') (H := H') (G := G') h3 stC
            simp only [List.append_assoc, List.singleton_append]
            exact h4
      · have e : i = xs.length := by omega
        subst e
        rw [List.drop_length] at h'
        obtain ⟨hst, h'⟩ := loop_nil h'
        have hit' := stays_iter hit hst
        obtain ⟨g1, g2, g3⟩ := hJ (L :: pv) m' Z' H' G' R' ra hit'
        refine .inl ⟨g2, ?_⟩
        simp only [ret, List.append_nil] at h'
        refine h' _ m' H' G' R'.less Stp.refl ⟨L, rfl, ?_, hDp, fun z => R'.npv L z List.mem_cons_self, accV, hDl, rac⟩
        cases hG : G' L with
        | none => rfl
        | some o => exact absurd List.mem_cons_self (R'.sub L o hG).2.1
/-! ### changed objects -/
theorem lowr_of {W : Wd} {K : PySem.W.Frag} (R : Rel W K pv m Z H G) {i : Nat} {d : D} (e : Z[i]? = some (some d)) : D.lowr m.length d := by
  have hi : i < m.length := by rw [R.len]; exact (List.getElem?_eq_some_iff.mp e).1
  have q := R.obj i d m[i] e (List.getElem?_eq_getElem hi)
  cases d with
  | lst ds =>
    obtain ⟨vs, _, r⟩ := q
    simp only [D.lowr]
    exact VReps.below _ _ r
  | dct t ks ds =>
    simp only [D.lowr]
    rcases q with ⟨ns, vs, _, rfl, _, r, _⟩ | ⟨ns, vs, _, rfl, _, r, _⟩
    · exact ⟨below_ints _ _, VReps.below _ _ r⟩
    · exact ⟨below_tups _ _, VReps.below _ _ r⟩
  | _ => exact q.elim
mutual
theorem D.lowr_mono {k n : Nat} (h : k ≤ n) : ∀ d : D, D.lowr k d → D.lowr n d
  | .non, _ => by simp [D.lowr]
  | .bl _, _ => by simp [D.lowr]
  | .int _, _ => by simp [D.lowr]
  | .str _, _ => by simp [D.lowr]
  | .tup xs, e => by simp only [D.lowr] at e ⊢; exact D.lows_mono h xs e
  | .lst xs, e => by simp only [D.lowr] at e ⊢; exact D.lows_mono h xs e
  | .obj xs, e => by simp only [D.lowr] at e ⊢; exact D.lows_mono h xs e
  | .ctup xs, e => by simp only [D.lowr] at e ⊢; exact D.lows_mono h xs e
  | .dct _ a b, e => by simp only [D.lowr] at e ⊢; exact ⟨D.lows_mono h a e.1, D.lows_mono h b e.2⟩
  | .set _, _ => by simp [D.lowr]
  | .scr _, _ => by simp [D.lowr]
  | .fn _, _ => by simp [D.lowr]
  | .clo, e => by simp [D.lowr] at e
  | .ref i, e => by simp only [D.lowr] at e ⊢; omega
theorem D.lows_mono {k n : Nat} (h : k ≤ n) : ∀ ds : List D, D.lows k ds → D.lows n ds
  | [], _ => by simp [D.lows]
  | x :: xs, e => by simp only [D.lows] at e ⊢; exact ⟨D.lowr_mono h x e.1, D.lows_mono h xs e.2⟩
end
/-- a new object of the store -/
theorem Rel.push {W : Wd} {K : PySem.W.Frag} {n : Nat} {v : V} {d : D} (R : Rel W K pv m Z H G) (f : FRep W K pv m Z H G v d) (hd : (∃ xs, d = .lst xs) ∨ ∃ t ks xs, d = .dct t ks xs) :
    ∃ p, v = .ref p ∧ Rel W K pv (m ++ [p]) (Z ++ [some d]) H G ∧ Stp n pv m Z H G (m ++ [p]) (Z ++ [some d]) H G := by
  obtain ⟨p, ev, hG, hpv, hl, hO⟩ : ∃ p, v = .ref p ∧ G p = none ∧ p ∉ pv ∧ ¬ Live Z m p ∧ ORep W K G m H p d := by
    rcases hd with ⟨xs, rfl⟩ | ⟨t, ks, xs, rfl⟩ <;> exact f
  have hlen := R.len
  have hm : ∀ (i : Nat) (a : Addr), m[i]? = some a → (m ++ [p])[i]? = some a := fun i a e => by
    rw [List.getElem?_append_left (List.getElem?_eq_some_iff.mp e).1]; exact e
  have live' : ∀ a, Live (Z ++ [some d]) (m ++ [p]) a → Live Z m a ∨ a = p := fun a ⟨i, e, h1, h2⟩ => by
    by_cases hi : i < Z.length
    · rw [List.getElem?_append_left hi] at h1
      rw [List.getElem?_append_left (by omega)] at h2
      exact .inl ⟨i, e, h1, h2⟩
    · have hi2 : i < (Z ++ [some d]).length := (List.getElem?_eq_some_iff.mp h1).1
      simp at hi2
      have : i = m.length := by omega
      subst this
      rw [List.getElem?_append_right (Nat.le_refl _)] at h2
      simp at h2
      exact .inr h2.symm
  have hat : ∀ (i : Nat) (e : D), (Z ++ [some d])[i]? = some (some e) → (i < Z.length ∧ Z[i]? = some (some e)) ∨ (i = Z.length ∧ e = d) := fun i e h1 => by
    by_cases hi : i < Z.length
    · rw [List.getElem?_append_left hi] at h1; exact .inl ⟨hi, h1⟩
    · have hi2 : i < (Z ++ [some d]).length := (List.getElem?_eq_some_iff.mp h1).1
      simp at hi2
      have : i = Z.length := by omega
      subst this
      rw [List.getElem?_append_right (Nat.le_refl _)] at h1
      simp at h1
      exact .inr ⟨rfl, h1.symm⟩
  refine ⟨p, ev, ⟨by simp [hlen], fun i j a d1 d2 h1 h2 h3 h4 => ?_, fun a o e => ?_, fun i e a h1 h2 => ?_, fun a h => ?_, R.pvt, R.tabs⟩, ⟨⟨[p], rfl⟩, Ex.refl _, fun _ _ => rfl, fun k hk hL i e hi h1 => ?_⟩⟩
  · rcases hat i d1 h1 with ⟨i1, h1⟩ | ⟨rfl, e1⟩ <;> rcases hat j d2 h2 with ⟨j1, h2⟩ | ⟨rfl, e2⟩
    · rw [List.getElem?_append_left (by omega)] at h3 h4
      exact R.inj i j a d1 d2 h1 h2 h3 h4
    · rw [List.getElem?_append_left (by omega)] at h3
      rw [← hlen, List.getElem?_append_right (Nat.le_refl _)] at h4
      simp at h4
      subst h4
      exact absurd ⟨i, d1, h1, h3⟩ hl
    · rw [List.getElem?_append_left (by omega)] at h4
      rw [← hlen, List.getElem?_append_right (Nat.le_refl _)] at h3
      simp at h3
      subst h3
      exact absurd ⟨j, d2, h2, h4⟩ hl
    · rfl
  · obtain ⟨q1, q2, q3, q4⟩ := R.sub a o e
    refine ⟨q1, q2, fun z => ?_, q4⟩
    rcases live' a z with z | z
    · exact q3 z
    · subst z; rw [hG] at e; cases e
  · rcases hat i e h1 with ⟨i1, h1⟩ | ⟨rfl, rfl⟩
    · rw [List.getElem?_append_left (by omega)] at h2
      exact (R.obj i e a h1 h2).mono (Ex.refl _) hm fun _ h => h
    · rw [← hlen, List.getElem?_append_right (Nat.le_refl _)] at h2
      simp at h2
      subst h2
      exact hO.mono (Ex.refl _) hm fun _ h => h
  · rcases live' a h with z | z
    · exact R.npv a z
    · subst z; exact hpv
  · rcases hat i e h1 with ⟨i1, h1⟩ | ⟨rfl, rfl⟩
    · exact hL i e hi h1
    · refine D.lowr_mono (k := m.length) (by omega) _ ?_
      cases e with
      | lst ds =>
        obtain ⟨vs, _, r⟩ := hO
        simp only [D.lowr]
        exact VReps.below _ _ r
      | dct t ks ds =>
        simp only [D.lowr]
        rcases hO with ⟨ns, vs, _, rfl, _, r, _⟩ | ⟨ns, vs, _, rfl, _, r, _⟩
        · exact ⟨below_ints _ _, VReps.below _ _ r⟩
        · exact ⟨below_tups _ _, VReps.below _ _ r⟩
      | _ => exact hO.elim
end
end Fw
end
section
set_option Elab.async false
set_option linter.all false
set_option maxRecDepth 100000
set_option maxHeartbeats 1000000
/-! Fw.Sound: changed objects, calls -/
namespace Fw
open PySem PySem.Spec PyProof.Rows L2
section
variable {X : Cx} {c : Cf} {σ : L2.St} {pv m : List Addr} {Z : Sto} {H G : Hp} {ρ : Env} {pos p2 : Pos}
/-- a new list or dict becomes a changed object -/
theorem newr_w {e : ME} {K : PySem.W.Frag} : ∀ σ H Q, tE c K (.newr e) σ H Q → tF c K e σ H Q := fun σ H Q ⟨pv, m, Z, G, ρ, R, E, h⟩ => by
  refine ⟨pv, m, Z, G, ρ, R, E, ?_⟩
  simp only [ev] at h
  unfold bnd at h
  unfold PstF
  cases e1 : ev c.F c.F2 c.cl e c.n ρ Z with
  | ok d Z' =>
    rw [e1] at h
    simp only at h ⊢
    intro v m' H' G' R' s' f
    cases d with
    | lst xs =>
      obtain ⟨p, ev, R2, s2⟩ := R'.push (n := c.n) f (.inl ⟨xs, rfl⟩)
      refine h v _ H' G' R2 (s'.trans s2) ?_
      simp only [VRep]
      exact ⟨p, ev, by rw [← R'.len, List.getElem?_append_right (Nat.le_refl _)]; simp⟩
    | dct t ks xs =>
      obtain ⟨p, ev, R2, s2⟩ := R'.push (n := c.n) f (.inr ⟨t, ks, xs, rfl⟩)
      refine h v _ H' G' R2 (s'.trans s2) ?_
      simp only [VRep]
      exact ⟨p, ev, by rw [← R'.len, List.getElem?_append_right (Nat.le_refl _)]; simp⟩
    | _ => exact h.elim
  | exc k Z' => rw [e1] at h; exact h
  | stuck => rw [e1] at h; exact h.elim
theorem s_newr {e : ME} {x : Expr} (ha : PE X x (tF c X.K e)) : PE X x (tE c X.K (.newr e)) := pe_weak ha newr_w
theorem toF_w {e : ME} {K : PySem.W.Frag} : ∀ σ H Q, tE c K e σ H Q → tF c K e σ H Q := fun σ H Q ⟨pv, m, Z, G, ρ, R, E, h⟩ => ⟨pv, m, Z, G, ρ, R, E, h.toF⟩
/-- an object is done: it does not change any more -/
theorem Rel.frz {W : Wd} {K : PySem.W.Frag} {n j : Nat} {d : D} {a : Addr} (R : Rel W K pv m Z H G) (hz : Z[j]? = some (some d)) (ha : m[j]? = some a) :
    ∃ G', Rel W K pv m (Z.set j none) H G' ∧ Stp n pv m Z H G m (Z.set j none) H G' ∧ VRep W K G' m d (.ref a) := by
  have hj : j < Z.length := (List.getElem?_eq_some_iff.mp hz).1
  have q := R.obj j d a hz ha
  have hl : Live Z m a := ⟨j, d, hz, ha⟩
  have hG : G a = none := by
    cases e : G a with
    | none => rfl
    | some o => exact absurd hl (R.sub a o e).2.2.1
  have at' : ∀ (i : Nat) (e : D), (Z.set j none)[i]? = some (some e) → i ≠ j ∧ Z[i]? = some (some e) := fun i e h => by
    by_cases hij : j = i
    · subst hij
      rw [List.getElem?_set_self hj] at h; cases h
    · rw [List.getElem?_set_ne hij] at h
      exact ⟨fun z => hij z.symm, h⟩
  have base : Rel W K pv m (Z.set j none) H G := ⟨by simp [R.len], fun i k b d e h1 h2 h3 h4 => R.inj i k b d e (at' i d h1).2 (at' k e h2).2 h3 h4, fun b o e => by
      obtain ⟨q1, q2, q3, q4⟩ := R.sub b o e
      exact ⟨q1, q2, fun ⟨i, d, h1, h2⟩ => q3 ⟨i, d, (at' i d h1).2, h2⟩, q4⟩,
    fun i d b h1 h2 => R.obj i d b (at' i d h1).2 h2, fun b ⟨i, d, h1, h2⟩ => R.npv b ⟨i, d, (at' i d h1).2, h2⟩, R.pvt, R.tabs⟩
  have nl : ¬ Live (Z.set j none) m a := fun ⟨i, e, h1, h2⟩ => by
    obtain ⟨hij, h1⟩ := at' i e h1
    exact hij (R.inj i j a e d h1 hz h2 ha)
  have st : ∀ G', Ex G G' → Stp n pv m Z H G m (Z.set j none) H G' := fun G' e => ⟨⟨[], by simp⟩, e, fun _ _ => rfl, fun k _ hL i d hi h1 => hL i d hi (at' i d h1).2⟩
  cases d with
  | lst ds =>
    obtain ⟨vs, h1, h2⟩ := q
    refine ⟨upd G a (.lst vs), base.add h1 hG (R.npv a hl) nl no_tbl_lst, st _ (Ex.new hG), ?_⟩
    simp only [VRep]
    exact ⟨a, vs, rfl, upd_same, VReps.mono (Ex.new hG) (fun _ _ h => h) _ _ h2⟩
  | dct t ks ds =>
    rcases q with ⟨ns, vs, q0, q1, q2, q3, q4⟩ | ⟨ns, vs, q0, q1, q2, q3, q4⟩
    · refine ⟨_, base.add q2 hG (R.npv a hl) nl (fun _ z => nomatch z), st _ (Ex.new hG), ?_⟩
      simp only [VRep]
      exact ⟨a, rfl, .inl ⟨ns, vs, q0, q1, upd_same, VReps.mono (Ex.new hG) (fun _ _ h => h) _ _ q3, q4⟩⟩
    · refine ⟨_, base.add q2 hG (R.npv a hl) nl (fun _ z => nomatch z), st _ (Ex.new hG), ?_⟩
      simp only [VRep]
      exact ⟨a, rfl, .inr ⟨ns, vs, q0, q1, upd_same, VReps.mono (Ex.new hG) (fun _ _ h => h) _ _ q3, q4⟩⟩
  | _ => exact q.elim
theorem s_frz {i : Nat} {x : PySem.Str} (hN : X.N[i]? = some x) (hv : Vis X.env.scope x) (hd : (x == ("__debug__" : PySem.Str)) = false) (hcd : (x == ("__classdict__" : PySem.Str)) = false) : PE X (.Name x pos) (tE c X.K (.frz i)) :=
  pe_weak (pe_var hN hv hd hcd) fun σ H Q ⟨pv, m, Z, G, ρ, R, E, h⟩ => by
    simp only [ev] at h
    cases e : ρ[i]? with
    | none => rw [e] at h; exact h.elim
    | some o =>
      cases o with
      | none => rw [e] at h; exact h.elim
      | some d =>
        rw [e] at h
        cases d with
        | ref j =>
          rcases E.at_ i _ e with ⟨z, _⟩ | ⟨v, e1, r⟩
          · cases z
          · simp only [VRep] at r
            obtain ⟨a, rfl, ha⟩ := r
            refine ⟨_, e1, ?_⟩
            by_cases hn : c.n ≤ j
            · cases hz : Z[j]? with
              | none => simp only [if_pos hn, hz] at h; exact h.elim
              | some o =>
                cases o with
                | none => simp only [if_pos hn, hz] at h; exact h.elim
                | some d =>
                  simp only [if_pos hn, hz] at h
                  obtain ⟨G', R', s', r'⟩ := R.frz (n := c.n) hz ha
                  exact h _ m H G' R' s' r'
            · simp only [if_neg hn] at h; exact h.elim
        | _ => exact h.elim
/-! ### calls -/
/-- what a call of f does, by F -/
def SpF (W : Wd) (K : PySem.W.Frag) (F : FT) (f : Nat) : Sp := fun vs H Q E => ∃ pv m Z G ds, Rel W K pv m Z H G ∧ VReps W K G m ds vs ∧ ds.length = (W.ps f).length ∧ (match F f ds none Z with
  | .ok d Z' => ∀ v H' G', Rel W K pv m Z' H' G' → Stp Z.length pv m Z H G m Z' H' G' → (if W.fresh f then FRep W K pv m Z' H' G' v d else VRep W K G' m d v) → Q v H'
  | .exc k Z' => ∀ H' G', Rel W K pv m Z' H' G' → Stp Z.length pv m Z H G m Z' H' G' → E (.ref (W.cls k)) none H'
  | .stuck => False)
/-- every def runs so -/
structure FnsOk (W : Wd) (X : Cx) (F : FT) : Prop where
  run : ∀ f, (W.prg f).isSome = true → ∃ k, FnOk X.prog X.w X.K X.mg X.base (L2.CX X.prog X.w) k (W.fA f) (W.fD f) (W.ps f) (SpF W X.K F f) ∧ Room k X.A
  keep : ∀ f, (W.prg f).isSome = true → PySem.W.keepIn X.K (.ref (W.fA f)) = true
  binds : ∀ f, (W.prg f).isSome = true → Binds X.K (W.fD f) (W.ps f) []
  gone : ∀ f ds cl Z, W.prg f = none → F f ds cl Z = .stuck
  len : ∀ f ds cl Z, F f ds cl Z ≠ .stuck → ds.length = (W.ps f).length
theorem Stp.any {W : Wd} {K : PySem.W.Frag} {n k : Nat} {Z' : Sto} {H' G' : Hp} (s : Stp Z.length pv m Z H G m Z' H' G') (R : Rel W K pv m Z H G) (R' : Rel W K pv m Z' H' G') : Stp n pv m Z H G m Z' H' G' :=
  ⟨s.pre, s.ex, s.pvk, fun k hk hL => by
    by_cases h : k ≤ Z.length
    · exact s.low k h hL
    · intro i d hi e
      refine D.lowr_mono (k := m.length) (by rw [R.len]; omega) d (lowr_of R' e)⟩
/-- from a call's end to what follows -/
theorem sp_of {W : Wd} {K : PySem.W.Frag} {F : FT} {f n : Nat} {Wx : WX} {vs : List V} {ds : List D} {Q : VK} (R : Rel W K pv m Z H G) (r : VReps W K G m ds vs) (hl : F f ds none Z ≠ .stuck → ds.length = (W.ps f).length)
    (h : if W.fresh f then PstF W K n Wx σ pv m Z H G (F f ds none Z) Q else Pst W K n Wx σ pv m Z H G (VRep W K) (F f ds none Z) Q) : SpF W K F f vs H Q (WE Wx σ) := by
  refine ⟨pv, m, Z, G, ds, R, r, ?_, ?_⟩
  · refine hl fun z => ?_
    rw [z] at h
    split at h <;> exact h
  · cases e : F f ds none Z with
    | ok d Z' =>
      rw [e] at h
      intro v H' G' R' s' rp
      split at h
      · rename_i hf
        rw [hf, if_pos rfl] at rp
        exact h v m H' G' R' (s'.any (k := 0) R R') rp
      · rename_i hf
        rw [if_neg hf] at rp
        exact h v m H' G' R' (s'.any (k := 0) R R') rp
    | exc k Z' =>
      rw [e] at h
      intro H' G' R' s'
      split at h
      · exact h m H' G' R' (s'.any (k := 0) R R')
      · exact h m H' G' R' (s'.any (k := 0) R R')
    | stuck =>
      rw [e] at h
      split at h <;> exact h
/-- a call, by values -/
theorem run_call {W : Wd} {F : FT} {Wx : WX} {f n : Nat} {pins : List (Addr × Obj)} {s : Shared} {us : List Value} {vs : List V} {ds : List D} {Q : VK} (O : FnsOk W X F) (tk : L2.Takes X Wx) (I : Inv X pins σ H s) (r : Vals vs us) (R : Rel W X.K pv m Z H G) (rv : VReps W X.K G m ds vs)
    (h : if W.fresh f then PstF W X.K n Wx σ pv m Z H G (F f ds none Z) Q else Pst W X.K n Wx σ pv m Z H G (VRep W X.K) (F f ds none Z) Q) : wpAny (model X.prog X.w) X.A (call (.ref (W.fA f)) us) (EP X pins σ Q) X.xe s := by
  cases hp : W.prg f with
  | none =>
    rw [O.gone f ds none Z hp] at h
    split at h <;> exact h.elim
  | some fd =>
    have hs : (W.prg f).isSome = true := by rw [hp]; rfl
    obtain ⟨k, Fo, hr⟩ := O.run f hs
    exact run_fnS Fo hr (O.binds f hs) (passAt tk σ) I r (sp_of R rv (O.len f ds none Z) h)
def noStarsB (es : List Expr) : Bool := es.all noStar
theorem backTo_stars {pos : Pos} {env : PySem.Env} : ∀ {es : List Expr}, noStarsB es = true → (backTo pos (starEach es env)).any (·.1) = false
  | [], _ => rfl
  | e :: es, h => by
    simp only [noStarsB, List.all_cons, Bool.and_eq_true] at h
    rw [noStar_of h.1]
    show ((false, eval e env) :: backTo pos (starEach es env)).any (·.1) = false
    rw [List.any_cons, backTo_stars (es := es) h.2]
    rfl
/-- evaluated arguments, then a call -/
def tCa (c : Cf) (K : PySem.W.Frag) (f : Nat) (es : List ME) : TE := fun σ H Q => tA c K es σ H fun vs H1 => ∃ pv m Z G ds, Rel c.W K pv m Z H1 G ∧ VReps c.W K G m ds vs ∧
  (if c.W.fresh f then PstF c.W K c.n c.Wx σ pv m Z H1 G (c.F f ds none Z) Q else Pst c.W K c.n c.Wx σ pv m Z H1 G (VRep c.W K) (c.F f ds none Z) Q)
theorem ca_of {f : Nat} {es : List ME} {K : PySem.W.Frag} {Q : VK} (h : if c.W.fresh f then tF c K (.call f es) σ H Q else tE c K (.call f es) σ H Q) : tCa c K f es σ H Q := by
  split at h
  · rename_i hf
    obtain ⟨pv, m, Z, G, ρ, R, E, h⟩ := h
    simp only [ev] at h
    refine ⟨pv, m, Z, G, ρ, R, E, (h.bnd (rx := VReps c.W K)).mono fun vs H1 ⟨ds, m1, Z1, G1, R1, s1, r1, _, h1⟩ => ⟨pv, m1, Z1, G1, ds, R1, r1, ?_⟩⟩
    rw [if_pos hf]; exact h1
  · rename_i hf
    obtain ⟨pv, m, Z, G, ρ, R, E, h⟩ := h
    simp only [ev] at h
    refine ⟨pv, m, Z, G, ρ, R, E, (h.bnd (rx := VReps c.W K)).mono fun vs H1 ⟨ds, m1, Z1, G1, R1, s1, r1, _, h1⟩ => ⟨pv, m1, Z1, G1, ds, R1, r1, ?_⟩⟩
    rw [if_neg hf]; exact h1
theorem s_callA {f : Nat} {es : List ME} {x : PySem.Str} {a : Expr} {as : List Expr} {p : Pos} (O : FnsOk c.W X c.F) (tk : L2.Takes X c.Wx) (hg : Gl X x) (hm : X.mg x = some (.ref (c.W.fA f))) (hp : (c.W.prg f).isSome = true) (hdb : (x == ("__debug__" : PySem.Str)) = false)
    (hs : noStarsB (a :: as) = true) (ha : PA X (a :: as) (tA c X.K es)) : PE X (.Call (.Name x p) (a :: as) [] pos) (tCa c X.K f es) := by
  have hs' := hs
  simp only [noStarsB, List.all_cons, Bool.and_eq_true] at hs'
  refine ⟨fun pins s σ H Q I h => ?_⟩
  refine wpAny_Call_Name_kw (ld_glob I hg hm ?_ hdb)
  refine PySem.W.callWith_K (h₀ := X.base) I.ok.mod.kin (O.keep f hp) (thn (ha.run pos pins s σ H _ I h) fun us s1 ⟨vs, H1, I1, r, pv, m, Z, G, ds, R, rv, q⟩ => ⟨I1.kIn, ?_⟩) (noStar_of hs'.1) (backTo_stars hs'.2)
  exact run_call O tk I1 r R rv q
theorem s_call0 {f : Nat} {x : PySem.Str} {p : Pos} (O : FnsOk c.W X c.F) (tk : L2.Takes X c.Wx) (hg : Gl X x) (hm : X.mg x = some (.ref (c.W.fA f))) (hp : (c.W.prg f).isSome = true) (hdb : (x == ("__debug__" : PySem.Str)) = false) :
    PE X (.Call (.Name x p) [] [] pos) (tCa c X.K f []) := by
  refine ⟨fun pins s σ H Q I h => ?_⟩
  refine wpAny_Call_Name_kw (ld_glob I hg hm ?_ hdb)
  obtain ⟨pv, m, Z, G, ρ, R, E, h⟩ := h
  simp only [evs, ret] at h
  obtain ⟨pv, m, Z, G, ds, R1, rv, q⟩ := h [] m H G R Stp.refl VReps.nil
  exact PySem.W.callWith_K0 I.kIn (O.keep f hp) (run_call (us := []) O tk I .nil R1 rv q)
theorem s_call {f : Nat} {es : List ME} {e : Expr} (hf : c.W.fresh f = false) (h : PE X e (tCa c X.K f es)) : PE X e (tE c X.K (.call f es)) := pe_weak h fun σ H Q q => ca_of (by rw [hf]; exact q)
theorem s_callF {f : Nat} {es : List ME} {e : Expr} (hf : c.W.fresh f = true) (h : PE X e (tCa c X.K f es)) : PE X e (tF c X.K (.call f es)) := pe_weak h fun σ H Q q => ca_of (by rw [hf]; exact q)
/-- a def that stands in a name is called -/
theorem s_callv {i : Nat} {es : List ME} {x : PySem.Str} {a : Expr} {as : List Expr} {p : Pos} (O : FnsOk c.W X c.F) (tk : L2.Takes X c.Wx) (hN : X.N[i]? = some x) (hv : Vis X.env.scope x) (hdb : (x == ("__debug__" : PySem.Str)) = false) (hcd : (x == ("__classdict__" : PySem.Str)) = false)
    (hs : noStarsB (a :: as) = true) (ha : PA X (a :: as) (tA c X.K es)) : PE X (.Call (.Name x p) (a :: as) [] pos) (tE c X.K (.callv (.var i) es)) := by
  have hs' := hs
  simp only [noStarsB, List.all_cons, Bool.and_eq_true] at hs'
  refine ⟨fun pins s σ H Q I ⟨pv, m, Z, G, ρ, R, E, h⟩ => ?_⟩
  simp only [ev] at h
  cases e : ρ[i]? with
  | none => rw [e] at h; exact h.elim
  | some o =>
    cases o with
    | none => rw [e] at h; exact h.elim
    | some d =>
      rw [e] at h
      rcases E.at_ i d e with ⟨rfl, _⟩ | ⟨v, e1, r⟩
      · exact h.elim
      · cases d with
        | fn f =>
          have h2 : Pst c.W X.K c.n c.Wx σ pv m Z H G (VRep c.W X.K) (bnd (evs c.F c.F2 c.cl es c.n ρ) (fun xs => c.F f xs none) Z) Q := h
          simp only [VRep] at r
          obtain ⟨rfl, hp⟩ := r
          refine wpAny_Call_Name_kw (thn ((pe_var (pos := p) (i := i) hN hv hdb hcd).run pins s σ H (fun v H1 => v = .ref (c.W.fA f) ∧ H1 = H) I ⟨_, e1, rfl, rfl⟩) fun u s1 ⟨v, H1, I1, r1, ev, eH⟩ => ?_)
          subst ev
          rw [eH] at I1
          cases r1
          have q := h2.bnd (rx := VReps c.W X.K)
          refine PySem.W.callWith_K (h₀ := X.base) I.ok.mod.kin (O.keep f hp) (thn (ha.run pos pins s1 σ H _ I1 ⟨pv, m, Z, G, ρ, R, E, q⟩) fun us s2 ⟨vs, H2, I2, r, ds, m2, Z2, G2, R2, s2', rv, _, q2⟩ => ⟨I2.kIn, ?_⟩) (noStar_of hs'.1) (backTo_stars hs'.2)
          refine run_call (n := c.n) O tk I2 r R2 rv ?_
          split
          · exact q2.toF
          · exact q2
        | _ => exact h.elim
end
end Fw
end
section
set_option Elab.async false
set_option linter.all false
set_option maxRecDepth 100000
set_option maxHeartbeats 1000000
/-! Fw.Sound: statements -/
namespace Fw
open PySem PySem.Spec PyProof.Rows L2
/-- what follows a statement -/
def PstS (c : Cf) (K : PySem.W.Frag) (pv m : List Addr) (Z : Sto) (H G : Hp) (r : R Fl) (D : Ends) : Prop := match r with
  | .ok (.nx ρ') Z' => ∀ σ' m' H' G', Rel c.W K pv m' Z' H' G' → Stp c.n pv m Z H G m' Z' H' G' → ERel c K G' m' ρ' σ' → D.nx σ' H'
  | .ok (.bk ρ') Z' => ∀ σ' m' H' G', Rel c.W K pv m' Z' H' G' → Stp c.n pv m Z H G m' Z' H' G' → ERel c K G' m' ρ' σ' → D.bk σ' H'
  | .ok (.rt d) Z' => ∀ v m' H' G', Rel c.W K pv m' Z' H' G' → Stp c.n pv m Z H G m' Z' H' G' → (if c.fr then FRep c.W K pv m' Z' H' G' v d else VRep c.W K G' m' d v) → D.rt v H'
  | .exc k Z' => ∀ σ' m' H' G', Rel c.W K pv m' Z' H' G' → Stp c.n pv m Z H G m' Z' H' G' → c.Wx (.ref (c.W.cls k)) none σ' H'
  | .stuck => False
def tS (c : Cf) (K : PySem.W.Frag) (s : MS) : TS := fun D σ H => ∃ pv m Z G ρ, Rel c.W K pv m Z H G ∧ ERel c K G m ρ σ ∧ PstS c K pv m Z H G (ex c.F c.F2 c.cl s c.n ρ Z) D
def tSs (c : Cf) (K : PySem.W.Frag) (s : List MS) : TS := fun D σ H => ∃ pv m Z G ρ, Rel c.W K pv m Z H G ∧ ERel c K G m ρ σ ∧ PstS c K pv m Z H G (exs c.F c.F2 c.cl s c.n ρ Z) D
section
variable {X : Cx} {c : Cf} {σ : L2.St} {pv m : List Addr} {Z : Sto} {H G : Hp} {ρ : Env} {pos p2 : Pos}
theorem PstS.later {K : PySem.W.Frag} {m' : List Addr} {Z' : Sto} {H' G' : Hp} {r : R Fl} {D : Ends} (h : PstS c K pv m Z H G r D) (s : Stp c.n pv m Z H G m' Z' H' G') : PstS c K pv m' Z' H' G' r D := by
  unfold PstS at h ⊢
  split
  · exact fun σ' m' H' G' a b' e => h σ' m' H' G' a (s.trans b') e
  · exact fun σ' m' H' G' a b' e => h σ' m' H' G' a (s.trans b') e
  · exact fun v m' H' G' a b' e => h v m' H' G' a (s.trans b') e
  · exact fun σ' m' H' G' a b' => h σ' m' H' G' a (s.trans b')
  · exact h
theorem PstS.bnd {K : PySem.W.Frag} {α β : Type} {x : M α} {f : α → M Fl} {rx : Hp → List Addr → α → β → Prop} {D : Ends} (h : PstS c K pv m Z H G (Fw.bnd x f Z) D) :
    Pst c.W K c.n c.Wx σ pv m Z H G rx (x Z) (fun b H1 => ∃ a m1 Z1 G1, Rel c.W K pv m1 Z1 H1 G1 ∧ Stp c.n pv m Z H G m1 Z1 H1 G1 ∧ rx G1 m1 a b ∧ x Z = .ok a Z1 ∧ PstS c K pv m1 Z1 H1 G1 (f a Z1) D) := by
  unfold Fw.bnd at h
  cases e : x Z with
  | ok a Z' =>
    rw [e] at h
    exact fun b m' H' G' R s1 rp => ⟨a, m', Z', G', R, s1, rp, rfl, h.later s1⟩
  | exc k Z' =>
    rw [e] at h
    exact fun m' H' G' R s1 => h σ m' H' G' R s1
  | stuck =>
    rw [e] at h
    exact h
/-! ### a block -/
theorem ss_nil : PSs X [] (tSs c X.K []) := pss_weak pss_nil fun D σ H ⟨pv, m, Z, G, ρ, R, E, h⟩ => by
  simp only [exs, ret] at h
  exact h σ m H G R Stp.refl E
theorem ss_cons {s : MS} {ss : List MS} {x : Stmt} {xs : List Stmt} (h1 : PS X x (tS c X.K s)) (h2 : PSs X xs (tSs c X.K ss)) : PSs X (x :: xs) (tSs c X.K (s :: ss)) :=
  pss_weak (pss_cons h1 h2) fun D σ H ⟨pv, m, Z, G, ρ, R, E, h⟩ => by
    simp only [exs] at h
    refine ⟨pv, m, Z, G, ρ, R, E, ?_⟩
    unfold bnd at h
    cases e : ex c.F c.F2 c.cl s c.n ρ Z with
    | ok fl Z' =>
      rw [e] at h
      cases fl with
      | nx ρ' => exact fun σ' m' H' G' R' s' E' => ⟨pv, m', Z', G', ρ', R', E', PstS.later h s'⟩
      | rt d => exact h
      | bk ρ' => exact h
    | exc k Z' => rw [e] at h; exact h
    | stuck => rw [e] at h; exact h
/-- a docstring ahead -/
theorem ss_doc {ss : List MS} {x : PySem.Str} {j : Nat} {xs : List Stmt} (h2 : PSs X xs (tSs c X.K ss)) : PSs X (.Expr (.Constant (.str x) j p2) pos :: xs) (tSs c X.K ss) :=
  pss_weak (pss_cons ps_doc h2) fun D σ H h => h
theorem s_pass : PS X (.Pass pos) (tS c X.K .pass) := ps_weak ps_pass fun D σ H ⟨pv, m, Z, G, ρ, R, E, h⟩ => by
  simp only [ex, ret] at h
  exact h σ m H G R Stp.refl E
theorem s_brk : PS X (.Break pos) (tS c X.K .brk) := ps_weak ps_break fun D σ H ⟨pv, m, Z, G, ρ, R, E, h⟩ => by
  simp only [ex, ret] at h
  exact h σ m H G R Stp.refl E
theorem s_never {x : Stmt} : PS X x (tS c X.K .never) := ps_weak ps_never fun D σ H ⟨pv, m, Z, G, ρ, R, E, h⟩ => by
  simp only [ex, stk] at h
  exact h
theorem swaps_none {e : Expr} {l : Nat} {env : PySem.Env} (h : (match e with | .ListComp _ _ _ _ => false | .SetComp _ _ _ _ => false | .DictComp _ _ _ _ _ => false | _ => true) = true) (t : Option Expr) : swapsWith e t l env = pure false := by
  cases e <;> first | rfl | (simp at h)
def noComp : Expr → Bool
  | .ListComp _ _ _ _ => false
  | .SetComp _ _ _ _ => false
  | .DictComp _ _ _ _ _ => false
  | _ => true
theorem swaps_no {e : Expr} {l : Nat} {env : PySem.Env} (h : noComp e = true) (t : Option Expr) : swapsWith e t l env = pure false := by
  cases e <;> first | rfl | (simp [noComp] at h)
theorem s_expr {e : ME} {x : Expr} (hn : noComp x = true) (ha : PE X x (tE c X.K e)) : PS X (.Expr x pos) (tS c X.K (.expr e)) :=
  ps_weak (ps_expr ha (swaps_no hn _)) fun D σ H ⟨pv, m, Z, G, ρ, R, E, h⟩ => by
    simp only [ex] at h
    exact ⟨pv, m, Z, G, ρ, R, E, (h.bnd (rx := VRep c.W X.K)).mono fun x H1 ⟨d, m1, Z1, G1, R1, s1, r1, _, h1⟩ => h1 σ m1 H1 G1 R1 Stp.refl (E.step s1)⟩
theorem s_retn {e : ME} {x : Expr} (hf : c.fr = false) (ha : PE X x (tE c X.K e)) : PS X (.Return (some x) pos) (tS c X.K (.retn e)) :=
  ps_weak (ps_ret ha) fun D σ H ⟨pv, m, Z, G, ρ, R, E, h⟩ => by
    simp only [ex] at h
    exact ⟨pv, m, Z, G, ρ, R, E, (h.bnd (rx := VRep c.W X.K)).mono fun x H1 ⟨d, m1, Z1, G1, R1, s1, r1, _, h1⟩ => h1 x m1 H1 G1 R1 Stp.refl (by rw [hf]; exact r1)⟩
theorem s_retnF {e : ME} {x : Expr} (hf : c.fr = true) (ha : PE X x (tF c X.K e)) : PS X (.Return (some x) pos) (tS c X.K (.retn e)) :=
  ps_weak (ps_ret ha) fun D σ H ⟨pv, m, Z, G, ρ, R, E, h⟩ => by
    simp only [ex] at h
    refine ⟨pv, m, Z, G, ρ, R, E, ?_⟩
    unfold bnd at h
    unfold PstF
    cases e1 : ev c.F c.F2 c.cl e c.n ρ Z with
    | ok d Z' =>
      rw [e1] at h
      intro v m' H' G' R' s' f
      exact h v m' H' G' R' s' (by rw [hf]; exact f)
    | exc k Z' => rw [e1] at h; exact fun m' H' G' R' s' => h σ m' H' G' R' s'
    | stuck => rw [e1] at h; exact h
theorem s_ifs {k : ME} {as bs : List MS} {x : Expr} {ys zs : List Stmt} (hk : PT X x (tT c X.K k)) (ha : PSs X ys (tSs c X.K as)) (hb : PSs X zs (tSs c X.K bs)) : PS X (.If x ys zs pos) (tS c X.K (.ifs k as bs)) :=
  ps_weak (ps_if hk ha hb) fun D σ H ⟨pv, m, Z, G, ρ, R, E, h⟩ => by
    simp only [ex] at h
    refine ⟨pv, m, Z, G, ρ, R, E, (h.bnd (rx := repEq)).mono fun k H1 ⟨d, m1, Z1, G1, R1, s1, r1, _, h1⟩ => ?_⟩
    cases r1
    cases k with
    | true => exact ⟨pv, m1, Z1, G1, ρ, R1, E.step s1, h1⟩
    | false => exact ⟨pv, m1, Z1, G1, ρ, R1, E.step s1, h1⟩
/-! ### assignments -/
theorem nx_of {K : PySem.W.Frag} {t : MT} {d : D} {v : V} {D : Ends} (R : Rel c.W K pv m Z H G) (E : ERel c K G m ρ σ) (r : VRep c.W K G m d v) (h : PstS c K pv m Z H G (match asgT t d ρ Z with | some ρ' => .ok (.nx ρ') Z | none => .stuck) D) : tG c K t v σ H D.nx := by
  cases e : asgT t d ρ Z with
  | none => rw [e] at h; exact h.elim
  | some ρ' =>
    rw [e] at h
    exact ⟨pv, m, Z, G, ρ, d, ρ', R, E, r, e, fun σ' E' _ _ => h σ' m H G R Stp.refl E'⟩
theorem asg_w {t : MT} {e : ME} {K : PySem.W.Frag} : ∀ D σ H, tS c K (.asg t e) D σ H → tAsg (tE c K e) (tG c K t) D σ H := fun D σ H ⟨pv, m, Z, G, ρ, R, E, h⟩ => by
  simp only [ex] at h
  exact ⟨pv, m, Z, G, ρ, R, E, (h.bnd (rx := VRep c.W K)).mono fun x H1 ⟨d, m1, Z1, G1, R1, s1, r1, _, h1⟩ => nx_of R1 (E.step s1) r1 h1⟩
/-- a name -/
theorem gName_w {i : Nat} {K : PySem.W.Frag} {v : V} {Q : L2.St → Hp → Prop} (h : tG c K (.nm i) v σ H Q) : gName i v σ H Q := by
  obtain ⟨pv, m, Z, G, ρ, d, ρ', R, E, r, h, q⟩ := h
  simp only [asgT] at h
  split at h
  · cases h
    refine q _ (E.set r) (by simp) fun j hj => ?_
    have : i ≠ j := fun z => hj (by simp [MT.slots, z])
    rw [List.getElem?_set_ne this]
  · cases h
theorem s_asgN {i : Nat} {e : ME} {y : PySem.Str} {x : Expr} {py : Pos} (hN : X.N.Nodup) (hi : X.N[i]? = some y) (hx : Loc X.env.scope y) (hf : X.fn y = true ∨ X.env.scope.names.lookup y = some .local) (ha : PE X x (tE c X.K e))
    (hs : swapsWith x (some (.Name y py)) pos.line X.env = pure false) : PS X (.Assign [.Name y py] x pos) (tS c X.K (.asg (.nm i) e)) :=
  ps_weak (ps_set hN hi hx ha hs hf) fun D σ H h => by
    obtain ⟨pv, m, Z, G, ρ, R, E, h⟩ := asg_w D σ H h
    exact ⟨pv, m, Z, G, ρ, R, E, h.mono fun x H1 q => gName_w q⟩
/-- a comprehension that stands on the name's line -/
theorem s_asgLc {i : Nat} {e : ME} {y : PySem.Str} {x : Expr} {py : Pos} {te : TE} (h : PS X (.Assign [.Name y py] x pos) (tAsg te (gName i))) (hw : ∀ σ H Q, tE c X.K e σ H Q → te σ H Q) : PS X (.Assign [.Name y py] x pos) (tS c X.K (.asg (.nm i) e)) :=
  ps_weak h fun D σ H h => by
    obtain ⟨pv, m, Z, G, ρ, R, E, h⟩ := asg_w D σ H h
    exact hw σ H _ ⟨pv, m, Z, G, ρ, R, E, h.mono fun x H1 q => gName_w q⟩
/-- several targets, whose stores do not change places -/
theorem s_asgT {t : MT} {e : ME} {x tg : Expr} (ha : PE X x (tE c X.K e)) (hg : PG X tg (tG c X.K t)) (hst : noStar tg = true) (hs : swapsWithSole [tg] x pos.line X.env = pure false) (hw : swappedStores [tg] x X.env = pure none) : PS X (.Assign [tg] x pos) (tS c X.K (.asg t e)) :=
  ps_weak (ps_asg ha hg hs hw (by rw [assignEach_cons hst]; rfl)) asg_w
theorem evs_two {F F2 : FT} {cl : Option (List D → M D)} {a b : ME} {n : Nat} {ρ : Env} {Z Z' : Sto} {ds : List D} (h : evs F F2 cl [a, b] n ρ Z = .ok ds Z') : ∃ d e, ds = [d, e] := by
  have := evs_length h
  match ds, this with
  | [d, e], _ => exact ⟨d, e, rfl⟩
/-- a, b = x, y, stored from the right -/
theorem s_par {i j : Nat} {a b : ME} {x y : PySem.Str} {u v : Expr} {px py pt : Pos} {kt k2 : Nat} {pt2 : Pos} (hc : X.calm = true) (hN : X.N.Nodup) (hi : X.N[i]? = some x) (hj : X.N[j]? = some y) (hij : i ≠ j)
    (hx : X.env.scope.names.lookup x = some .local) (hy : X.env.scope.names.lookup y = some .local) (ha : PA X [u, v] (tA c X.K [a, b]))
    (hw : swappedStores [.Tuple [.Name x px, .Name y py] kt pt] (.Tuple [u, v] k2 pt2) X.env = pure (some [x, y])) : PS X (.Assign [.Tuple [.Name x px, .Name y py] kt pt] (.Tuple [u, v] k2 pt2) pos) (tS c X.K (.asg (.tp [.nm i, .nm j]) (.tup [a, b]))) :=
  ps_weak (ps_par hc hN hi hj hij hx hy ha hw rfl) fun D σ H ⟨pv, m, Z, G, ρ, R, E, h⟩ => by
    simp only [ex, ev] at h
    refine ⟨pv, m, Z, G, ρ, R, E, ?_⟩
    have h' : PstS c X.K pv m Z H G (bnd (evs c.F c.F2 c.cl [a, b] c.n ρ) (fun xs s => match asgT (.tp [.nm i, .nm j]) (.tup xs) ρ s with | some ρ' => .ok (.nx ρ') s | none => .stuck) Z) D := by
      unfold bnd at h ⊢
      cases e : evs c.F c.F2 c.cl [a, b] c.n ρ Z with
      | ok ds Z1 => rw [e] at h; exact h
      | exc k Z1 => rw [e] at h; exact h
      | stuck => rw [e] at h; exact h
    refine (h'.bnd (rx := VReps c.W X.K)).mono fun xs H1 ⟨ds, m1, Z1, G1, R1, s1, r1, e1, h1⟩ => ?_
    obtain ⟨d, e, rfl⟩ := evs_two e1
    obtain ⟨p, q, rfl, rp, rq⟩ := r1.inv2
    refine ⟨p, q, rfl, ?_⟩
    simp only [asgT, asgTs] at h1
    by_cases hi' : i < ρ.length
    · by_cases hj' : j < (ρ.set i (some d)).length
      · simp only [if_pos hi', if_pos hj'] at h1
        exact h1 _ m1 H1 G1 R1 Stp.refl (((E.step s1).set rp).set rq)
      · simp only [if_pos hi', if_neg hj'] at h1; exact h1.elim
    · simp only [if_neg hi'] at h1; exact h1.elim
theorem evs_three {F F2 : FT} {cl : Option (List D → M D)} {a b d : ME} {n : Nat} {ρ : Env} {Z Z' : Sto} {ds : List D} (h : evs F F2 cl [a, b, d] n ρ Z = .ok ds Z') : ∃ d e f, ds = [d, e, f] := by
  have := evs_length h
  match ds, this with
  | [d, e, f], _ => exact ⟨d, e, f, rfl⟩
theorem s_par3 {i j l : Nat} {a b d : ME} {x y z : PySem.Str} {u v w : Expr} {px py pz pt : Pos} {kt k2 : Nat} {pt2 : Pos} (hc : X.calm = true) (hN : X.N.Nodup) (hi : X.N[i]? = some x) (hj : X.N[j]? = some y) (hl : X.N[l]? = some z) (hij : i ≠ j) (hil : i ≠ l) (hjl : j ≠ l)
    (hx : X.env.scope.names.lookup x = some .local) (hy : X.env.scope.names.lookup y = some .local) (hz : X.env.scope.names.lookup z = some .local) (ha : PA X [u, v, w] (tA c X.K [a, b, d]))
    (hw : swappedStores [.Tuple [.Name x px, .Name y py, .Name z pz] kt pt] (.Tuple [u, v, w] k2 pt2) X.env = pure (some [x, y, z])) : PS X (.Assign [.Tuple [.Name x px, .Name y py, .Name z pz] kt pt] (.Tuple [u, v, w] k2 pt2) pos) (tS c X.K (.asg (.tp [.nm i, .nm j, .nm l]) (.tup [a, b, d]))) :=
  ps_weak (ps_par3 hc hN hi hj hl hij hil hjl hx hy hz ha hw rfl) fun D σ H ⟨pv, m, Z, G, ρ, R, E, h⟩ => by
    simp only [ex, ev] at h
    refine ⟨pv, m, Z, G, ρ, R, E, ?_⟩
    have h' : PstS c X.K pv m Z H G (bnd (evs c.F c.F2 c.cl [a, b, d] c.n ρ) (fun xs s => match asgT (.tp [.nm i, .nm j, .nm l]) (.tup xs) ρ s with | some ρ' => .ok (.nx ρ') s | none => .stuck) Z) D := by
      unfold bnd at h ⊢
      cases e : evs c.F c.F2 c.cl [a, b, d] c.n ρ Z with
      | ok ds Z1 => rw [e] at h; exact h
      | exc k Z1 => rw [e] at h; exact h
      | stuck => rw [e] at h; exact h
    refine (h'.bnd (rx := VReps c.W X.K)).mono fun xs H1 ⟨ds, m1, Z1, G1, R1, s1, r1, e1, h1⟩ => ?_
    obtain ⟨d, e, f, rfl⟩ := evs_three e1
    obtain ⟨p, q, r, rfl, rp, rq, rr⟩ := r1.inv3
    refine ⟨p, q, r, rfl, ?_⟩
    simp only [asgT, asgTs] at h1
    by_cases hi' : i < ρ.length
    · by_cases hj' : j < (ρ.set i (some d)).length
      · by_cases hl' : l < ((ρ.set i (some d)).set j (some e)).length
        · simp only [if_pos hi', if_pos hj', if_pos hl'] at h1
          exact h1 _ m1 H1 G1 R1 Stp.refl ((((E.step s1).set rp).set rq).set rr)
        · simp only [if_pos hi', if_pos hj', if_neg hl'] at h1; exact h1.elim
      · simp only [if_pos hi', if_neg hj'] at h1; exact h1.elim
    · simp only [if_neg hi'] at h1; exact h1.elim
/-! ### errors -/
theorem s_raise {k : Nat} {x m' : PySem.Str} {C : Addr} {bmB : List Value} {B newId initId : String} {j : Nat} {p p3 p4 : Pos} (hc : X.calm = true) (tk : L2.Takes X c.Wx) (F : ExcBaseFacts B newId initId bmB) (q : PySem.W.excIn X.K C bmB newId = true) (gC : X.mg x = some (.ref C)) (kC : PySem.W.keepIn X.K (.ref C) = true) (r : L2.Raises X (.ref C)) (hg : Gl X x)
    (hC : C = c.W.cls k) (hdb : (x == ("__debug__" : PySem.Str)) = false) : PS X (.Raise (some (.Call (.Name x p) [.Constant (.str m') j p3] [] p4)) none pos) (tS c X.K (.raise k)) :=
  ps_weak (L2.ps_raise hc tk (L2.pmk_own F q gC kC r hg hdb)) fun D σ H ⟨pv, m, Z, G, ρ, R, E, h⟩ => by
    simp only [ex] at h
    subst hC
    exact h σ m H G R Stp.refl
/-! ### loops -/
theorem s_for {t : MT} {k : IK} {es : List ME} {body : List MS} {tg iter : Expr} {b : List Stmt} (hp : PassesOwn (model X.prog X.w) X.A X.env X.xe) (hc : X.calm = true) (hi : PI X tg iter (tI c X.K k es)) (hg : PG X tg (tG c X.K t)) (hb : PSs X b (tSs c X.K body)) (hs : noSetD iter = true) :
    PS X (.For tg iter b [] pos) (tS c X.K (.for t k es body)) :=
  ps_weak (ps_for hp hc hi hg hb (fun x => by cases iter <;> first | rfl | (simp [noSetD] at hs))) fun D σ H ⟨pv, m, Z, G, ρ, R, E, h⟩ => by
    simp only [ex] at h
    refine ⟨pv, m, Z, G, ρ, R, E, (h.bnd (rx := VReps c.W X.K)).mono fun vs H1 ⟨as, m1, Z1, G1, R1, s1, r1, e1, h1⟩ => ?_⟩
    cases hit : iterOf k as Z1 with
    | none => rw [hit] at h1; exact h1.elim
    | some xs =>
      rw [hit] at h1
      simp only at h1
      refine ⟨as, m1, Z1, G1, xs, R1, s1, r1, e1, hit, fun J hJ => ?_⟩
      have E1 := E.step s1
      obtain ⟨f, hf⟩ : ∃ f : Env → M Fl, f = (fun ρ => exs c.F c.F2 c.cl body c.n ρ) := ⟨_, rfl⟩
      rw [← hf] at h1
      let I : Nat → L2.St → Hp → Prop := fun i σ H' => i ≤ xs.length ∧ ∃ m' Z' G' ρ', Rel c.W X.K pv m' Z' H' G' ∧ VReps c.W X.K G' m' as vs ∧ ERel c X.K G' m' ρ' σ ∧
        PstS c X.K pv m' Z' H' G' (forLoop (stays k as xs) t f (xs.drop i) ρ' Z') D
      refine ⟨fun i mm σ H' => mm = xs.length - i ∧ I i σ H', ⟨_, rfl, Nat.zero_le _, m1, Z1, G1, ρ, R1, r1, E1, by rw [List.drop_zero]; exact h1⟩, ?_⟩
      rintro i mm σ' H' ⟨rfl, hi, m', Z', G', ρ', R', ra, E', h'⟩
      by_cases hlt : i < xs.length
      · have hdrop : xs.drop i = xs[i] :: xs.drop (i + 1) := List.drop_eq_getElem_cons hlt
        rw [hdrop] at h'
        simp only [forLoop] at h'
        by_cases hst : stays k as xs Z' = true
        · rw [if_pos hst] at h'
          have hit' := stays_iter hit hst
          obtain ⟨g1, g2, g3⟩ := hJ pv m' Z' H' G' R' ra hit'
          refine .inr ⟨g1 i hlt, I (i + 1), fun σ2 H'' q => ⟨xs.length - (i + 1), by omega, rfl, q⟩, fun x H'' hy => ?_⟩
          obtain ⟨d, G'', hd, R'', st2, rd⟩ := g3 i x H'' hlt hy
          have hdx : xs[i]? = some xs[i] := List.getElem?_eq_getElem hlt
          rw [hdx] at hd
          cases hd
          cases ha : asgT t xs[i] ρ' Z' with
          | none => rw [ha] at h'; exact h'.elim
          | some ρ'' =>
            rw [ha] at h'
            simp only at h'
            have stn := st2 c.n
            refine ⟨pv, m', Z', G'', ρ', xs[i], ρ'', R'', E'.step stn, rd, ha, fun σ2 E2 hl2 hk2 => ⟨pv, m', Z', G'', ρ'', R'', E2, ?_⟩⟩
            have h2 := PstS.later h' stn
            unfold bnd at h2
            have hfe : exs c.F c.F2 c.cl body c.n ρ'' Z' = f ρ'' Z' := by rw [hf]
            rw [hfe]
            cases e : f ρ'' Z' with
            | ok fl Z2 =>
              rw [e] at h2
              cases fl with
              | nx ρ3 =>
                intro σ3 m3 H3 G3 R3 s3 E3
                exact ⟨hlt, m3, Z2, G3, ρ3, R3, s3.reps (stn.reps ra), E3, PstS.later h2 s3⟩
              | bk ρ3 => exact h2
              | rt d => exact h2
            | exc k Z2 => rw [e] at h2; exact h2
            | stuck => rw [e] at h2; exact h2
        · rw [if_neg hst] at h'; exact h'.elim
      · have e : i = xs.length := by omega
        subst e
        rw [List.drop_length] at h'
        simp only [forLoop] at h'
        by_cases hst : stays k as xs Z' = true
        · rw [if_pos hst] at h'
          have hit' := stays_iter hit hst
          obtain ⟨g1, g2, g3⟩ := hJ pv m' Z' H' G' R' ra hit'
          exact .inl ⟨g2, h' σ' m' H' G' R' Stp.refl E'⟩
        · rw [if_neg hst] at h'; exact h'.elim
theorem s_while {n : Nat} {k : ME} {body : List MS} {x : Expr} {b : List Stmt} (hp : PassesOwn (model X.prog X.w) X.A X.env X.xe) (hk : PT X x (tT c X.K k)) (hb : PSs X b (tSs c X.K body)) : PS X (.While x b [] pos) (tS c X.K (.while n k body)) :=
  ps_weak (ps_while hp hk hb) fun D σ H ⟨pv, m, Z, G, ρ, R, E, h⟩ => by
    simp only [ex] at h
    obtain ⟨f, hf⟩ : ∃ f : Env → M Fl, f = (fun ρ => exs c.F c.F2 c.cl body c.n ρ) := ⟨_, rfl⟩
    obtain ⟨t, ht⟩ : ∃ f : Env → M Bool, f = (fun ρ => evT c.F c.F2 c.cl k c.n ρ) := ⟨_, rfl⟩
    rw [← hf, ← ht] at h
    let I : Nat → L2.St → Hp → Prop := fun i σ H' => ∃ m' Z' G' ρ', Rel c.W X.K pv m' Z' H' G' ∧ ERel c X.K G' m' ρ' σ ∧ PstS c X.K pv m' Z' H' G' (whileLoop t f i ρ' Z') D
    refine ⟨I, ⟨n, m, Z, G, ρ, R, E, h⟩, ?_⟩
    rintro i σ' H' ⟨m', Z', G', ρ', R', E', h'⟩
    cases i with
    | zero => simp only [whileLoop, stk] at h'; exact h'.elim
    | succ i =>
      simp only [whileLoop] at h'
      refine ⟨pv, m', Z', G', ρ', R', E', ?_⟩
      have hte : evT c.F c.F2 c.cl k c.n ρ' Z' = t ρ' Z' := by rw [ht]
      rw [hte]
      refine (h'.bnd (rx := repEq)).mono fun b H1 ⟨d, m1, Z1, G1, R1, s1, r1, _, h1⟩ => ?_
      cases r1
      cases b with
      | false =>
        simp only [Bool.false_eq_true, if_false] at h1 ⊢
        exact h1 σ' m1 H1 G1 R1 Stp.refl (E'.step s1)
      | true =>
        simp only [if_true] at h1 ⊢
        refine ⟨I i, fun σ2 H2 q => ⟨i, by omega, q⟩, pv, m1, Z1, G1, ρ', R1, E'.step s1, ?_⟩
        unfold bnd at h1
        have hfe : exs c.F c.F2 c.cl body c.n ρ' Z1 = f ρ' Z1 := by rw [hf]
        rw [hfe]
        cases e : f ρ' Z1 with
        | ok fl Z2 =>
          rw [e] at h1
          cases fl with
          | nx ρ3 =>
            intro σ3 m3 H3 G3 R3 s3 E3
            exact ⟨m3, Z2, G3, ρ3, R3, E3, PstS.later h1 s3⟩
          | bk ρ3 => exact h1
          | rt d => exact h1
        | exc k Z2 => rw [e] at h1; exact h1
        | stuck => rw [e] at h1; exact h1
end
end Fw
end
section
set_option Elab.async false
set_option linter.all false
set_option maxRecDepth 100000
set_option maxHeartbeats 1000000
/-! Fw.Sound: stores in objects -/
namespace Fw
open PySem PySem.Spec PyProof.Rows L2
/-! ### a dict takes a value -/
section
variable {κ : Type} [DecidableEq κ]
def putR : List (κ × V) → κ → V → List (κ × V)
  | [], k, v => [(k, v)]
  | p :: r, k, v => if p.1 = k then (p.1, v) :: r else p :: putR r k v
theorem putK_ne {p : κ × V} {r : List (κ × V)} {k : κ} {v : V} (h : ¬ p.1 = k) : putK (p :: r) k v = p :: putK r k v := by
  unfold putK
  have e : (List.any (p :: r) fun kv => decide (kv.1 = k)) = r.any fun kv => decide (kv.1 = k) := by
    rw [List.any_cons, decide_eq_false h, Bool.false_or]
  rw [e]
  by_cases a : (r.any fun kv => decide (kv.1 = k)) = true
  · rw [if_pos a, if_pos a, List.map_cons, if_neg h]
  · rw [if_neg a, if_neg a, List.cons_append]
theorem map_same {k : κ} {v : V} : ∀ {r : List (κ × V)}, k ∉ r.map (·.1) → r.map (fun kv => if kv.1 = k then (kv.1, v) else kv) = r
  | [], _ => rfl
  | p :: r, h => by
    rw [List.map_cons, List.mem_cons, not_or] at h
    rw [List.map_cons, if_neg (fun z => h.1 z.symm), map_same h.2]
theorem putK_eq {k : κ} {v : V} : ∀ {r : List (κ × V)}, (r.map (·.1)).Nodup → putK r k v = putR r k v
  | [], _ => rfl
  | p :: r, h => by
    rw [List.map_cons, List.nodup_cons] at h
    by_cases e : p.1 = k
    · unfold putK
      have a : (List.any (p :: r) fun kv => decide (kv.1 = k)) = true := by rw [List.any_cons, decide_eq_true e, Bool.true_or]
      rw [if_pos a, List.map_cons, if_pos e, map_same (by rw [← e]; exact h.1), putR, if_pos e]
    · rw [putK_ne e, putK_eq h.2, putR, if_neg e]
end
theorem zip_fst {κ : Type} : ∀ {ns : List κ} {vs : List V}, ns.length = vs.length → (ns.zip vs).map (·.1) = ns
  | [], _, _ => by simp
  | n :: ns, [], h => by simp at h
  | n :: ns, v :: vs, h => by
    rw [List.zip_cons_cons, List.map_cons, zip_fst (by simpa using h)]
theorem nodup_map {κ κ' : Type} (g : κ → κ') (hg : ∀ x y, g x = g y → x = y) : ∀ {ns : List κ}, ns.Nodup → (ns.map g).Nodup
  | [], _ => by simp
  | n :: ns, h => by
    rw [List.nodup_cons] at h
    rw [List.map_cons, List.nodup_cons]
    refine ⟨fun z => ?_, nodup_map g hg h.2⟩
    obtain ⟨x, hx, e⟩ := List.mem_map.mp z
    exact h.1 (hg _ _ e ▸ hx)
theorem dput_put {κ κ' : Type} [DecidableEq κ] [DecidableEq κ'] (f : κ → D) (hf : ∀ x y, f x = f y → x = y) (g : κ → κ') (hg : ∀ x y, g x = g y → x = y) (k : κ) (d : D) (v : V) {W : Wd} {K : PySem.W.Frag} {G : Hp} {m : List Addr} (rv : VRep W K G m d v) : ∀ (ns : List κ) (ds : List D) (vs : List V), VReps W K G m ds vs → ns.length = vs.length → ns.Nodup →
    ∃ (ns' : List κ) (vs' : List V), (dput (ns.map f) ds (f k) d).1 = ns'.map f ∧ putR ((ns.map g).zip vs) (g k) v = (ns'.map g).zip vs' ∧ VReps W K G m (dput (ns.map f) ds (f k) d).2 vs' ∧ ns'.length = vs'.length ∧ ns'.Nodup ∧ (∀ x, x ∈ ns' → x ∈ ns ∨ x = k)
  | [], ds, vs, r, l, _ => by
    cases vs with
    | nil => exact ⟨[k], [v], rfl, rfl, VReps.cons rv VReps.nil, rfl, List.nodup_cons.mpr ⟨by simp, List.nodup_nil⟩, fun x h => .inr (by simpa using h)⟩
    | cons _ _ => simp at l
  | n :: ns, ds, vs, r, l, nd => by
    cases vs with
    | nil => simp at l
    | cons u vs =>
      cases ds with
      | nil => simp [VReps] at r
      | cons e ds =>
        simp only [VReps] at r
        obtain ⟨v', r', e1, r1, r2⟩ := r
        simp only [List.cons.injEq] at e1
        obtain ⟨rfl, rfl⟩ := e1
        simp only [List.map_cons, dput, List.zip_cons_cons, putR]
        by_cases e2 : n = k
        · subst e2
          rw [if_pos (D.beq_refl _), if_pos rfl]
          exact ⟨n :: ns, v :: vs, rfl, rfl, VReps.cons rv r2, by simpa using l, nd, fun x h => .inl h⟩
        · rw [if_neg (by rw [D.beq_iff]; exact fun z => e2 (hf _ _ z)), if_neg (fun z => e2 (hg _ _ z))]
          obtain ⟨ns', vs', h1, h2, h3, h4, h5, h6⟩ := dput_put f hf g hg k d v rv ns ds vs r2 (by simpa using l) (List.nodup_cons.mp nd).2
          refine ⟨n :: ns', u :: vs', by rw [List.map_cons, ← h1], by rw [List.map_cons, List.zip_cons_cons, ← h2], VReps.cons r1 h3, by simpa using h4, ?_, ?_⟩
          · refine List.nodup_cons.mpr ⟨fun z => ?_, h5⟩
            rcases h6 n z with q | q
            · exact (List.nodup_cons.mp nd).1 q
            · exact e2 q
          · intro x hx
            rcases List.mem_cons.mp hx with q | q
            · exact .inl (by simp [q])
            · rcases h6 x q with w | w
              · exact .inl (by simp [w])
              · exact .inr w
section
variable {W : Wd} {K : PySem.W.Frag} {G H : Hp} {m : List Addr}
/-- what becomes of a dict -/
theorem dct_put {pv : List Addr} {Z : Sto} (R : Rel W K pv m Z H G) {a : Addr} {t : Bool} {ks ds : List D} {k d : D} {y v : V} (o : ORep W K G m H a (.dct t ks ds)) (hk : isKey t k = true) (hl : ks.length < cap) (rk : VRep W K G m k y) (rv : VRep W K G m d v) :
    ∃ ob, DatO ob ∧ DPut H a y v (upd H a ob) ∧ ORep W K G m (upd H a ob) a (.dct t (dput ks ds k d).1 (dput ks ds k d).2) := by
  have hcap : cap = 100000 := rfl
  have hsz := sizeLine_eq
  rcases o with ⟨ns, vs, rfl, rfl, h1, h2, h3, h4⟩ | ⟨ns, vs, rfl, rfl, h1, h2, h3, h4⟩
  · cases k with
    | int i =>
      simp only [VRep] at rk
      subst rk
      obtain ⟨ns', vs', q1, q2, q3, q4, q5, _⟩ := dput_put D.int (fun _ _ h => D.int.inj h) (Sum.inl : Int → Key) inl_inj i d v rv ns ds vs h2 h3 h4
      have e : putK ((ns.map (Sum.inl : Int → Key)).zip vs) (Sum.inl i) v = (ns'.map Sum.inl).zip vs' := by
        rw [← q2]
        exact putK_eq (by rw [zip_fst (by simpa using h3)]; exact nodup_map _ inl_inj h4)
      refine ⟨.dK ((ns'.map Sum.inl).zip vs'), .inr (.inl ⟨_, rfl⟩), ?_, .inl ⟨ns', vs', rfl, q1, upd_same, q3, q4, q5⟩⟩
      rw [← e]
      exact DPut.k (k := Sum.inl i) h1 (by simp at hl ⊢; omega)
    | _ => simp [isKey] at hk
  · cases k with
    | tup xs =>
      obtain ⟨l, hl'⟩ := ints_of_isKey (by simpa [isKey] using hk)
      simp only [VRep] at rk
      obtain ⟨b, us, rfl, e2, e3⟩ := rk
      obtain ⟨e4, e5⟩ := e3.ints hl'
      subst e4 e5
      obtain ⟨ns', vs', q1, q2, q3, q4, q5, _⟩ := dput_put (fun l : List Int => D.tup (l.map D.int)) tupInt_inj (fun l : List Int => l.map (Sum.inl : Int → Key)) inls_inj l d v rv ns ds vs h2 h3 h4
      have e : putK ((ns.map fun l : List Int => l.map (Sum.inl : Int → Key)).zip vs) (l.map Sum.inl) v = (ns'.map fun l => l.map Sum.inl).zip vs' := by
        rw [← q2]
        exact putK_eq (by rw [zip_fst (by simpa using h3)]; exact nodup_map _ inls_inj h4)
      refine ⟨.dT ((ns'.map fun l => l.map Sum.inl).zip vs'), .inr (.inr ⟨_, rfl⟩), ?_, .inr ⟨ns', vs', rfl, q1, upd_same, q3, q4, q5⟩⟩
      rw [← e]
      exact DPut.t h1 (by rw [kV_inls]; exact R.up _ _ e2) (by simp at hl ⊢; omega)
    | _ => simp [isKey] at hk
end
section
variable {X : Cx} {c : Cf} {σ : L2.St} {pv m : List Addr} {Z : Sto} {H G : Hp} {ρ : Env} {pos p2 : Pos}
theorem ORep.dat {W : Wd} {K : PySem.W.Frag} {a : Addr} {d : D} (o : ORep W K G m H a d) : ∃ u, H a = some u ∧ DatO u := by
  cases d with
  | lst ds => obtain ⟨vs, h, _⟩ := o; exact ⟨_, h, .inl ⟨_, rfl⟩⟩
  | dct t ks ds =>
    rcases o with ⟨_, _, _, _, h, _⟩ | ⟨_, _, _, _, h, _⟩
    · exact ⟨_, h, .inr (.inl ⟨_, rfl⟩)⟩
    · exact ⟨_, h, .inr (.inr ⟨_, rfl⟩)⟩
  | _ => exact o.elim
/-- an object of the store gets another content -/
theorem Rel.write {W : Wd} {K : PySem.W.Frag} {n j : Nat} {d d' : D} {a : Addr} {o : HO} (R : Rel W K pv m Z H G) (hz : Z[j]? = some (some d)) (ha : m[j]? = some a) (new : ORep W K G m (upd H a o) a d')
    (hlow : ∀ k, k ≤ n → j < k → D.lowr k d → D.lowr k d') : Rel W K pv m (Z.set j (some d')) (upd H a o) G ∧ Stp n pv m Z H G m (Z.set j (some d')) (upd H a o) G := by
  have hj : j < Z.length := (List.getElem?_eq_some_iff.mp hz).1
  have hl : Live Z m a := ⟨j, d, hz, ha⟩
  obtain ⟨u, hu, hd⟩ := (R.obj j d a hz ha).dat
  have at' : ∀ (i : Nat) (e : D), (Z.set j (some d'))[i]? = some (some e) → (i = j ∧ e = d') ∨ (i ≠ j ∧ Z[i]? = some (some e)) := fun i e h => by
    by_cases hij : j = i
    · subst hij
      rw [List.getElem?_set_self hj] at h; cases h; exact .inl ⟨rfl, rfl⟩
    · rw [List.getElem?_set_ne hij] at h
      exact .inr ⟨fun z => hij z.symm, h⟩
  have ex : ∀ (i : Nat) (e : D), (Z.set j (some d'))[i]? = some (some e) → ∃ e', Z[i]? = some (some e') := fun i e h => by
    rcases at' i e h with ⟨rfl, rfl⟩ | ⟨_, h⟩
    · exact ⟨d, hz⟩
    · exact ⟨e, h⟩
  have lv : ∀ b, Live (Z.set j (some d')) m b → Live Z m b := fun b ⟨i, e, h1, h2⟩ => by
    obtain ⟨e', h⟩ := ex i e h1
    exact ⟨i, e', h, h2⟩
  refine ⟨⟨by simp [R.len], fun i k b d1 e1 h1 h2 h3 h4 => ?_, fun b u e => ?_, fun i e b h1 h2 => ?_, fun b h => R.npv b (lv b h), fun b h => ?_, tabs_upd R.tabs hu hd⟩, ⟨⟨[], by simp⟩, Ex.refl _, fun b h => ?_, fun k hk hL i e hi h1 => ?_⟩⟩
  · obtain ⟨x1, h1⟩ := ex i d1 h1
    obtain ⟨x2, h2⟩ := ex k e1 h2
    exact R.inj i k b x1 x2 h1 h2 h3 h4
  · obtain ⟨q1, q2, q3, q4⟩ := R.sub b u e
    have hb : b ≠ a := fun z => q3 (z ▸ hl)
    exact ⟨by rw [upd_ne hb]; exact q1, q2, fun z => q3 (lv b z), q4⟩
  · rcases at' i e h1 with ⟨rfl, rfl⟩ | ⟨hij, h1⟩
    · rw [ha] at h2; cases h2; exact new
    · have hb : b ≠ a := fun z => hij (R.inj i j b e d h1 hz h2 (z ▸ ha))
      exact (R.obj i e b h1 h2).mono (Ex.refl _) (fun _ _ h => h) fun o e => by rw [upd_ne hb]; exact e
  · have hb : b ≠ a := fun z => R.npv a hl (z ▸ h)
    rw [upd_ne hb]; exact R.pvt b h
  · exact upd_ne fun z => R.npv a hl (z ▸ h)
  · rcases at' i e h1 with ⟨rfl, rfl⟩ | ⟨_, h1⟩
    · exact hlow k hk hi (hL i d hi hz)
    · exact hL i e hi h1
theorem lows_set {k : Nat} {x : D} (hx : D.lowr k x) : ∀ (p : Nat) (xs : List D), D.lows k xs → D.lows k (xs.set p x)
  | _, [], h => h
  | 0, y :: xs, h => by simp only [D.lows, List.set_cons_zero] at h ⊢; exact ⟨hx, h.2⟩
  | p + 1, y :: xs, h => by simp only [D.lows, List.set_cons_succ] at h ⊢; exact ⟨h.1, lows_set hx p xs h.2⟩
theorem lows_app {k : Nat} {x : D} (hx : D.lowr k x) : ∀ (xs : List D), D.lows k xs → D.lows k (xs ++ [x])
  | [], h => by simp only [List.nil_append, D.lows]; exact ⟨hx, trivial⟩
  | y :: xs, h => by simp only [D.lows, List.cons_append] at h ⊢; exact ⟨h.1, lows_app hx xs h.2⟩
theorem lows_put {k : Nat} {x y : D} (hx : D.lowr k x) (hy : D.lowr k y) : ∀ (ks vs : List D), D.lows k ks → D.lows k vs → D.lows k (dput ks vs x y).1 ∧ D.lows k (dput ks vs x y).2
  | [], vs, _, h => by simp only [dput, D.lows]; exact ⟨⟨hx, trivial⟩, ⟨hy, trivial⟩⟩
  | _ :: _, [], _, h => by simp only [dput, D.lows]; exact ⟨⟨hx, trivial⟩, ⟨hy, trivial⟩⟩
  | a :: ks, b :: vs, h1, h2 => by
    simp only [D.lows] at h1 h2
    simp only [dput]
    split
    · simp only [D.lows]; exact ⟨h1, ⟨hy, h2.2⟩⟩
    · obtain ⟨q1, q2⟩ := lows_put hx hy ks vs h1.2 h2.2
      simp only [D.lows]; exact ⟨⟨h1.1, q1⟩, ⟨h2.1, q2⟩⟩
theorem key_low {t : Bool} {k : D} (n : Nat) (h : isKey t k = true) : D.lowr n k := by
  cases t <;> cases k <;> simp [isKey] at h
  · simp [D.lowr]
  · obtain ⟨l, hl⟩ := Option.isSome_iff_exists.mp h
    rename_i xs
    have : xs = l.map D.int := by
      clear h
      induction xs generalizing l with
      | nil => simp [intsOf] at hl; subst hl; rfl
      | cons x xs ih =>
        cases x with
        | int i =>
          simp only [intsOf, Option.map_eq_some_iff] at hl
          obtain ⟨q, hq, rfl⟩ := hl
          rw [ih q hq]; rfl
        | _ => simp [intsOf] at hl
    subst this
    simp only [D.lowr]
    exact below_ints _ _
/-- o[i] = v, by values -/
def tSet (c : Cf) (K : PySem.W.Frag) : TSet := fun o i v H Q => ∃ pv m Z G a b d Z', Rel c.W K pv m Z H G ∧ VRep c.W K G m a o ∧ VRep c.W K G m b i ∧ VRep c.W K G m d v ∧ setOp c.n a b d Z = .ok () Z' ∧
  ∀ H' G', Rel c.W K pv m Z' H' G' → Stp c.n pv m Z H G m Z' H' G' → Q H'
theorem set_any (hu : X.A.units + 64 < cLine) : PSet X (tSet c X.K) := by
  rintro pins s σ H o i v ov iv u Q I ro ri rv ⟨pv, m, Z, G, a, b, d, Z', R, ra, rb, rd, h, q⟩
  unfold setOp at h
  cases a with
  | ref j =>
    simp only [VRep] at ra
    obtain ⟨p, rfl, hp⟩ := ra
    cases hz : Z[j]? with
    | none => simp only [hz] at h; cases h
    | some oo =>
      cases oo with
      | none => simp only [hz] at h; cases h
      | some w =>
        simp only [hz] at h
        have hO := R.obj j w p hz hp
        cases w with
        | lst xs =>
          simp only at h
          cases b with
          | int k =>
            simp only at h
            simp only [VRep] at rb
            subst rb
            cases hpl : place xs.length k with
            | none => rw [hpl] at h; cases h
            | some l =>
              rw [hpl] at h
              simp only [store] at h
              split at h
              · rename_i hc
                split at h
                · cases h
                  obtain ⟨vs, h1, h2⟩ := hO
                  have hlen := h2.length
                  refine set_list pins s σ H _ _ v ov iv u Q I ro ri rv ⟨p, vs, k, l, rfl, rfl, h1, by rw [← hlen]; exact place_ix hpl, ?_⟩
                  obtain ⟨R2, s2⟩ := R.write (n := c.n) (o := .lst (vs.set l v)) (d' := .lst (xs.set l d)) hz hp ⟨_, upd_same, h2.set rd l⟩ (fun k hk hjk hL => by
                    simp only [D.lowr] at hL ⊢
                    refine lows_set ?_ _ _ hL
                    rw [Bool.or_eq_true] at hc
                    rcases hc with hc | hc
                    · have := of_decide_eq_true hc; omega
                    · exact D.low_of_noref _ _ hc)
                  exact q _ G R2 s2
                · cases h
              · cases h
          | _ => cases h
        | dct t ks vs =>
          simp only at h
          split at h
          · rename_i hk
            rw [Bool.and_eq_true] at hk
            have hk2 := of_decide_eq_true hk.2
            simp only [store] at h
            split at h
            · rename_i hc
              split at h
              · cases h
                obtain ⟨ob, hd, hput, hnew⟩ := dct_put R hO hk.1 hk2 rb rd
                refine set_dict (by omega) pins s σ H _ _ v ov iv u Q I ro ri rv ⟨p, _, rfl, hput, ?_⟩
                obtain ⟨R2, s2⟩ := R.write (n := c.n) hz hp hnew (fun k hk' hjk hL => by
                  simp only [D.lowr] at hL ⊢
                  refine lows_put (key_low _ hk.1) ?_ _ _ hL.1 hL.2
                  rw [Bool.or_eq_true] at hc
                  rcases hc with hc | hc
                  · have := of_decide_eq_true hc; omega
                  · exact D.low_of_noref _ _ hc)
                exact q _ G R2 s2
              · cases h
            · cases h
          · cases h
        | _ => cases h
  | _ => cases h
theorem setOp_ok {n : Nat} {a b d : D} {Z : Sto} : (∃ Z', setOp n a b d Z = .ok () Z') ∨ setOp n a b d Z = .stuck := by
  unfold setOp
  cases a with
  | ref j =>
    simp only
    cases Z[j]? with
    | none => exact .inr rfl
    | some o =>
      cases o with
      | none => exact .inr rfl
      | some w =>
        cases w with
        | lst xs =>
          cases b with
          | int k =>
            simp only
            cases place xs.length k with
            | none => exact .inr rfl
            | some l => simp only [store]; split <;> (try split) <;> first | exact .inl ⟨_, rfl⟩ | exact .inr rfl | exact .inr trivial
          | _ => exact .inr rfl
        | dct t ks vs => simp only; split <;> (try simp only [store]) <;> (try split) <;> (try split) <;> first | exact .inl ⟨_, rfl⟩ | exact .inr rfl | exact .inr trivial
        | _ => exact .inr rfl
  | _ => exact .inr rfl
theorem assign_sub {o i : Expr} {env : PySem.Env} (h : noSlice i = true) (v : Value) : assign (.Subscript o i pos) env v = (do
      let ov ← holding [v] (eval o env)
      let iv ← holding [v, ov] (eval i env)
      standAt pos
      holding [v, ov, iv] (setItem ov iv v)
      release [v, ov, iv] []) := by
  cases i <;> first | rfl | (simp [noSlice] at h)
theorem s_seti {o i e : ME} {x y z : Expr} (hu : X.A.units + 64 < cLine) (ho : PE X x (tE c X.K o)) (hi : PE X y (tE c X.K i)) (he : PE X z (tE c X.K e)) (hs : noSlice y = true) : PS X (.Assign [.Subscript x y p2] z pos) (tS c X.K (.seti o i e)) :=
  ps_weak (ps_asg he (pg_sub ho hi (set_any (c := c) hu) (assign_sub hs)) (by cases z <;> rfl) (by cases z <;> rfl) rfl) fun D σ H ⟨pv, m, Z, G, ρ, R, E, h⟩ => by
    simp only [ex] at h
    refine ⟨pv, m, Z, G, ρ, R, E, (h.bnd (rx := VRep c.W X.K)).mono fun v H1 ⟨d, m1, Z1, G1, R1, s1, r1, _, h1⟩ => ?_⟩
    refine ⟨pv, m1, Z1, G1, ρ, R1, E.step s1, (h1.bnd (rx := VRep c.W X.K)).mono fun o H2 ⟨a, m2, Z2, G2, R2, s2, r2, _, h2⟩ => ?_⟩
    refine ⟨pv, m2, Z2, G2, ρ, R2, E.step (s1.trans s2), (h2.bnd (rx := VRep c.W X.K)).mono fun i H3 ⟨b, m3, Z3, G3, R3, s3, r3, _, h3⟩ => ?_⟩
    rcases setOp_ok (n := c.n) (a := a) (b := b) (d := d) (Z := Z3) with ⟨Z4, e⟩ | e
    · refine ⟨pv, m3, Z3, G3, a, b, d, Z4, R3, s3.rep r2, r3, s3.rep (s2.rep r1), e, fun H4 G4 R4 s4 => ?_⟩
      unfold bnd at h3
      rw [e] at h3
      exact h3 σ m3 H4 G4 R4 s4 (E.step (s1.trans (s2.trans (s3.trans s4))))
    · unfold bnd at h3
      rw [e] at h3
      exact h3.elim
/-! ### x.append(e) -/
def rApp (c : Cf) (K : PySem.W.Frag) : V → List V → Hp → VK → Prop := fun o vs H Q => ∃ pv m Z G a d v Z', vs = [v] ∧ Rel c.W K pv m Z H G ∧ VRep c.W K G m a o ∧ VRep c.W K G m d v ∧ appOp c.n a d Z = .ok () Z' ∧
  ∀ H' G', Rel c.W K pv m Z' H' G' → Stp c.n pv m Z H G m Z' H' G' → Q .non H'
theorem mt_app : MtR X "list.append" (rApp c X.K) := by
  rintro pins s σ H o vs ov us Q I ro rvs ⟨pv, m, Z, G, a, d, v, Z', rfl, R, ra, rd, h, q⟩
  unfold appOp at h
  cases a with
  | ref j =>
    simp only [VRep] at ra
    obtain ⟨p, rfl, hp⟩ := ra
    cases hz : Z[j]? with
    | none => simp only [hz] at h; cases h
    | some oo =>
      cases oo with
      | none => simp only [hz] at h; cases h
      | some w =>
        simp only [hz] at h
        have hO := R.obj j w p hz hp
        cases w with
        | lst xs =>
          simp only at h
          split at h
          · rename_i hcap
            simp only [store] at h
            split at h
            · rename_i hc
              split at h
              · cases h
                obtain ⟨ws, h1, h2⟩ := hO
                have hlen := h2.length
                have e1 : cap = 100000 := rfl
                refine mt_append pins s σ H _ _ ov us Q I ro rvs ⟨p, ws, v, rfl, rfl, h1, by rw [sizeLine_eq]; omega, ?_⟩
                obtain ⟨R2, s2⟩ := R.write (n := c.n) (o := .lst (ws ++ [v])) (d' := .lst (xs ++ [d])) hz hp ⟨_, upd_same, h2.append (VReps.cons rd VReps.nil)⟩ (fun k hk hjk hL => by
                  simp only [D.lowr] at hL ⊢
                  refine lows_app ?_ _ hL
                  rw [Bool.or_eq_true] at hc
                  rcases hc with hc | hc
                  · have := of_decide_eq_true hc; omega
                  · exact D.low_of_noref _ _ hc)
                exact q _ G R2 s2
              · cases h
            · cases h
          · cases h
        | _ => cases h
  | _ => cases h
theorem appOp_ok {n : Nat} {a d : D} {Z : Sto} : (∃ Z', appOp n a d Z = .ok () Z') ∨ appOp n a d Z = .stuck := by
  unfold appOp
  cases a with
  | ref j =>
    simp only
    cases Z[j]? with
    | none => exact .inr rfl
    | some o =>
      cases o with
      | none => exact .inr rfl
      | some w =>
        cases w with
        | lst xs => simp only; split <;> (try simp only [store]) <;> (try split) <;> (try split) <;> first | exact .inl ⟨_, rfl⟩ | exact .inr rfl | exact .inr trivial
        | _ => exact .inr rfl
  | _ => exact .inr rfl
theorem s_app {o e : ME} {x y : Expr} {apos : Pos} (ho : PE X x (tE c X.K o)) (he : PE X y (tE c X.K e)) (hs : noStar y = true) (hx : noCall x = true) (hl : (apos.endLine == p2.line) = true) :
    PS X (.Expr (.Call (.Attribute x "append" apos) [y] [] p2) pos) (tS c X.K (.app o e)) := by
  have hA : PA X [y] (tA c X.K [e]) := a_cons hs he a_nil
  refine ps_weak (ps_expr (pe_bm F.plainAttrs_list F.slot_list_append F.type_list_append (mt_app (c := c)) ho hA (attrBase_of hx) (by rw [noStar1 hs]; rfl) hl (noStar_of hs) rfl) rfl) fun D σ H ⟨pv, m, Z, G, ρ, R, E, h⟩ => ?_
  simp only [ex] at h
  refine ⟨pv, m, Z, G, ρ, R, E, (h.bnd (rx := VRep c.W X.K)).mono fun v H1 ⟨a, m1, Z1, G1, R1, s1, r1, _, h1⟩ => ?_⟩
  by_cases hb : isLstAt Z1 a = true
  · rw [if_pos hb] at h1
    cases a with
    | ref j =>
      simp only [isLstAt] at hb
      cases hz : Z1[j]? with
      | none => rw [hz] at hb; cases hb
      | some oo =>
        cases oo with
        | none => rw [hz] at hb; cases hb
        | some w =>
          rw [hz] at hb
          cases w with
          | lst xs =>
            have r1' := r1
            simp only [VRep] at r1'
            obtain ⟨p, rfl, hp⟩ := r1'
            obtain ⟨vs, q1, q2⟩ := R1.obj j _ p hz hp
            refine ⟨.inl ⟨rfl, vs, SqL.of q1⟩, pv, m1, Z1, G1, ρ, R1, E.step s1, ?_⟩
            rw [evs_one]
            have h2 : PstS c X.K pv m1 Z1 H1 G1 (bnd (bnd (ev c.F c.F2 c.cl e c.n ρ) fun d => ret [d]) (fun ds => match ds with | [d] => bnd (appOp c.n (.ref j) d) fun _ => ret (.nx ρ) | _ => stk) Z1) D := by
              unfold bnd at h1 ⊢
              cases e1 : ev c.F c.F2 c.cl e c.n ρ Z1 with
              | ok d Z2 => rw [e1] at h1; exact h1
              | exc k Z2 => rw [e1] at h1; exact h1
              | stuck => rw [e1] at h1; exact h1
            refine (h2.bnd (rx := VReps c.W X.K)).mono fun us H2 ⟨ds, m2, Z2, G2, R2, s2, r2, e2, h3⟩ => ?_
            obtain ⟨d, Zd, _, e3⟩ := bnd_ok e2
            cases e3
            obtain ⟨y, rfl, ry⟩ := r2.inv1
            simp only at h3
            rcases appOp_ok (n := c.n) (a := .ref j) (d := d) (Z := Z2) with ⟨Z4, e⟩ | e
            · refine ⟨pv, m2, Z2, G2, .ref j, d, y, Z4, rfl, R2, s2.rep r1, ry, e, fun H4 G4 R4 s4 => ?_⟩
              unfold bnd at h3
              rw [e] at h3
              exact h3 σ m2 H4 G4 R4 s4 (E.step (s1.trans (s2.trans s4)))
            · unfold bnd at h3
              rw [e] at h3
              exact h3.elim
          | _ => cases hb
    | _ => simp [isLstAt] at hb
  · rw [if_neg hb] at h1; exact h1.elim
/-! ### i op= e -/
theorem ip_int {o : BO} (ho : o = .add ∨ o = .sub ∨ o = .or) : PIp X (opBO o) (fun x y H Q => ∃ i j k, x = .int i ∧ y = .int j ∧ intOp o i j = some k ∧ Q (.int k) H) := by
  rcases ho with rfl | rfl | rfl
  · rintro pins s σ H x y v u Q I rx ry ⟨i, j, k, rfl, rfl, e, q⟩
    simp only [intOp] at e
    cases e
    exact ip_add pins s σ H _ _ v u Q I rx ry ⟨i, j, rfl, rfl, q⟩
  · rintro pins s σ H x y v u Q I rx ry ⟨i, j, k, rfl, rfl, e, q⟩
    simp only [intOp] at e
    cases e
    exact ip_sub pins s σ H _ _ v u Q I rx ry ⟨i, j, rfl, rfl, q⟩
  · rintro pins s σ H x y v u Q I rx ry ⟨i, j, k, rfl, rfl, e, q⟩
    simp only [intOp] at e
    cases e
    obtain ⟨t, rfl⟩ := rx
    obtain ⟨t', rfl⟩ := ry
    exact ior_int ⟨.int _, H, I.tok _, ⟨_, rfl⟩, q⟩
theorem s_aug {i : Nat} {o : BO} {e : ME} {x : Expr} {y : PySem.Str} {py : Pos} (ho : o = .add ∨ o = .sub ∨ o = .or) (hN : X.N.Nodup) (hi : X.N[i]? = some y) (hx : Loc X.env.scope y) (hf : X.fn y = true ∨ X.env.scope.names.lookup y = some .local) (ha : PE X x (tE c X.K e)) :
    PS X (.AugAssign (.Name y py) (opBO o) x pos) (tS c X.K (.aug i o e)) :=
  ps_weak (ps_aug hN hi hx ha (ip_int ho) hf) fun D σ H ⟨pv, m, Z, G, ρ, R, E, h⟩ => by
    simp only [ex] at h
    cases e1 : ρ[i]? with
    | none => rw [e1] at h; exact h.elim
    | some oo =>
      cases oo with
      | none => rw [e1] at h; exact h.elim
      | some d =>
        rw [e1] at h
        cases d with
        | int a =>
          rcases E.at_ i _ e1 with ⟨z, _⟩ | ⟨v, e2, r⟩
          · cases z
          · simp only [VRep] at r
            subst r
            refine ⟨_, e2, pv, m, Z, G, ρ, R, E, (PstS.bnd (rx := VRep c.W X.K) h).mono fun v H1 ⟨d, m1, Z1, G1, R1, s1, r1, _, h1⟩ => ?_⟩
            cases d with
            | int b =>
              simp only [VRep] at r1
              subst r1
              simp only at h1
              cases e3 : intOp o a b with
              | none => rw [e3] at h1; exact h1.elim
              | some k =>
                rw [e3] at h1
                exact ⟨a, b, k, rfl, rfl, e3, h1 _ m1 H1 G1 R1 Stp.refl ((E.step s1).set (by simp only [VRep]))⟩
            | _ => exact h1.elim
        | _ => exact h.elim
end
end Fw
end
section
set_option Elab.async false
set_option linter.all false
set_option maxRecDepth 100000
set_option maxHeartbeats 1000000
/-! Fw.Sound: methods, a Table is made, more built-ins -/
namespace Fw
open PySem PySem.Spec PyProof.Rows L2
section
variable {X : Cx} {c : Cf} {σ : L2.St} {pv m : List Addr} {Z : Sto} {H G : Hp} {ρ : Env} {pos p2 : Pos}
/-! ### methods -/
theorem tFs_none {vs : List V} {x : PySem.Str} (hl : vs.length = 4) (hx : x ∉ [sN, sRanks, sAll, sRank]) : (tFs vs).lookup x = none := by
  obtain ⟨a, b, d, e, rfl⟩ : ∃ a b d e, vs = [a, b, d, e] := by
    match vs, hl with
    | [a, b, d, e], _ => exact ⟨a, b, d, e, rfl⟩
  simp only [List.mem_cons, List.not_mem_nil, or_false, not_or] at hx
  have h1 : (x == sN) = false := by simpa using hx.1
  have h2 : (x == sRanks) = false := by simpa using hx.2.1
  have h3 : (x == sAll) = false := by simpa using hx.2.2.1
  have h4 : (x == sRank) = false := by simpa using hx.2.2.2
  simp only [tFs, List.zip_cons_cons, List.lookup, h1, h2, h3, h4, List.zip_nil_right]
theorem s_meth {f : Nat} {o : ME} {es : List ME} {x : Expr} {as : List Expr} {nm : PySem.Str} {apos : Pos} (O : FnsOk c.W X c.F) (T : TblOk c.W X.K) (tk : L2.Takes X c.Wx) (hm : Meth X.K c.W.tC nm (c.W.fA f)) (hp : (c.W.prg f).isSome = true) (hn : nm ∉ [sN, sRanks, sAll, sRank]) (hf : c.W.fresh f = false)
    (ho : PE X x (tE c X.K o)) (hs : noStarsB as = true) (hlen : as.length = es.length) (ha : PA X as (tA c X.K es))
    (ht : ∃ pl : Sem Bool, eval (.Call (.Attribute x nm apos) as [] pos) X.env = (do
      let ov ← eval x X.env
      standAt apos.atName
      let (f, first) ← holding [ov] (getMethod ov nm pl)
      callWith pos f first (backTo pos (starEach as X.env)) (backToKw pos (keywordEach [] X.env)))) :
    PE X (.Call (.Attribute x nm apos) as [] pos) (tE c X.K (.meth f o es)) := by
  obtain ⟨pl, ht⟩ := ht
  refine ⟨fun pins s σ H Q I ⟨pv, m, Z, G, ρ, R, E, h⟩ => ?_⟩
  simp only [ev] at h
  have hB := h.bnd (rx := VRep c.W X.K)
  refine PySem.W.methodCall_KW (pl := pl) (thn (ho.run pins s σ H _ I ⟨pv, m, Z, G, ρ, R, E, hB⟩) fun u s1 ⟨v, H1, I1, rx, d, m1, Z1, G1, R1, s1', r1, _, h1⟩ => ?_) ht
  cases d with
  | obj fs =>
    simp only at h1
    have r1' := r1
    simp only [VRep] at r1'
    obtain ⟨a, dx, vs, rfl, e2, e3, e4⟩ := r1'
    obtain rfl : u = Value.ref a := rx
    refine getmeth_ok I1 (R1.up _ _ e2) T.cls hm (tFs_none e3 hn) ?_
    have hC := Pst.bnd (rx := VReps c.W X.K) h1
    have run : ∀ {us : List Value} {ws : List V} {s2 : Shared} {H2 : Hp} {ds : List D} {m2 : List Addr} {Z2 : Sto} {G2 : Hp}, Inv X pins σ H2 s2 → Vals ws us → Rel c.W X.K pv m2 Z2 H2 G2 → Stp c.n pv m1 Z1 H1 G1 m2 Z2 H2 G2 → VReps c.W X.K G2 m2 ds ws → Pst c.W X.K c.n c.Wx σ pv m2 Z2 H2 G2 (VRep c.W X.K) (c.F f (.obj fs :: ds) none Z2) Q →
        wpAny (model X.prog X.w) X.A (call (.ref (c.W.fA f)) (.ref a :: us)) (EP X pins σ Q) X.xe s2 := fun I2 r R2 st rv q =>
      run_call (n := c.n) O tk I2 (us := .ref a :: _) (vs := .ref a :: _) (.cons rfl r) R2 (VReps.cons (st.rep r1) rv) (by rw [hf]; exact q)
    cases as with
    | nil =>
      have hA := ha.run pos pins s1 σ H1 _ I1 ⟨pv, m1, Z1, G1, ρ, R1, E.step s1', hC⟩
      refine PySem.W.callWith_K0 (first := [.ref a]) I1.kIn hm.kp ?_
      cases es with
      | nil =>
        simp only [evs, ret] at hC
        obtain ⟨ds, m2, Z2, G2, R2, st, rv, e, q⟩ := hC [] m1 H1 G1 R1 Stp.refl VReps.nil
        cases e
        exact run I1 .nil R2 st rv q
      | cons _ _ => simp at hlen
    | cons b bs =>
      have hs' := hs
      simp only [noStarsB, List.all_cons, Bool.and_eq_true] at hs'
      refine PySem.W.callWith_K (first := [.ref a]) (h₀ := X.base) I1.ok.mod.kin hm.kp (thn (ha.run pos pins s1 σ H1 _ I1 ⟨pv, m1, Z1, G1, ρ, R1, E.step s1', hC⟩) fun us s2 ⟨ws, H2, I2, r, ds, m2, Z2, G2, R2, st, rv, _, q⟩ => ⟨I2.kIn, ?_⟩) (noStar_of hs'.1) (backTo_stars hs'.2)
      exact run I2 r R2 st rv q
  | _ => exact h1.elim
/-! ### d.get(k, x) -/
theorem s_get {a k x : ME} {o e f : Expr} {apos : Pos} (hu : X.A.units + 64 < cLine) (ho : PE X o (tE c X.K a)) (he : PE X e (tE c X.K k)) (hf : PE X f (tE c X.K x)) (h1 : noCall o = true) (h2 : noStar e = true) (h3 : noStar f = true) (hl : (apos.endLine == pos.line) = true) :
    PE X (.Call (.Attribute o "get" apos) [e, f] [] pos) (tE c X.K (.get a k x)) := by
  have hM : L2.M2 X o "get" apos e f pos := ⟨attrBase_of h1, by rw [noStar_of h2, noStar1 h3]; rfl, hl, by rw [noStar_of h2, noStar1 h3]; rfl⟩
  refine pe_weak (pe_dget2 (by omega) ho he hf hM) fun σ H Q ⟨pv, m, Z, G, ρ, R, E, h⟩ => ?_
  simp only [ev] at h
  refine ⟨pv, m, Z, G, ρ, R, E, (h.bnd (rx := VRep c.W X.K)).mono fun v H1 ⟨d, m1, Z1, G1, R1, s1, r1, _, h1⟩ => ?_⟩
  by_cases hd : isDctAt Z1 d = true
  · rw [if_pos hd] at h1
    unfold isDctAt at hd
    split at hd
    · rename_i t ks vs ev
      obtain ⟨p, rfl, o⟩ := dct_at R1 r1 ev
      have isd : ∀ {H' G' : Hp} {m' : List Addr}, ORep c.W X.K G' m' H' p (.dct t ks vs) → IsD H' p := fun o => by
        rcases o with ⟨_, _, _, _, q, _⟩ | ⟨_, _, _, _, q, _⟩
        · exact .inl ⟨_, .inl q⟩
        · exact .inr ⟨_, .inl q⟩
      refine ⟨p, rfl, isd o, pv, m1, Z1, G1, ρ, R1, E.step s1, (Pst.bnd (rx := VRep c.W X.K) h1).mono fun y H2 ⟨dy, m2, Z2, G2, R2, s2, r2, _, h2⟩ => ?_⟩
      refine ⟨pv, m2, Z2, G2, ρ, R2, E.step (s1.trans s2), (h2.bnd (rx := VRep c.W X.K)).mono fun z H3 ⟨dz, m3, Z3, G3, R3, s3, r3, _, h3⟩ => ?_⟩
      simp only [biOp] at h3
      split at h3
      · rename_i t' ks' vs' ev'
        split at h3
        · rename_i hk
          obtain ⟨p', ep, o'⟩ := dct_at R3 (s3.rep (s2.rep r1)) ev'
          cases ep
          obtain ⟨ov, g, g1, g2⟩ := dct_get R3 o' hk (s3.rep r2)
          refine ⟨ov, g, ?_⟩
          cases hd : dget ks' vs' dy with
          | none =>
            rw [hd] at h3
            rw [g2 hd]
            exact Pst.here h3 R3 r3
          | some w =>
            rw [hd] at h3
            obtain ⟨u, rfl, ru⟩ := g1 w hd
            exact Pst.here h3 R3 ru
        · exact h3.elim
      · exact h3.elim
    · cases hd
  · rw [if_neg hd] at h1; exact h1.elim
/-! ### x.bit_length() -/
theorem bitLen_eq (i : Int) : ((Builtin.Int.intBits i : Nat) : Int) = (bitLen i : Int) := by
  unfold Builtin.Int.intBits bitLen
  by_cases h : i = 0
  · subst h; rfl
  · rw [if_neg h, if_neg (by simpa using h)]
theorem s_bits {a : ME} {o : Expr} {apos : Pos} (ho : PE X o (tE c X.K a)) (h1 : noCall o = true) (hl : (apos.endLine == pos.line) = true) : PE X (.Call (.Attribute o "bit_length" apos) [] [] pos) (tE c X.K (.bi .bitLen [a])) :=
  pe_weak (pe_bits ho (attrBase_of h1) hl) fun σ H Q ⟨pv, m, Z, G, ρ, R, E, h⟩ => by
    simp only [ev] at h
    rw [evs_one] at h
    have h' : Pst c.W X.K c.n c.Wx σ pv m Z H G (VRep c.W X.K) (bnd (ev c.F c.F2 c.cl a c.n ρ) (fun x => biOp .bitLen [x]) Z) Q := by
      unfold bnd at h ⊢
      cases e1 : ev c.F c.F2 c.cl a c.n ρ Z with
      | ok d Z2 => rw [e1] at h; exact h
      | exc k Z2 => rw [e1] at h; exact h
      | stuck => rw [e1] at h; exact h
    refine ⟨pv, m, Z, G, ρ, R, E, (h'.bnd (rx := VRep c.W X.K)).mono fun v H1 ⟨d, m1, Z1, G1, R1, s1, r1, _, h1⟩ => ?_⟩
    cases d with
    | int i =>
      simp only [VRep] at r1
      refine ⟨i, r1, ?_⟩
      rw [bitLen_eq]
      exact Pst.here h1 R1 (by simp only [VRep])
    | _ => exact h1.elim
/-! ### built-ins by name -/
theorem s_biF {b : BI} {id : String} {es : List ME} {x : PySem.Str} {a : Expr} {as : List Expr} {p : Pos} (hc : CallR X (.builtin id) (rB c X.K b)) (hg : Gl X x) (hm : X.mg x = none) (hv : bootBuiltins x = some (.builtin id)) (hn : x ≠ "__name__") (hdb : (x == ("__debug__" : PySem.Str)) = false) (hs : noStarsB (a :: as) = true)
    (ha : PA X (a :: as) (tA c X.K es)) : PE X (.Call (.Name x p) (a :: as) [] pos) (tF c X.K (.bi b es)) := by
  have hs' := hs
  simp only [noStarsB, List.all_cons, Bool.and_eq_true] at hs'
  refine pe_weak (pe_callB hc hg hm hv ha hn hdb (noStar_of hs'.1) (backTo_stars hs'.2)) fun σ H Q ⟨pv, m, Z, G, ρ, R, E, h⟩ => ?_
  simp only [ev] at h
  exact ⟨pv, m, Z, G, ρ, R, E, (h.bnd (rx := VReps c.W X.K)).mono fun vs H1 ⟨ds, m1, Z1, G1, R1, s1, r1, _, h1⟩ => ⟨σ, pv, m1, Z1, G1, ds, R1, r1, h1⟩⟩
theorem s_tyF {b : BI} {T : String} {es : List ME} {x : PySem.Str} {a : Expr} {as : List Expr} {p : Pos} (hc : CallR X (.type T) (rB c X.K b)) (hg : Gl X x) (hm : X.mg x = none) (hv : bootBuiltins x = some (.type T)) (hn : x ≠ "__name__") (hdb : (x == ("__debug__" : PySem.Str)) = false) (hs : noStarsB (a :: as) = true)
    (ha : PA X (a :: as) (tA c X.K es)) : PE X (.Call (.Name x p) (a :: as) [] pos) (tF c X.K (.bi b es)) := by
  have hs' := hs
  simp only [noStarsB, List.all_cons, Bool.and_eq_true] at hs'
  refine pe_weak (pe_callTy hc hg hm hv ha hn hdb (noStar_of hs'.1) (backTo_stars hs'.2)) fun σ H Q ⟨pv, m, Z, G, ρ, R, E, h⟩ => ?_
  simp only [ev] at h
  exact ⟨pv, m, Z, G, ρ, R, E, (h.bnd (rx := VReps c.W X.K)).mono fun vs H1 ⟨ds, m1, Z1, G1, R1, s1, r1, _, h1⟩ => ⟨σ, pv, m1, Z1, G1, ds, R1, r1, h1⟩⟩
theorem pe_ty {x : PySem.Str} {T : String} {p : Pos} (hg : Gl X x) (hm : X.mg x = none) (hv : bootBuiltins x = some (.type T)) (hn : x ≠ "__name__") (hdb : (x == ("__debug__" : PySem.Str)) = false) : PE X (.Name x p) (L2.tC (.ty T)) :=
  ⟨fun pins s σ H Q I h => ld_blt I hg hm hv ⟨.ty T, H, I, rfl, h⟩ hn hdb⟩
theorem s_isi {b : BI} {T : String} {e : ME} {x : PySem.Str} {o : Expr} {p p3 : Pos} (hb : isBI b = some T) (hgi : Gl X "isinstance") (hmi : X.mg "isinstance" = none) (hg : Gl X x) (hm : X.mg x = none) (hv : bootBuiltins x = some (.type T)) (hn : x ≠ "__name__") (hdb : (x == ("__debug__" : PySem.Str)) = false)
    (hs : noStar o = true) (ho : PE X o (tE c X.K e)) : PE X (.Call (.Name "isinstance" p) [o, .Name x p3] [] pos) (tE c X.K (.bi b [e])) := by
  refine pe_weak (pe_callB (b_isi (c := c) hb) hgi hmi rfl (pa_cons ho (pa_cons (pe_ty hg hm hv hn hdb) pa_nil rfl) (noStar_of hs)) (by decide) (by decide) (noStar_of hs) rfl) fun σ H Q ⟨pv, m, Z, G, ρ, R, E, h⟩ => ?_
  simp only [ev] at h
  rw [evs_one] at h
  have h' : Pst c.W X.K c.n c.Wx σ pv m Z H G (VRep c.W X.K) (bnd (ev c.F c.F2 c.cl e c.n ρ) (fun x => biOp b [x]) Z) Q := by
    unfold bnd at h ⊢
    cases e1 : ev c.F c.F2 c.cl e c.n ρ Z with
    | ok d Z2 => rw [e1] at h; exact h
    | exc k Z2 => rw [e1] at h; exact h
    | stuck => rw [e1] at h; exact h
  exact ⟨pv, m, Z, G, ρ, R, E, (h'.bnd (rx := VRep c.W X.K)).mono fun v H1 ⟨d, m1, Z1, G1, R1, s1, r1, _, h1⟩ => ⟨σ, pv, m1, Z1, G1, d, v, rfl, R1, r1, h1.toF⟩⟩
/-! ### empty dicts -/
theorem s_dnewK : PE X (.Dict [] [] pos) (tF c X.K (.dct false [] [])) := pe_weak pe_dnewK fun σ H Q ⟨pv, m, Z, G, ρ, R, E, h⟩ => by
  simp only [ev, evs, bnd, ret, zipL, putAll] at h
  intro p hp
  obtain ⟨hG, hpv, hl⟩ := R.fresh hp
  refine h _ m _ G (R.priv hp (.inr (.inl ⟨_, rfl⟩))).less (Stp.priv R hp) ⟨p, rfl, hG, hpv, hl, .inl ⟨[], [], rfl, rfl, upd_same, VReps.nil, rfl, List.nodup_nil⟩⟩
theorem s_dnewT : PE X (.Dict [] [] pos) (tF c X.K (.dct true [] [])) := pe_weak pe_dnewT fun σ H Q ⟨pv, m, Z, G, ρ, R, E, h⟩ => by
  simp only [ev, evs, bnd, ret, zipL, putAll] at h
  intro p hp
  obtain ⟨hG, hpv, hl⟩ := R.fresh hp
  refine h _ m _ G (R.priv hp (.inr (.inr ⟨_, rfl⟩))).less (Stp.priv R hp) ⟨p, rfl, hG, hpv, hl, .inr ⟨[], [], rfl, rfl, upd_same, VReps.nil, rfl, List.nodup_nil⟩⟩
/-! ### a Table -/
/-- what Table's __init__ does -/
def SpI (W : Wd) (K : PySem.W.Frag) : Sp := fun vs H Q _ => ∃ x dx n r rs v, vs = [.ref x, .int n, .ref r] ∧ H x = some (.ins W.tC dx []) ∧ 0 ≤ n ∧ n ≤ 1000 ∧ SqL K H r rs ∧ r ≠ x ∧ rs[(2 ^ n.toNat - 1 : Nat)]? = some v ∧
  Q .non (upd H x (.ins W.tC dx (tFs [.int n, .ref r, .int ((2 ^ n.toNat - 1 : Nat) : Int), v])))
structure MkOk (W : Wd) (X : Cx) : Prop where
  made : L2.Mk X.K W.tC W.tI
  run : ∃ k fd ps, FnOk X.prog X.w X.K X.mg X.base (L2.CX X.prog X.w) k W.tI fd ps (SpI W X.K) ∧ Room (k + 1) X.A ∧ Binds X.K fd ps []
theorem s_mk {es : List ME} {x : PySem.Str} {a : Expr} {as : List Expr} {p : Pos} (O : MkOk c.W X) (tk : L2.Takes X c.Wx) (hg : Gl X x) (hm : X.mg x = some (.ref c.W.tC)) (hdb : (x == ("__debug__" : PySem.Str)) = false) (hs : noStarsB (a :: as) = true) (ha : PA X (a :: as) (tA c X.K es)) :
    PE X (.Call (.Name x p) (a :: as) [] pos) (tE c X.K (.mk es)) := by
  obtain ⟨k, fd, ps, Fo, hr, hb⟩ := O.run
  have hs' := hs
  simp only [noStarsB, List.all_cons, Bool.and_eq_true] at hs'
  refine ⟨fun pins s σ H Q I ⟨pv, m, Z, G, ρ, R, E, h⟩ => ?_⟩
  simp only [ev] at h
  have hB := h.bnd (rx := VReps c.W X.K)
  refine wpAny_Call_Name_kw (ld_glob I hg hm ?_ hdb)
  refine PySem.W.callWith_K (h₀ := X.base) I.ok.mod.kin O.made.kp (thn (ha.run pos pins s σ H _ I ⟨pv, m, Z, G, ρ, R, E, hB⟩) fun us s1 ⟨vs, H1, I1, r, ds, m1, Z1, G1, R1, s1', rv, _, h1⟩ => ⟨I1.kIn, ?_⟩) (noStar_of hs'.1) (backTo_stars hs'.2)
  have hmk : ∃ n ranks, ds = [.int n, .lst ranks] ∧ (0 ≤ n ∧ n ≤ 1000) := by
    unfold mkOp at h1
    split at h1
    · split at h1
      · exact ⟨_, _, rfl, ‹_›⟩
      · exact h1.elim
    · exact h1.elim
  obtain ⟨n, ranks, rfl, hn⟩ := hmk
  · simp only [mkOp, if_pos hn] at h1
    · skip
      cases hd : ranks[(2 ^ n.toNat - 1 : Nat)]? with
      | none => rw [hd] at h1; exact h1.elim
      | some d =>
        rw [hd] at h1
        obtain ⟨y, z, rfl, ry, rz⟩ := rv.inv2
        have rz' := rz
        simp only [VRep] at ry rz
        subst ry
        obtain ⟨ra, rs, rfl, e2, e3⟩ := rz
        obtain ⟨v, e4, e5⟩ := e3.get hd
        refine run_make (ds := []) (dvs := []) (E := fun _ _ _ => False) O.made Fo hr hb .nil (fun pins σ H s e s' I' hcx => ?_) I1 r fun x dx hx hdx hne => ?_
        · obtain ⟨_, _, _, _, _, _, _, _, _, _, _, _, z⟩ := hcx
          exact z.elim
        · have hxne : ra ≠ x := fun z => by rw [z] at e2; rw [R1.up _ _ e2] at hx; cases hx
          have hdne : ra ≠ dx := fun z => by rw [z] at e2; rw [R1.up _ _ e2] at hdx; cases hdx
          have R2 := R1.new (o := .own x) hdx (fun _ z => nomatch z)
          have hx2 : upd H1 dx (.own x) x = none := by rw [upd_ne (fun z => hne z.symm)]; exact hx
          have fin := R2.new (o := .ins c.W.tC dx (tFs [.int n, .ref ra, .int ((2 ^ n.toNat - 1 : Nat) : Int), v])) hx2 (fun _ z => nomatch z)
          have st : Stp c.n pv m1 Z1 H1 G1 m1 Z1 _ _ := (Stp.new (o := .own x) R1 hdx).trans (Stp.new (o := .ins c.W.tC dx (tFs [.int n, .ref ra, .int ((2 ^ n.toNat - 1 : Nat) : Int), v])) R2 hx2)
          refine ⟨x, dx, n, ra, rs, v, rfl, upd_same, hn.1, hn.2, ?_, hxne, e4, rfl, ?_⟩
          · refine SqL.of ?_
            rw [upd_ne hxne, upd_ne hdne]
            exact R1.up _ _ e2
          · have eu : upd (upd (upd H1 dx (.own x)) x (.ins c.W.tC dx [])) x (.ins c.W.tC dx (tFs [.int n, .ref ra, .int ((2 ^ n.toNat - 1 : Nat) : Int), v])) = upd (upd H1 dx (.own x)) x (.ins c.W.tC dx (tFs [.int n, .ref ra, .int ((2 ^ n.toNat - 1 : Nat) : Int), v])) := by
              funext b
              by_cases hb : b = x
              · subst hb; rw [upd_same, upd_same]
              · rw [upd_ne hb, upd_ne hb, upd_ne hb]
            rw [eu]
            refine h1 _ m1 _ _ fin st ?_
            simp only [VRep]
            exact ⟨x, dx, _, rfl, upd_same, rfl, VReps.cons (by simp only [VRep]) (VReps.cons (st.rep rz') (VReps.cons (by simp only [VRep]) (VReps.cons (st.rep e5) VReps.nil)))⟩
end
end Fw
end
section
set_option Elab.async false
set_option linter.all false
set_option maxRecDepth 100000
set_option maxHeartbeats 1000000
/-! Fw.Sound: max, min, list, sorted -/
namespace Fw
open PySem PySem.Spec PyProof.Rows L2
section
variable {X : Cx} {c : Cf} {σ : L2.St} {pv m : List Addr} {Z : Sto} {H G : Hp} {ρ : Env} {pos p2 : Pos}
theorem b_max (hc : X.calm = true) : CallR X (.builtin "max") (rB c X.K .max) := by
  rintro pins s σ H xs us Q I r ⟨σ', pv, m, Z, G, ds, R, rs, h⟩
  match ds, h with
  | [a], h =>
    obtain ⟨x, rfl, ra⟩ := rs.inv1
    simp only [biOp] at h
    split at h
    · rename_i xs e
      split at h
      · rename_i n ns e2
        obtain ⟨p, vs, rfl, q1, q2⟩ := lst_at R ra e
        obtain ⟨rfl, _⟩ := q2.ints e2
        refine cr_max hc pins s σ H _ us Q I r ⟨p, n :: ns, rfl, SqL.of q1, by simp, fun m hm hy => ?_⟩
        rw [← maxI_eq ns n m hm hy]
        exact h.int R
      · exact h.elim
    · exact h.elim
theorem b_min (hc : X.calm = true) : CallR X (.builtin "min") (rB c X.K .min) := by
  rintro pins s σ H xs us Q I r ⟨σ', pv, m, Z, G, ds, R, rs, h⟩
  match ds, h with
  | [a], h =>
    obtain ⟨x, rfl, ra⟩ := rs.inv1
    simp only [biOp] at h
    split at h
    · rename_i xs e
      split at h
      · rename_i n ns e2
        obtain ⟨p, vs, rfl, q1, q2⟩ := lst_at R ra e
        obtain ⟨rfl, _⟩ := q2.ints e2
        refine cr_min hc pins s σ H _ us Q I r ⟨p, n :: ns, rfl, SqL.of q1, by simp, fun m hm hy => ?_⟩
        rw [← minI_eq ns n m hm hy]
        exact h.int R
      · exact h.elim
    · exact h.elim
theorem b_list : CallR X (.type "list") (rB c X.K .list) := by
  rintro pins s σ H xs us Q I r ⟨σ', pv, m, Z, G, ds, R, rs, h⟩
  match ds, h with
  | [a], h =>
    obtain ⟨x, rfl, ra⟩ := rs.inv1
    simp only [biOp] at h
    split at h
    · rename_i xs e
      obtain ⟨p, vs, rfl, q1, q2⟩ := tup_at R ra e
      exact call_list_of pins s σ H _ us Q I r ⟨p, vs, rfl, .inr (SqT.of q1), fun l hl => h.lst R hl q2⟩
    · rename_i xs e
      obtain ⟨p, vs, rfl, q1, q2⟩ := lst_at R ra e
      exact call_list_of pins s σ H _ us Q I r ⟨p, vs, rfl, .inl (SqL.of q1), fun l hl => h.lst R hl q2⟩
    · exact h.elim
/-! ### sorted -/
theorem lexLt_irr : ∀ a : List Int, lexLt a a = false
  | [] => rfl
  | x :: xs => by rw [lexLt, if_pos rfl, lexLt_irr xs]
theorem lexLt_asym : ∀ a b : List Int, lexLt a b = true → lexLt b a = false
  | [], [], h => by simp [lexLt] at h
  | [], _ :: _, _ => rfl
  | _ :: _, [], h => by simp [lexLt] at h
  | x :: xs, y :: ys, h => by
    rw [lexLt] at h ⊢
    by_cases e : x = y
    · rw [if_pos e] at h
      rw [if_pos e.symm]
      exact lexLt_asym xs ys h
    · rw [if_neg e] at h
      rw [if_neg (fun z => e z.symm)]
      have := of_decide_eq_true h
      exact decide_eq_false (by omega)
theorem lexLt_tr : ∀ x y z : List Int, lexLt y x = false → lexLt z y = false → lexLt z x = false
  | [], _, [], _, _ => rfl
  | [], [], _ :: _, _, _ => rfl
  | [], _ :: _, _ :: _, _, _ => rfl
  | _ :: _, [], _, h, _ => by simp [lexLt] at h
  | _ :: _, _ :: _, [], _, h => by simp [lexLt] at h
  | x :: xs, y :: ys, z :: zs, h1, h2 => by
    rw [lexLt] at h1 h2 ⊢
    by_cases e1 : y = x
    · by_cases e2 : z = y
      · rw [if_pos e1] at h1
        rw [if_pos e2] at h2
        rw [if_pos (e2.trans e1)]
        exact lexLt_tr xs ys zs h1 h2
      · rw [if_neg e2] at h2
        have := of_decide_eq_false h2
        rw [if_neg (by omega)]
        exact decide_eq_false (by omega)
    · rw [if_neg e1] at h1
      have := of_decide_eq_false h1
      by_cases e2 : z = y
      · rw [if_neg (by omega)]
        exact decide_eq_false (by omega)
      · rw [if_neg e2] at h2
        have := of_decide_eq_false h2
        rw [if_neg (by omega)]
        exact decide_eq_false (by omega)
theorem swo_key {α : Type} (k : α → List Int) : SrtO.Swo fun v u => lexLt (k v) (k u) := ⟨fun _ _ h => lexLt_asym _ _ h, fun _ _ _ h1 h2 => lexLt_tr _ _ _ h1 h2⟩
/-- one after the other, by a key -/
def insG {α : Type} (k : α → List Int) (x : α) : List α → List α
  | [] => [x]
  | y :: ys => if lexLt (k y) (k x) then y :: insG k x ys else x :: y :: ys
def sortG {α : Type} (k : α → List Int) : List α → List α
  | [] => []
  | x :: xs => insG k x (sortG k xs)
theorem sortBy_G (xs : List (List Int × D)) : sortBy xs = sortG (·.1) xs := by
  have ins : ∀ x xs, insBy x xs = insG (fun p : List Int × D => p.1) x xs := fun x xs => by
    induction xs with
    | nil => rfl
    | cons y ys ih => rw [insBy, insG, ih]
  induction xs with
  | nil => rfl
  | cons x xs ih => rw [sortBy, sortG, ih, ins]
theorem insG_mem {α : Type} {k : α → List Int} {x y : α} : ∀ {l : List α}, y ∈ insG k x l ↔ y = x ∨ y ∈ l
  | [] => by simp [insG]
  | z :: l => by
    rw [insG]
    split
    · rw [List.mem_cons, insG_mem, List.mem_cons]
      constructor <;> (intro h; rcases h with h | h | h <;> simp [h])
    · simp
theorem insG_srtd {α : Type} {k : α → List Int} {x : α} : ∀ {l : List α}, SrtO.Srtd (fun v u => lexLt (k v) (k u)) l → SrtO.Srtd (fun v u => lexLt (k v) (k u)) (insG k x l)
  | [], _ => List.pairwise_singleton _ _
  | z :: l, h => by
    rw [insG]
    have h' := List.pairwise_cons.mp h
    split
    · rename_i e
      refine List.pairwise_cons.mpr ⟨fun y hy => ?_, insG_srtd h'.2⟩
      rcases insG_mem.mp hy with rfl | hy
      · exact lexLt_asym _ _ e
      · exact h'.1 y hy
    · rename_i e
      have e' : lexLt (k z) (k x) = false := by simpa using e
      refine List.pairwise_cons.mpr ⟨fun y hy => ?_, h⟩
      rcases List.mem_cons.mp hy with rfl | hy
      · exact e'
      · exact lexLt_tr _ _ _ e' (h'.1 y hy)
theorem sortG_srtd {α : Type} (k : α → List Int) : ∀ l : List α, SrtO.Srtd (fun v u => lexLt (k v) (k u)) (sortG k l)
  | [] => List.Pairwise.nil
  | x :: l => insG_srtd (sortG_srtd k l)
theorem insG_perm {α : Type} (k : α → List Int) (x : α) : ∀ l : List α, (insG k x l).Perm (x :: l)
  | [] => List.Perm.refl _
  | z :: l => by
    rw [insG]
    split
    · exact ((insG_perm k x l).cons z).trans (List.Perm.swap x z l)
    · exact List.Perm.refl _
theorem insG_cls {α : Type} (k : α → List Int) (x u : α) : ∀ {l : List α}, SrtO.Srtd (fun v u => lexLt (k v) (k u)) l → (insG k x l).filter (SrtO.eqv (fun v u => lexLt (k v) (k u)) u) = (x :: l).filter (SrtO.eqv (fun v u => lexLt (k v) (k u)) u)
  | [], _ => rfl
  | z :: l, h => by
    have h' := List.pairwise_cons.mp h
    rw [insG]
    split
    · rename_i e
      rw [List.filter_cons, insG_cls k x u h'.2]
      -- z is below x: not both are like u
      by_cases hx : SrtO.eqv (fun v u => lexLt (k v) (k u)) u x = true
      · have hz : SrtO.eqv (fun v u => lexLt (k v) (k u)) u z = false := by
          obtain ⟨q1, q2⟩ := SrtO.eqv_iff.mp hx
          rcases SrtO.bcase (SrtO.eqv (fun v u => lexLt (k v) (k u)) u z) with q | q
          · obtain ⟨q3, q4⟩ := SrtO.eqv_iff.mp q
            have := lexLt_tr _ _ _ q1 q4
            have e' : lexLt (k z) (k x) = true := e
            rw [this] at e'
            cases e'
          · exact q
        rw [List.filter_cons_of_pos hx, List.filter_cons_of_pos hx, List.filter_cons_of_neg (by rw [hz]; decide), if_neg (by rw [hz]; decide)]
      · rw [List.filter_cons_of_neg hx, List.filter_cons_of_neg hx, List.filter_cons]
    · rfl
theorem sortG_stb {α : Type} (k : α → List Int) : ∀ l : List α, SrtO.Stb (fun v u => lexLt (k v) (k u)) (sortG k l) l
  | [] => SrtO.Stb.refl _
  | x :: l => by
    have ih := sortG_stb k l
    refine ⟨(insG_perm k x _).trans (ih.perm.cons x), fun u => ?_⟩
    show (insG k x (sortG k l)).filter _ = _
    rw [insG_cls k x u (sortG_srtd k l), List.filter_cons, List.filter_cons, ih.cls u]
/-- keys that are told -/
def KeyRel {α : Type} (f : α → List Int) (P : D → α → Prop) : List (List Int × D) → List α → Prop
  | [], us => us = []
  | p :: ps, us => ∃ v r, us = v :: r ∧ f v = p.1 ∧ P p.2 v ∧ KeyRel f P ps r
theorem KeyRel.ins {α : Type} {f : α → List Int} {P : D → α → Prop} {p : List Int × D} {v : α} (h1 : f v = p.1) (h2 : P p.2 v) : ∀ {ps : List (List Int × D)} {vs : List α}, KeyRel f P ps vs → KeyRel f P (insG (·.1) p ps) (insG f v vs)
  | [], vs, h => by simp only [KeyRel] at h; subst h; exact ⟨v, [], rfl, h1, h2, rfl⟩
  | q :: ps, vs, h => by
    obtain ⟨u, r, rfl, q1, q2, q3⟩ := h
    rw [insG, insG, q1, h1]
    split
    · exact ⟨u, _, rfl, q1, q2, KeyRel.ins h1 h2 q3⟩
    · exact ⟨v, _, rfl, h1, h2, u, r, rfl, q1, q2, q3⟩
theorem KeyRel.sort {α : Type} {f : α → List Int} {P : D → α → Prop} : ∀ {ps : List (List Int × D)} {vs : List α}, KeyRel f P ps vs → KeyRel f P (sortG (·.1) ps) (sortG f vs)
  | [], vs, h => by simp only [KeyRel] at h; subst h; rfl
  | q :: ps, vs, h => by
    obtain ⟨u, r, rfl, q1, q2, q3⟩ := h
    exact KeyRel.ins q1 q2 (KeyRel.sort q3)
/-- a value's key: an int, or a tuple of ints -/
def kVal (h : Heap) : Value → List Int
  | .int i _ => [i]
  | .ref a => (match h.get? a with
    | some o => (match o.data with
      | .seq its _ => its.toList.map SrtO.iv
      | _ => [])
    | none => [])
  | _ => []
/-- a tuple of ints -/
def IsIT (h : Heap) (v : Value) (l : List Int) : Prop := ∃ a o its n, v = .ref a ∧ h.get? a = some o ∧ o.cls = .type "tuple" ∧ o.data = .seq its n ∧ IntsAre its.toList l
theorem IsIT.key {h : Heap} {v : Value} {l : List Int} (t : IsIT h v l) : kVal h v = l := by
  obtain ⟨a, o, its, n, rfl, ho, hc, hd, hi⟩ := t
  simp only [kVal, ho, hd]
  exact SrtO.iv_ints hi
theorem IsIT.keeps {h h' : Heap} {v : Value} {l : List Int} (t : IsIT h v l) (k : ∀ b o, h.get? b = some o → o.cls = .type "tuple" → h'.get? b = some o) : IsIT h' v l := by
  obtain ⟨a, o, its, n, rfl, ho, hc, hd, hi⟩ := t
  exact ⟨a, o, its, n, rfl, k a o ho hc, hc, hd, hi⟩
section
variable {prog : Program} {w : World} {A : Around} {E : Value → Shared → Prop} {s : Shared}
theorem lexK {b : Bool} {Q : Bool → Shared → Prop} : ∀ {xs ys : List Value} {u v : List Int} (i : Nat) (fin : Bool), IntsAre xs u → IntsAre ys v → fin = decide (xs.length < ys.length) → Q (lexLt u v) s → PySem.W.KatLex prog w A b fin Q (xs.zip ys) i s
  | _, _, _, _, i, fin, .nil, .nil, hf, h => by subst hf; exact PySem.W.kat_nil h
  | _, _, _, _, i, fin, .nil, .cons _ _ _, hf, h => by subst hf; exact PySem.W.kat_nil h
  | _, _, _, _, i, fin, .cons _ _ _, .nil, hf, h => by subst hf; exact PySem.W.kat_nil h
  | _, _, _, _, i, fin, .cons x t r, .cons y t' r', hf, h => by
    refine PySem.W.kat_cons (SeqAt.EqAt.int_int x t y t' prog w _ _ ?_)
    refine PySem.W.kat_go (fun e1 => ?_) (fun e1 => ?_)
    · have ex : x = y := by simpa using e1
      rw [lexLt, if_pos ex] at h
      exact PySem.W.kat_yes (lexK (i + 1) fin r r' (by rw [hf]; simp) h)
    · have ex : ¬ x = y := by simpa using e1
      rw [lexLt, if_neg ex] at h
      refine PySem.W.kat_no ?_
      cases hb : (b && i == 0) with
      | true => exact oneLt_int h
      | false => exact PySem.W.kat_one _ _ (PyProof.Rows.lt_int h)
theorem tup_cmp {vs : List Value} {k : Value → List Int} (hp : ∀ v ∈ vs, IsIT s.heap v (k v)) : SrtO.Cmp prog w A s (tuples' true) (fun p => p.1 ∈ vs) (SrtO.lt2 fun v u => lexLt (k v) (k u)) := by
  intro p q hm hm'
  have h1 := hp _ hm
  have h2 := hp _ hm'
  show wpAny (model prog w) A (keyLt' (tuples' true) p.1 q.1) (fun r s' => s' = s ∧ r = lexLt (k p.1) (k q.1)) (fun _ _ => False) s
  generalize k p.1 = x at h1 ⊢
  generalize k q.1 = x' at h2 ⊢
  obtain ⟨a, o, its, n, e, ho, hc, hd, hi⟩ := h1
  obtain ⟨a', o', its', n', e', ho', hc', hd', hi'⟩ := h2
  rw [e, e']
  exact PySem.W.kat_lt ho hd ho' hd' (lexK 0 _ hi hi' (by simp) ⟨rfl, rfl⟩)
theorem firsts_ints {h : Heap} {k : Value → List Int} : ∀ {vs : List Value}, (∀ v ∈ vs, IsIT h v (k v) ∧ k v ≠ []) → ∃ fs, PySem.W.KatTups h vs fs ∧ fs.length = vs.length ∧ ∀ f ∈ fs, ∃ i t, f = Value.int i t
  | [], _ => ⟨[], PySem.W.KatTups.nil, rfl, fun f hf => by simp at hf⟩
  | v :: vs, hv => by
    obtain ⟨fs, h1, h2, h3⟩ := firsts_ints (vs := vs) fun u hu => hv u (List.mem_cons_of_mem _ hu)
    obtain ⟨⟨a, o, its, n, rfl, ho, hc, hd, hi⟩, hne⟩ := hv v List.mem_cons_self
    cases e : its.toList with
    | nil =>
      rw [e] at hi
      cases hk : k (.ref a) with
      | nil => exact absurd hk hne
      | cons _ _ => rw [hk] at hi; cases hi
    | cons f r =>
      rw [e] at hi
      have hf : ∃ i t, f = Value.int i t := SrtO.ints_mem hi f List.mem_cons_self
      have h0 : its[0]? = some f := by
        rw [← Array.getElem?_toList, e]; rfl
      refine ⟨f :: fs, PySem.W.KatTups.cons ho hc hd h0 h1, by simp [h2], fun g hg => ?_⟩
      rcases List.mem_cons.mp hg with rfl | hg
      · exact hf
      · exact h3 g hg
theorem tups_sortable {a : Addr} {vs : List Value} {k : Value → List Int} (h0 : 0 < vs.length) (hp : ∀ v ∈ vs, IsIT s.heap v (k v) ∧ k v ≠ []) (ha : ∀ o, s.heap.get? a = some o → o.cls ≠ .type "tuple") : SrtO.SortableO prog w A s a vs fun v u => lexLt (k v) (k u) := by
  intro h' keep
  have hp' : ∀ v ∈ vs, IsIT h' v (k v) ∧ k v ≠ [] := fun v hm => ⟨(hp v hm).1.keeps fun b o e c => keep b o (fun z => by subst z; exact ha o e c) e, (hp v hm).2⟩
  obtain ⟨fs, h1, h2, h3⟩ := firsts_ints hp'
  refine ⟨tuples' true, fun Q E hq => ?_, tup_cmp fun v hm => (hp' v hm).1⟩
  refine PySem.W.kat_kind (T := .type "int") h1 (by omega) (fun f hm => ?_) (by rfl) ?_
  · obtain ⟨x, t, rfl⟩ := h3 f hm
    exact PySem.W.Looks.now
  · have e : (Value.type "int" != Value.type "tuple") = true := by first | decide +kernel | rfl | decide
    rw [e]
    exact hq
theorem int1_cmp {vs : List Value} {h : Heap} (hI : ∀ v ∈ vs, ∃ i t, v = Value.int i t) : SrtO.Cmp prog w A s oneType' (fun p => p.1 ∈ vs) (SrtO.lt2 fun v u => lexLt (kVal h v) (kVal h u)) := by
  intro p q hm hm'
  obtain ⟨a, t, e⟩ := hI _ hm
  obtain ⟨b, u, e'⟩ := hI _ hm'
  show wpAny (model prog w) A (keyLt' oneType' p.1 q.1) (fun r s' => s' = s ∧ r = lexLt (kVal h p.1) (kVal h q.1)) (fun _ _ => False) s
  rw [e, e', keyLt'_oneType]
  refine oneLt_int ⟨rfl, ?_⟩
  show decide (a < b) = lexLt [a] [b]
  rw [lexLt]
  by_cases hab : a = b
  · subst hab; rw [if_pos rfl]; simp [lexLt]
  · rw [if_neg hab]
theorem ints1_sortable {a : Addr} {vs : List Value} {ns : List Int} {h : Heap} (hI : IntsAre vs ns) (h2 : 2 ≤ vs.length) : SrtO.SortableO prog w A s a vs fun v u => lexLt (kVal h v) (kVal h u) := by
  intro h' _
  refine ⟨oneType', fun Q E hq => ?_, int1_cmp fun v hv => SrtO.ints_mem hI v hv⟩
  match vs, hI, h2 with
  | v1 :: v2 :: rest, hI, _ =>
    rw [keyKind_ints hI]
    exact wpAny_pure hq
  | [], _, h => exact absurd h (by decide)
  | [v], _, h => exact absurd h (by simp)
end
theorem keyRel_of {W : Wd} {K : PySem.W.Frag} {f : Value → List Int} {P : D → Value → Prop} : ∀ {ks : List (List Int)} {ds : List D} {us : List Value}, ks.length = ds.length → us.length = ds.length → (∀ (i : Nat) (k : List Int) (d : D) (u : Value), ks[i]? = some k → ds[i]? = some d → us[i]? = some u → f u = k ∧ P d u) → KeyRel f P (ks.zip ds) us
  | [], [], us, _, h, _ => by
    have : us = [] := List.eq_nil_of_length_eq_zero h
    subst this; rfl
  | [], _ :: _, _, h, _, _ => by simp at h
  | _ :: _, [], _, h, _, _ => by simp at h
  | k :: ks, d :: ds, us, h1, h2, h3 => by
    cases us with
    | nil => simp at h2
    | cons u us =>
      obtain ⟨q1, q2⟩ := h3 0 k d u rfl rfl rfl
      exact ⟨u, us, rfl, q1, q2, keyRel_of (W := W) (K := K) (by simpa using h1) (by simpa using h2) fun i k' d' u' e1 e2 e3 => h3 (i + 1) k' d' u' (by simpa using e1) (by simpa using e2) (by simpa using e3)⟩
theorem keyRel_reps {W : Wd} {K : PySem.W.Frag} {f : Value → List Int} : ∀ {ps : List (List Int × D)} {us : List Value}, KeyRel f (fun d u => ∃ v, RelV v u ∧ VRep W K G m d v) ps us → ∃ vs, Vals vs us ∧ VReps W K G m (ps.map (·.2)) vs
  | [], us, h => by simp only [KeyRel] at h; subst h; exact ⟨[], .nil, VReps.nil⟩
  | q :: ps, us, h => by
    obtain ⟨u, r, rfl, q1, ⟨v, q2, q2'⟩, q3⟩ := h
    obtain ⟨vs, h1, h2⟩ := keyRel_reps q3
    exact ⟨v :: vs, .cons q2 h1, VReps.cons q2' h2⟩
theorem okeys_get {k : Nat} : ∀ {ds : List D} {ks : List (List Int)}, okeys k ds = some ks → ks.length = ds.length ∧ ∀ (i : Nat) (d : D), ds[i]? = some d → ∃ l, ks[i]? = some l ∧ okey k d = some l
  | [], ks, h => by simp only [okeys, Option.some.injEq] at h; subst h; exact ⟨rfl, fun i d h => by simp at h⟩
  | x :: ds, ks, h => by
    rw [okeys] at h
    cases e1 : okey k x with
    | none => rw [e1] at h; cases h
    | some a =>
      cases e2 : okeys k ds with
      | none => rw [e1, e2] at h; cases h
      | some r =>
        rw [e1, e2] at h
        simp only [Option.some.injEq] at h
        subst h
        obtain ⟨q1, q2⟩ := okeys_get e2
        refine ⟨by simp [q1], fun i d hd => ?_⟩
        cases i with
        | zero => simp at hd; subst hd; exact ⟨a, rfl, e1⟩
        | succ i => exact q2 i d (by simpa using hd)
/-- sorted(xs) -/
theorem b_sorted : CallR X (.builtin "sorted") (rB c X.K .sorted) := by
  rintro pins s σ H xs us Q I r ⟨σ', pv, m, Z, G, ds, R, rs, h⟩
  match ds, h with
  | [a], h =>
    obtain ⟨x, rfl, ra⟩ := rs.inv1
    simp only [biOp] at h
    split at h
    · rename_i ds e
      obtain ⟨p, vs, rfl, q1, q2⟩ := lst_at R ra e
      obtain ⟨its, rv, hl, hz⟩ := I.list (SqL.of (K := X.K) q1)
      rw [Vals.ref1 r]
      have l1 := q2.length
      have l2 := rv.length
      have hz' : its.length ≤ sizeLine := by rw [← l2]; exact hz
      -- what comes out
      have fin : ∀ (ltv : Value → Value → Bool) (O : SrtO.Swo ltv), (2 ≤ its.length → ∀ (h₁ : Heap) (a : Addr), h₁.get? a = some (seqObj "list" its.toArray 0) → (∀ b o, s.heap.get? b = some o → b ≠ a ∧ h₁.get? b = some o) → SrtO.SortableO X.prog X.w X.A.in1.in1 { s with heap := h₁ } a its ltv) →
          (∀ out, SrtO.Srtd ltv out → SrtO.Stb ltv out its → ∃ ys ws, sortD ds = some ys ∧ Vals ws out ∧ VReps c.W X.K G m ys ws) → wpAny (model X.prog X.w) X.A (call (.builtin "sorted") [.ref p]) (EP X pins σ Q) X.xe s := fun ltv O hs hout => by
        refine SrtO.sorted_ord O hl.isList hz' hs fun out h1 h2 => ?_
        obtain ⟨ys, ws, e1, e2, e3⟩ := hout out h1 h2
        rw [e1] at h
        obtain ⟨ep, he'⟩ := PyProof.Rows.sortedAll_at s.heap its out.toArray
        have hlen : ws.length ≤ sizeLine := by rw [e2.length, h2.perm.length_eq]; exact hz'
        exact ⟨.ref _, upd H (s.heap.objs.size + 1) (.lst ws), I.laid (t' := s.toks) (fun _ _ => PyProof.Rows.sortedAll_old) (Nat.le_succ _) ⟨hlen, out, ep, e2, he'⟩, rfl, h.lst R (I.hok.fresh (Nat.le_succ _)) e3⟩
      by_cases h1 : ds.length ≤ 1
      · refine fin (fun _ _ => false) ⟨(fun _ _ h => Bool.noConfusion h), fun _ _ _ _ _ => rfl⟩ (fun h2 => by omega) fun out o1 o2 => ⟨ds, vs, by rw [sortD, if_pos h1], ?_, q2⟩
        have hp := o2.perm
        have : out = its := by
          match its, out, l2, hp with
          | [], out, _, hp => exact List.Perm.eq_nil hp
          | [u], out, _, hp => exact List.perm_singleton.mp hp
          | _ :: _ :: _, _, l2, _ => simp at l2; omega
        rw [this]; exact rv
      · cases es : sortD ds with
        | none => rw [es] at h; exact h.elim
        | some ys =>
          have es' := es
          rw [sortD, if_neg h1] at es
          simp only at es
          split at es
          · rename_i hk
            cases ek : okeys (okind ds) ds with
            | none => rw [ek] at es; cases es
            | some ks =>
              rw [ek] at es
              simp only at es
              split at es
              · cases es
              · rename_i hne
                simp only [Option.some.injEq] at es
                obtain ⟨k1, k2⟩ := okeys_get ek
                -- each value, its key
                have each : ∀ (i : Nat) (k : List Int) (d : D) (u : Value), ks[i]? = some k → ds[i]? = some d → its[i]? = some u → kVal s.heap u = k ∧ (∃ v, RelV v u ∧ VRep c.W X.K G m d v) ∧ ((okind ds = 0 ∧ ∃ j t, u = .int j t ∧ k = [j]) ∨ (okind ds = 1 ∧ IsIT s.heap u k)) := fun i k d u e1 e2 e3 => by
                  obtain ⟨l, e4, e5⟩ := k2 i d e2
                  rw [e1] at e4
                  cases e4
                  obtain ⟨v, e6, e7⟩ := q2.get e2
                  obtain ⟨u', e8, e9⟩ := rv.get e6
                  rw [e3] at e8
                  cases e8
                  rcases hk with hk | hk
                  · rw [hk] at e5
                    cases d <;> simp [okey] at e5
                    rename_i j
                    subst e5
                    have e7' := e7
                    simp only [VRep] at e7
                    subst e7
                    obtain ⟨t, rfl⟩ := e9
                    exact ⟨rfl, ⟨V.int j, ⟨t, rfl⟩, e7'⟩, .inl ⟨hk, j, t, rfl, rfl⟩⟩
                  · rw [hk] at e5
                    have e7' := e7
                    cases d <;> simp [okey] at e5
                    rename_i ys
                    simp only [VRep] at e7
                    obtain ⟨b, ws, rfl, e10, e11⟩ := e7
                    obtain ⟨e12, _⟩ := e11.ints e5
                    subst e12
                    obtain ⟨its2, r2, ⟨⟨cls, dd, data, sl⟩, ho, hc, n, hd⟩, hs2⟩ := I.tuple (SqT.of (K := X.K) (R.up _ _ e10))
                    simp only at hc hd
                    cases e9
                    have it : IsIT s.heap (.ref b) k := ⟨b, _, its2.toArray, n, rfl, ho, hc, hd, by simpa using intsAre_of r2⟩
                    exact ⟨it.key, ⟨V.ref b, rfl, e7'⟩, .inr ⟨hk, it⟩⟩
                have kr : KeyRel (kVal s.heap) (fun d u => ∃ v, RelV v u ∧ VRep c.W X.K G m d v) (ks.zip ds) its := keyRel_of (W := c.W) (K := X.K) k1 (by omega) fun i k d u e1 e2 e3 => ⟨(each i k d u e1 e2 e3).1, (each i k d u e1 e2 e3).2.1⟩
                have mem : ∀ u ∈ its, ∃ (i : Nat) (k : List Int) (d : D), ks[i]? = some k ∧ ds[i]? = some d ∧ its[i]? = some u := fun u hu => by
                  obtain ⟨i, hi, e⟩ := List.mem_iff_getElem.mp hu
                  have hi2 : i < ds.length := by omega
                  have hi3 : i < ks.length := by omega
                  exact ⟨i, _, _, List.getElem?_eq_getElem hi3, List.getElem?_eq_getElem hi2, by rw [List.getElem?_eq_getElem hi, e]⟩
                refine fin (fun v u => lexLt (kVal s.heap v) (kVal s.heap u)) (swo_key _) (fun h2 h₁ a' ha kk => ?_) fun out o1 o2 => ?_
                · rcases hk with hk | hk
                  · have hI : IntsAre its (its.map SrtO.iv) := SrtO.ints_iv fun u hu => by
                      obtain ⟨i, k, d, e1, e2, e3⟩ := mem u hu
                      rcases (each i k d u e1 e2 e3).2.2 with ⟨_, j, t, e4, _⟩ | ⟨z, _⟩
                      · exact ⟨j, t, e4⟩
                      · rw [hk] at z; cases z
                    exact ints1_sortable hI h2
                  · refine tups_sortable (s := { s with heap := h₁ }) (k := kVal s.heap) (by omega) (fun u hu => ?_) fun o e => ?_
                    · obtain ⟨i, k, d, e1, e2, e3⟩ := mem u hu
                      obtain ⟨g1, _, g3⟩ := each i k d u e1 e2 e3
                      rcases g3 with ⟨z, _⟩ | ⟨_, it⟩
                      · rw [hk] at z; cases z
                      · rw [g1]
                        refine ⟨it.keeps fun b o e _ => (kk b o e).2, fun z => ?_⟩
                        subst z
                        exact hne (List.contains_iff_mem.mpr (List.mem_of_getElem? e1))
                    · have e' : some o = some (seqObj "list" its.toArray 0) := e.symm.trans ha
                      cases e'
                      intro c
                      exact absurd (Value.type.inj c) (by decide)
                · have : out = sortG (kVal s.heap) its := SrtO.stb_uniq (swo_key _) o1 (sortG_srtd _ _) (o2.trans ⟨(sortG_stb (kVal s.heap) its).perm.symm, fun x => ((sortG_stb (kVal s.heap) its).cls x).symm⟩)
                  subst this
                  obtain ⟨ws, w1, w2⟩ := keyRel_reps kr.sort
                  refine ⟨ys, ws, es', w1, ?_⟩
                  rw [← es, sortBy_G]
                  exact w2
          · cases es
    · exact h.elim
end
end Fw
end
section
set_option Elab.async false
set_option linter.all false
set_option maxRecDepth 100000
set_option maxHeartbeats 1000000
/-! Fw.Sound: dict comprehensions, whose keys are numbers or tuples of numbers -/
namespace Fw
open PySem PySem.Spec PyProof.Rows L2
section
variable {X : Cx}
/-- a dict in the making takes a pair -/
theorem put_pair {ps : List (Addr × Obj)} {σ : L2.St} {H H' : Hp} {t : Shared} {E : Value → Shared → Prop} {L : Addr} {y v : V} {u r : Value} {Q : Unit → Shared → Prop} (hu : X.A.units + 1 < cLine) (J : Inv X ps σ H t) (g : DPut H L y v H') (ry : RelV y u) (rv : RelV v r)
    (q : ∀ t', Inv X ps σ H' t' → Q () t') : wpAny (model X.prog X.w) X.A (dictSet L u r) Q E t := by
  rcases g with ⟨kv, k, e, ey, l, eH⟩ | ⟨kv, k, b, e, ey, eb, l, eH⟩
  · subst ey eH
    exact d_dictSet J e l ry rv q
  · subst ey eH
    obtain rfl : u = Value.ref b := ry
    obtain ⟨z, lo, xs, rel, dd⟩ := dt_of J.hok e
    have z1 : xs.length ≤ sizeLine := (Paired.length rel) ▸ z
    have z2 : (putK kv k v).length ≤ sizeLine := Nat.le_trans (length_putK kv k v) (by omega)
    refine wpAny_dictSet_heap (hsz := z1) (show X.A.units < cLine by omega) (key_of J.hok eb) dd fun h' dd' hb => q _ ?_
    obtain ⟨o, es, ep, w1, w2, w3, w4, _, w5⟩ := dd'
    refine d_write J (by rw [e]; exact True.intro) hb ⟨o, w1⟩ ⟨z2, lo, _, (rel.put k eb rv).keeps fun c ys ec => ?_, o, es, ep, w1, w2, w3, w4, w5⟩
    have : c ≠ L := fun z => by rw [z, e] at ec; cases ec
    rw [upd_ne this]; exact ec
/-- {k: v for tg in iter}: the new dict L stands from the first as o -/
def tDg (o : HO) (wi : TI) (g : TG) (tk tv : TE) (vs : List Nat) : TE := fun σ H Q => wi σ H fun J H1 => ∀ L, H1 L = none → ∃ W : Nat → Nat → Hp → Prop, (∃ n, W 0 n (upd H1 L o)) ∧ ∀ i n H, W i n H →
  (J.stop i H ∧ Q (.ref L) H) ∨ (J.go i H ∧ ∃ N : Hp → Prop, (∀ H', N H' → ∃ n', n' < n ∧ W (i + 1) n' H') ∧ ∀ x H', J.yld i H x H' → g x (L2.wipe σ vs) H' fun σ2 H2 => L2.wipe σ2 vs = L2.wipe σ vs ∧
    tk σ2 H2 fun y H4 => tv σ2 H4 fun z H5 => ∃ H6, DPut H5 L y z H6 ∧ N H6)
theorem dg_core {o : HO} {ps : List (Addr × Obj)} {t : Shared} {σ : L2.St} {H : Hp} {Q : VK} {use : Option (Value → Sem Unit)} {Qf : Value → Shared → Prop} {pos' : Pos} {kx vx tg iter : Expr} {scope : Scope} {own : List (PySem.Str × Nat)} {pos : Pos} {wi : TI} {g : TG} {tk tv : TE} (hu : X.A.units + 1 < cLine) (hc : X.calm = true) (hN : X.N.Nodup) (ho : o = .dK [] ∨ o = .dT []) (hi : PI X tg iter wi) (ok : BlkOk X.N X.env.scope scope own)
    (hg : ∀ (s : Shared) (H : Hp) (C : Addr) (cl : List (PySem.Str × Addr)) (fp : List Addr), PG (X.blk s H scope (compEnvC scope cl C X.env) fp) tg g)
    (hk : ∀ (s : Shared) (H : Hp) (C : Addr) (cl : List (PySem.Str × Addr)) (fp : List Addr), PE (X.blk s H scope (compEnvC scope cl C X.env) fp) kx tk)
    (he : ∀ (s : Shared) (H : Hp) (C : Addr) (cl : List (PySem.Str × Addr)) (fp : List Addr), PE (X.blk s H scope (compEnvC scope cl C X.env) fp) vx tv) (hs : noSetD iter = true)
    (I : Inv X ps σ H t) (h : tDg o wi g tk tv (own.map (·.2)) σ H Q)
    (fine : ∀ (L C : Addr) (t' : Shared) (mm : PySem.Str → Option Value) (H' : Hp), Inv X ps σ H' t' → Q (.ref L) H' → t'.heap.Ns C mm → FpOk X ps H' C → compPost (model X.prog X.w) X.A X.xe use Qf (.ref L) C (.ok .next) t') :
    wpAny (model X.prog X.w) X.A (comprehension (.DictComp kx vx [⟨tg, iter, [], 0⟩] scope pos) scope X.env pos' newDict false (eval iter X.env) use) Qf X.xe t := by
  have cells : ∀ y ∈ scope.names, y.2 = .free → ∃ c, X.env.cells.lookup y.1 = some c := fun y hy e => (ok.free y hy e).elim (fun k => I.ok.has _ (.inl k)) fun k => I.ok.has _ (.inr k)
  refine wpAny_comprehension_free (use := use) rfl (fun x => by cases iter <;> first | rfl | (simp [noSetD] at hs)) (closure_ok cells) ok.kind (fun y hy e => by rw [ok.uniq y hy, e]) (thn (hi.run ps t σ H _ I h) fun x0 t1 q1 => thn q1 fun it0 t2 q2 => ?_)
  obtain ⟨it, fp, tn, J, H2, e0, I2, T, st2, f2, q⟩ := q2
  subst e0
  refine wpAny_newObj_type (newEnv_comp ?_)
  obtain ⟨L, hL⟩ : ∃ L, t2.heap.objs.size = L := ⟨_, rfl⟩
  rw [hL]
  have nL : H2 L = none := I2.hok.fresh (Nat.le_of_eq hL)
  obtain ⟨W, ⟨n0, w0⟩, turn⟩ := q L nL
  obtain ⟨t3, ht3⟩ : ∃ t3 : Shared, t3 = { t2 with heap := t2.heap.push { cls := .type "dict", data := .dict #[] } } := ⟨_, rfl⟩
  have I3 : Inv X ps σ (upd H2 L o) t3 := by
    subst ht3
    refine I2.laid (t' := t2.toks) (fun b u e => Heap.get?_push_of_some _ e) (Nat.le_of_eq hL) ?_
    rw [← hL]
    rcases ho with rfl | rfl
    · exact dk_empty t2.heap I2.big
    · exact dt_empty t2.heap I2.big
  have hp3 : t3.heap = t2.heap.push { cls := .type "dict", data := .dict #[] } := by rw [ht3]
  have young : ∀ b ∈ fp, b < t2.heap.objs.size := fun b hb => let ⟨_, e, _⟩ := T.obj _ _ st2 b hb; Heap.lt_size e
  have f3 : ∀ b ∈ fp, FpOk X ps (upd H2 L o) b ∧ b < t3.heap.objs.size := fun b hb => by
    have lt := young b hb
    have ne : b ≠ L := Nat.ne_of_lt (hL ▸ lt)
    exact ⟨⟨by rw [upd_ne ne]; exact (f2 b hb).1, (f2 b hb).2⟩, by rw [hp3, Heap.size_push]; exact Nat.lt_succ_of_lt lt⟩
  have st3 : tn 0 t3.heap := T.keep _ _ _ st2 fun b _ u e => by rw [hp3]; exact Heap.get?_push_of_some _ e
  have I4 := block_start I3 ok hN f3
  obtain ⟨cl, hcl⟩ : ∃ cl, cl = cellsFrom (t3.heap.objs.size + 1) scope.names (cloFrom X.env.cells scope.names []) := ⟨_, rfl⟩
  obtain ⟨C, hC⟩ : ∃ C, C = t3.heap.objs.size := ⟨_, rfl⟩
  rw [← hcl, ← hC] at I4
  obtain ⟨ce, hce⟩ : ∃ ce, ce = compEnvC scope cl C X.env := ⟨_, rfl⟩
  have gG := hg t3 (upd H2 L o) C cl fp
  have gK := hk t3 (upd H2 L o) C cl fp
  have gV := he t3 (upd H2 L o) C cl fp
  rw [← hce] at I4 gG gK gV
  have locC : ce.locals = C := by rw [hce]; rfl
  show codeAny _ _ (.compStart (.DictComp kx vx [⟨tg, iter, [], 0⟩] scope pos) 0 (.ref it) (.ref L) (compEnvC scope (cellsFrom ({ t2 with heap := t2.heap.push { cls := .type "dict", data := .dict #[] } } : Shared).heap.objs.size.succ scope.names (cloFrom X.env.cells scope.names [])) ({ t2 with heap := t2.heap.push { cls := .type "dict", data := .dict #[] } } : Shared).heap.objs.size X.env))
    (compPost (model X.prog X.w) X.A X.xe use Qf (.ref L) ({ t2 with heap := t2.heap.push { cls := .type "dict", data := .dict #[] } } : Shared).heap.objs.size) { ({ t2 with heap := t2.heap.push { cls := .type "dict", data := .dict #[] } } : Shared) with heap := pushCells (({ t2 with heap := t2.heap.push { cls := .type "dict", data := .dict #[] } } : Shared).heap.push { cls := .type "dict", data := .dict #[] }) scope.names }
  rw [← ht3]
  show codeAny _ _ (.compStart (.DictComp kx vx [⟨tg, iter, [], 0⟩] scope pos) 0 (.ref it) (.ref L) (compEnvC scope (cellsFrom (t3.heap.objs.size + 1) scope.names (cloFrom X.env.cells scope.names [])) t3.heap.objs.size X.env)) (compPost (model X.prog X.w) X.A X.xe use Qf (.ref L) t3.heap.objs.size) _
  rw [← hcl, ← hC, ← hce]
  have n3 : ∀ b ∈ fp, upd H2 L o b = none := fun b hb => (f3 b hb).1.1
  obtain ⟨H3, hH3⟩ : ∃ H3, H3 = upd H2 L o := ⟨_, rfl⟩
  rw [← hH3] at I3 I4 gG gK gV w0 n3 f3
  obtain ⟨t4, ht4⟩ : ∃ t4 : Shared, t4 = { t3 with heap := pushCells (t3.heap.push { cls := .type "dict", data := .dict #[] }) scope.names } := ⟨_, rfl⟩
  rw [← ht4] at I4 ⊢
  have st4 : tn 0 t4.heap := T.keep _ _ _ st3 fun b _ u e => by rw [ht4]; exact pushCells_keeps _ _ _ _ (Heap.get?_push_of_some _ e)
  have still : ∀ {σ' : L2.St} {H' : Hp} {t' : Shared}, Inv (X.blk t3 H3 scope ce fp) [] σ' H' t' → (∀ b ∈ fp, H' b = none) → ∀ b ∈ fp, FpOk (X.blk t3 H3 scope ce fp) [] H' b := fun {σ' H' t'} I' hn b hb =>
    ⟨hn b hb, (I'.ok.exf b hb).1, I'.ok.exfs b hb, .inl hb, fun x c e => (I'.ok.exf b hb).2 x c e, fun p hp => absurd (show p ∈ ([] : List (Addr × Obj)) ++ [] from hp) (by simp)⟩
  have loop : codeAny (model X.prog X.w) X.A (.compLoop (.DictComp kx vx [⟨tg, iter, [], 0⟩] scope pos) 0 (.ref it) (.ref L) ce) (compPost (model X.prog X.w) X.A X.xe use Qf (.ref L) C) t4 := by
    refine compLoop_anyD (fun n t' => ∃ i H', Inv (X.blk t3 H3 scope ce fp) [] (L2.wipe σ (own.map (·.2))) H' t' ∧ tn i t'.heap ∧ (∀ b ∈ fp, H' b = none) ∧ W i n H') ?_ n0 ⟨0, H3, I4, st4, n3, w0⟩
    rintro n t5 ⟨i, H5, I5, st5, n5, w5⟩
    rcases turn i n H5 w5 with ⟨stop, fin⟩ | ⟨go, N, hN', step⟩
    · refine thnF (T.done (X.blk t3 H3 scope ce fp) rfl rfl rfl hc i [] t5 _ H5 (fun _ _ => False) I5 (still I5 n5) st5 stop) fun r t6 ⟨hr, I6⟩ => ?_
      subst hr
      have I7 : Inv X ps σ H5 t6 := I3.call' (ch := fp) I6.os I6.base I6.hok I6.bare fun b hb => let z := (f3 b hb).1.2; ⟨z.2.2.1, z.1, z.2.2.2.1, z.2.2.2.2⟩
      have nC : H5 C = none := locC ▸ (show H5 ce.locals = none from I6.free)
      obtain ⟨mm, ns, _⟩ := I6.loc
      have ns : t6.heap.Ns ce.locals mm := ns
      rw [locC] at ns
      exact fine L C t6 mm H5 I7 fin ns (I3.fpOk (H' := H5) (b := C) (by rw [hC]; exact Nat.le_refl _) nC)
    · refine thnF (T.item (X.blk t3 H3 scope ce fp) rfl rfl rfl hc i [] t5 _ H5 (fun _ _ => False) I5 (still I5 n5) st5 go) fun r t6 ⟨u, hr, q6⟩ => ?_
      subst hr
      refine thnF q6 fun _ t7 ⟨x, H7, I7, r7, y7, st7, n7⟩ => ?_
      have P7 := I7.pinned (still I7 n7) (T.obj _ _ st7)
      refine thnF (gG.run _ t7 _ H7 x u _ P7 r7 (step x H7 y7)) fun _ t8 ⟨σ8, H8, I8, same, q8⟩ => ?_
      refine wpAny_tests_nil ?_
      rw [if_pos rfl]
      refine thnF (gK.run _ t8 σ8 H8 _ I8 q8) fun kv t9 ⟨yk, H9, I9, r9, q9⟩ => thnF (gV.run _ t9 σ8 H9 _ I9 q9) fun vv t10 ⟨yv, H10, I10, r10, H11, put, nx⟩ => ?_
      refine put_pair (X := X.blk t3 H3 scope ce fp) hu I10 put r9 r10 fun t11 I11 => ?_
      obtain ⟨n', lt, w'⟩ := hN' H11 nx
      have pinned : ∀ b ∈ fp, ∀ ob, t7.heap.get? b = some ob → t11.heap.get? b = some ob ∧ H11 b = none := fun b hb ob e => let z := I11.pin (b, ob) (List.mem_append_right _ (List.mem_append_right _ (mem_pinsAt hb e))); ⟨z.1, z.2.1⟩
      refine ⟨n', lt, i + 1, H11, (I11.unpinned (pins := [])).weak (by rw [← same, wipe_length]) (fun j v e => (wipe_some (same ▸ e)).1), T.keep _ _ _ st7 fun b hb ob e => (pinned b hb ob e).1, fun b hb => let ⟨ob, e, _⟩ := T.obj _ _ st7 b hb; (pinned b hb ob e).2, w'⟩
  exact codeAny_compStart_dict loop (T.self X.A 0 _ _ _ st4 loop)
theorem pe_dg {o : HO} {kx vx tg iter : Expr} {scope : Scope} {own : List (PySem.Str × Nat)} {pos : Pos} {wi : TI} {g : TG} {tk tv : TE} (hu : X.A.units + 1 < cLine) (hc : X.calm = true) (hN : X.N.Nodup) (ho : o = .dK [] ∨ o = .dT []) (hi : PI X tg iter wi) (ok : BlkOk X.N X.env.scope scope own)
    (hg : ∀ (s : Shared) (H : Hp) (C : Addr) (cl : List (PySem.Str × Addr)) (fp : List Addr), PG (X.blk s H scope (compEnvC scope cl C X.env) fp) tg g)
    (hk : ∀ (s : Shared) (H : Hp) (C : Addr) (cl : List (PySem.Str × Addr)) (fp : List Addr), PE (X.blk s H scope (compEnvC scope cl C X.env) fp) kx tk)
    (he : ∀ (s : Shared) (H : Hp) (C : Addr) (cl : List (PySem.Str × Addr)) (fp : List Addr), PE (X.blk s H scope (compEnvC scope cl C X.env) fp) vx tv) (hs : noSetD iter = true) :
    PE X (.DictComp kx vx [⟨tg, iter, [], 0⟩] scope pos) (tDg o wi g tk tv (own.map (·.2))) := by
  refine ⟨fun ps t σ H Q I h => ?_⟩
  rw [arm_eval_DictComp]
  refine dg_core hu hc hN ho hi ok hg hk he hs I h fun L C t6 mm H5 I7 fin ns fp => ⟨mm, ns, fun h'' sb => ?_⟩
  obtain ⟨f0, f1, _, fa, fb, fc⟩ := fp
  exact ⟨.ref L, H5, I7.turned (t' := t6.toks) (fun b u hb e => (sb.2 b hb).trans e) f0 f1 fa fb fc, rfl, fin⟩
/-- name = {..} on one line -/
theorem ps_setDg {o : HO} {i : Nat} {y : PySem.Str} {py spos : Pos} {kx vx tg iter : Expr} {scope : Scope} {own : List (PySem.Str × Nat)} {pos : Pos} {wi : TI} {g : TG} {tk tv : TE} (hu : X.A.units + 1 < cLine) (hc : X.calm = true) (hN : X.N.Nodup) (ho : o = .dK [] ∨ o = .dT []) (hy : X.N[i]? = some y) (hyl : X.env.scope.names.lookup y = some .local)
    (hsw : swapsWith (.DictComp kx vx [⟨tg, iter, [], 0⟩] scope pos) (some (.Name y py)) spos.line X.env = pure true) (hi : PI X tg iter wi) (ok : BlkOk X.N X.env.scope scope own)
    (hg : ∀ (s : Shared) (H : Hp) (C : Addr) (cl : List (PySem.Str × Addr)) (fp : List Addr), PG (X.blk s H scope (compEnvC scope cl C X.env) fp) tg g)
    (hk : ∀ (s : Shared) (H : Hp) (C : Addr) (cl : List (PySem.Str × Addr)) (fp : List Addr), PE (X.blk s H scope (compEnvC scope cl C X.env) fp) kx tk)
    (he : ∀ (s : Shared) (H : Hp) (C : Addr) (cl : List (PySem.Str × Addr)) (fp : List Addr), PE (X.blk s H scope (compEnvC scope cl C X.env) fp) vx tv) (hs : noSetD iter = true) :
    PS X (.Assign [.Name y py] (.DictComp kx vx [⟨tg, iter, [], 0⟩] scope pos) spos) (tAsg (tDg o wi g tk tv (own.map (·.2))) (gName i)) := by
  refine ⟨fun ps t σ H D I h => ?_⟩
  rw [exec_Assign_Name_used _ _ _ _ hsw]
  refine wpAny_bind (wpAny_standAt (wpAny_bind ?_))
  have h : tDg o wi g tk tv (own.map (·.2)) σ H (fun x H1 => gName i x σ H1 D.nx) := h
  refine wpAny_bind (thn (dg_core (Qf := fun _ t' => SP X ps D .next t') hu hc hN ho hi ok hg hk he hs I h fun L C t6 mm H5 I7 fin ns fp => ?_) fun _ t' q => wpAny_pure (wpAny_pure q))
  show wpAny _ _ (assign (.Name y py) X.env (.ref L)) _ _ _
  refine wpAny_assign_Name (store_ok2 (v := V.ref L) I7 hN hy (.inl hyl) rfl (fun t7 J ⟨a, sb, ha⟩ => ?_) (.inr hyl))
  obtain ⟨f0, f1, _, fa, fb, fc⟩ := fp
  have ne : C ≠ a := ha.elim (fun z => z ▸ f1) fun z e => fb y a z e.symm
  exact ⟨mm, ns.sameBut sb ne, fun h3 sb3 => ⟨_, H5, J.turned (t' := t7.toks) (fun b u hb e => (sb3.2 b hb).trans e) f0 f1 fa fb fc, fin⟩⟩
end
section
variable {X : Cx} {c : Cf} {σ : L2.St} {pv m : List Addr} {Z : Sto} {H G : Hp} {ρ : Env} {pos p2 : Pos}
/-- a turn of a dict comprehension -/
def dcompF (F F2 : FT) (t : MT) (a b : ME) (n : Nat) (ρ : Env) : D → M (Option D) := fun x s => match asgT t x (wipeE t.slots ρ) s with
  | none => .stuck
  | some ρ' => bnd (ev F F2 none a n ρ') (fun u => bnd (ev F F2 none b n ρ') fun v => ret (some (.tup [u, v]))) s
theorem ev_dcomp {F F2 : FT} {cl : Option (List D → M D)} {d : Bool} {t : MT} {k : IK} {es : List ME} {a b : ME} {n : Nat} {ρ : Env} : ev F F2 cl (.dcomp d t k es a b) n ρ = bnd (evs F F2 cl es n ρ) fun as s => match iterOf k as s with
    | none => .stuck
    | some xs => if cap < xs.length then .stuck else bnd (compLoop (stays k as xs) (dcompF F F2 t a b n ρ) xs) (fun r => match putAll d [] [] r with
        | some q => ret (.dct d q.1 q.2)
        | none => stk) s := by
  simp only [ev]; rfl
theorem loop_all {W : Wd} {K : PySem.W.Frag} {n : Nat} {Wx : WX} {st : Sto → Bool} {f : D → M (Option D)} {xs : List D} {g : List D → M D} {Q : VK} {Z0 : Sto} (h : PstF W K n Wx σ pv m Z H G (bnd (compLoop st f xs) g Z0) Q) : ∃ r Z', PstF W K n Wx σ pv m Z H G (g r Z') Q := by
  unfold bnd at h
  cases e : compLoop st f xs Z0 with
  | ok r Z' => rw [e] at h; exact ⟨r, Z', h⟩
  | exc k Z' =>
    exfalso
    have : ∀ (xs : List D) (Z : Sto) (k : Nat) (Z' : Sto), compLoop st f xs Z ≠ .exc k Z' := fun xs => by
      intro Z k Z' z
      cases xs with
      | nil => simp only [compLoop] at z; split at z <;> cases z
      | cons x xs =>
        simp only [compLoop] at z
        split at z
        · unfold bnd0 at z
          split at z
          · simp only at z
            split at z <;> cases z
          · cases z
        · cases z
    exact this _ _ _ _ e
  | stuck => rw [e] at h; exact h.elim
theorem putAll_app {t : Bool} : ∀ (a b ks vs : List D), putAll t ks vs (a ++ b) = (putAll t ks vs a).bind fun q => putAll t q.1 q.2 b
  | [], b, ks, vs => by simp [putAll]
  | p :: a, b, ks, vs => by
    rw [List.cons_append]
    by_cases hp : ∃ k v, p = .tup [k, v]
    · obtain ⟨k, v, rfl⟩ := hp
      rw [putAll, putAll]
      by_cases hk : isKey t k = true
      · rw [if_pos hk, if_pos hk]
        exact putAll_app a b _ _
      · rw [if_neg hk, if_neg hk]; rfl
    · have e : ∀ r, putAll t ks vs (p :: r) = none := fun r => by
        unfold putAll
        split
        · rename_i h; cases h
        · rename_i k v r' h; cases h; exact absurd ⟨k, v, rfl⟩ hp
        · rfl
      rw [e, e]; rfl
theorem put_step {t : Bool} {a r : List D} {k v : D} {q : List D × List D} (h : putAll t [] [] (a ++ .tup [k, v] :: r) = some q) {ks vs : List D} (ha : putAll t [] [] a = some (ks, vs)) : isKey t k = true ∧ putAll t [] [] (a ++ [.tup [k, v]]) = some (dput ks vs k v) := by
  rw [putAll_app, ha] at h
  simp only [Option.bind_some] at h
  rw [putAll] at h
  by_cases hk : isKey t k = true
  · refine ⟨hk, ?_⟩
    rw [putAll_app, ha]
    simp only [Option.bind_some]
    rw [putAll, if_pos hk]
    simp only [putAll]
  · rw [if_neg hk] at h; cases h
theorem dput_len : ∀ (ks vs : List D) (k v : D), ks.length = vs.length → (dput ks vs k v).1.length = (dput ks vs k v).2.length ∧ (dput ks vs k v).1.length ≤ ks.length + 1
  | [], [], k, v, _ => by simp [dput]
  | [], _ :: _, _, _, h => by simp at h
  | _ :: _, [], _, _, h => by simp at h
  | a :: ks, b :: vs, k, v, h => by
    have ih := dput_len ks vs k v (by simpa using h)
    simp only [dput]
    split
    · simp at h ⊢; omega
    · simp only [List.length_cons]; omega
theorem s_dcF {d : Bool} {t : MT} {k : IK} {es : List ME} {a b : ME} {o : HO} (ho : o = if d then .dT [] else .dK []) :
    ∀ σ H Q, tF c X.K (.dcomp d t k es a b) σ H Q → tDg o (tI c X.K k es) (tG c.inn X.K t) (tE c.inn X.K a) (tE c.inn X.K b) t.slots σ H Q := fun σ H Q ⟨pv, m, Z, G, ρ, R, E, h⟩ => by
  rw [ev_dcomp] at h
  refine ⟨pv, m, Z, G, ρ, R, E, (h.bnd (rx := VReps c.W X.K)).mono fun vs H1 ⟨as, m1, Z1, G1, R1, s1, r1, e1, h1⟩ => ?_⟩
  cases hit : iterOf k as Z1 with
  | none => rw [hit] at h1; exact h1.elim
  | some xs =>
    rw [hit] at h1
    simp only at h1
    refine ⟨as, m1, Z1, G1, xs, R1, s1, r1, e1, hit, fun J hJ L hD => ?_⟩
    by_cases hcap : cap < xs.length
    · rw [if_pos hcap] at h1; exact h1.elim
    rw [if_neg hcap] at h1
    have E1 := E.step s1
    obtain ⟨f, hf⟩ : ∃ f : D → M (Option D), f = dcompF c.F c.F2 t a b c.n ρ := ⟨_, rfl⟩
    rw [← hf] at h1
    obtain ⟨g, hg⟩ : ∃ g : List D → M D, g = (fun r => match putAll d [] [] r with | some q => ret (.dct d q.1 q.2) | none => stk) := ⟨_, rfl⟩
    have h1 : PstF c.W X.K c.n c.Wx σ pv m1 Z1 H1 G1 (bnd (compLoop (stays k as xs) f xs) g Z1) Q := by rw [hg]; exact h1
    have hDp : L ∉ pv := (R1.fresh hD).2.1
    have hod : DatO o := by
      subst ho
      cases d
      · exact .inr (.inl ⟨_, rfl⟩)
      · exact .inr (.inr ⟨_, rfl⟩)
    let I : Nat → Hp → Prop := fun i H' => i ≤ xs.length ∧ ∃ m' Z' G' acc ks ws, Rel c.W X.K (L :: pv) m' Z' H' G' ∧ VReps c.W X.K G' m' as vs ∧ ERel c X.K G' m' ρ σ ∧ ORep c.W X.K G' m' H' L (.dct d ks ws) ∧ putAll d [] [] acc = some (ks, ws) ∧ ks.length = ws.length ∧ ks.length ≤ i ∧
      PstF c.W X.K c.n c.Wx σ pv m' Z' H' G' (bnd (compLoop (stays k as xs) f (xs.drop i)) (fun r => g (acc ++ r)) Z') Q
    refine ⟨fun i mm H' => mm = xs.length - i ∧ I i H', ?_, ?_⟩
    · refine ⟨_, rfl, Nat.zero_le _, m1, Z1, G1, [], [], [], R1.priv hD hod, r1, E1, ?_, rfl, rfl, Nat.le_refl _, ?_⟩
      · subst ho
        cases d
        · exact .inl ⟨[], [], rfl, rfl, upd_same, VReps.nil, rfl, List.nodup_nil⟩
        · exact .inr ⟨[], [], rfl, rfl, upd_same, VReps.nil, rfl, List.nodup_nil⟩
      · rw [List.drop_zero]
        simp only [List.nil_append]
        exact h1.later (Stp.priv R1 hD)
    · rintro i mm H' ⟨rfl, hi, m', Z', G', acc, ks, ws, R', ra, E', hO, hput, hlen, hki, h'⟩
      by_cases hlt : i < xs.length
      · have hdrop : xs.drop i = xs[i] :: xs.drop (i + 1) := List.drop_eq_getElem_cons hlt
        rw [hdrop] at h'
        obtain ⟨hst, ov, Zo, ho', h3⟩ := loop_step h'
        have hit' := stays_iter hit hst
        obtain ⟨g1, g2, g3⟩ := hJ (L :: pv) m' Z' H' G' R' ra hit'
        refine .inr ⟨g1 i hlt, I (i + 1), fun H'' q => ⟨xs.length - (i + 1), by omega, rfl, q⟩, fun x H'' hy => ?_⟩
        obtain ⟨dd, G'', hd, R'', st2, rd⟩ := g3 i x H'' hlt hy
        have hdx : xs[i]? = some xs[i] := List.getElem?_eq_getElem hlt
        rw [hdx] at hd
        cases hd
        rw [hf] at ho'
        simp only [dcompF] at ho'
        cases ha : asgT t xs[i] (wipeE t.slots ρ) Z' with
        | none => rw [ha] at ho'; cases ho'
        | some ρ' =>
          rw [ha] at ho'
          simp only at ho'
          obtain ⟨u, Zu, hu', ho'⟩ := bnd_ok ho'
          obtain ⟨w, Zw, hw', ho'⟩ := bnd_ok ho'
          cases ho'
          have stn := st2 c.n
          have Ew : ERel c.inn X.K G'' m' (wipeE t.slots ρ) (L2.wipe σ t.slots) := by
            have := (E'.step stn).wipe t.slots
            exact ⟨this.len, this.at_, this.known, this.up, this.upl⟩
          refine ⟨L :: pv, m', Z', G'', wipeE t.slots ρ, xs[i], ρ', R'', Ew, rd, ha, fun σ2 E2 hl2 hk2 => ⟨wipe_eq hl2 hk2, L :: pv, m', Z', G'', ρ', R'', E2, Pst.okI hu' fun y m2 H2 G2 R2 s2 ry => ?_⟩⟩
          refine ⟨L :: pv, m2, Zu, G2, ρ', R2, E2.step s2, Pst.okI hw' fun z m3 H3 G3 R3 s3 rz => ?_⟩
          have stB := (stn.trans s2).trans s3
          have hO3 : ORep c.W X.K G3 m3 H3 L (.dct d ks ws) := hO.mono stB.ex stB.at fun o e => by rw [stB.pvk L List.mem_cons_self]; exact e
          -- what is put at last tells that the key is one
          obtain ⟨r, Zr, hr⟩ := loop_all h3
          have hkey : isKey d u = true ∧ putAll d [] [] (acc ++ [.tup [u, w]]) = some (dput ks ws u w) := by
            rw [hg] at hr
            simp only at hr
            cases e : putAll d [] [] (acc ++ .tup [u, w] :: r) with
            | none => rw [e] at hr; exact hr.elim
            | some q => exact put_step e hput
          have hcl : ks.length < cap := by omega
          obtain ⟨ob, hob, hdp, hnew⟩ := dct_put R3 hO3 hkey.1 hcl (s3.rep ry) rz
          obtain ⟨hl1, hl2'⟩ := dput_len ks ws u w hlen
          refine ⟨_, hdp, hlt, m3, Zo, G3, acc ++ [.tup [u, w]], _, _, R3.grow hob, stB.reps ra, E'.step stB, hnew, hkey.2, hl1, by omega, ?_⟩
          have stC : Stp c.n pv m' Z' H' G' m3 Zo (upd H3 L ob) G3 := ⟨stB.pre, stB.ex, fun a ha' => by
            have hne : a ≠ L := fun z => hDp (z ▸ ha')
            rw [upd_ne hne]
            exact stB.pvk a (List.mem_cons_of_mem _ ha'), stB.low⟩
          have h4 := PstF.later (m := m') (Z := Z') (H := H') (G := G') h3 stC
          simp only [List.append_assoc, List.singleton_append]
          exact h4
      · have e : i = xs.length := by omega
        subst e
        rw [List.drop_length] at h'
        obtain ⟨hst, h'⟩ := loop_nil h'
        have hit' := stays_iter hit hst
        obtain ⟨g1, g2, g3⟩ := hJ (L :: pv) m' Z' H' G' R' ra hit'
        refine .inl ⟨g2, ?_⟩
        simp only [List.append_nil] at h'
        rw [hg] at h'
        simp only [hput] at h'
        refine h' _ m' H' G' R'.less Stp.refl ⟨L, rfl, ?_, hDp, fun z => R'.npv L z List.mem_cons_self, hO⟩
        cases hG : G' L with
        | none => rfl
        | some o => exact absurd List.mem_cons_self (R'.sub L o hG).2.1
end
end Fw
end
section
set_option Elab.async false
set_option linter.all false
set_option maxRecDepth 100000
set_option maxHeartbeats 1000000
/-! Fw.Sound: a lambda handed to a def -/
namespace Fw
open PySem PySem.Spec PyProof.Rows L2 LamX
/-! ### the lambda's names: at most one parameter, captured names, globals -/
structure LamSc (sc scope : Scope) (as : List PySem.Str) : Prop where
  kind : scope.kind = .function
  co : scope.isCoroutine = false
  gen : scope.isGenerator = false
  own : ∀ y ∈ scope.names, y.2 ≠ .cell ∧ (y.2 = .local → y.1 ∈ as)
  par : ∀ a ∈ as, scope.names.lookup a = some .local
  free : ∀ y ∈ scope.names, y.2 = .free → sc.names.lookup y.1 = some .cell ∨ sc.names.lookup y.1 = some .free
def lamScB (sc scope : Scope) (as : List PySem.Str) : Bool :=
  decide (scope.kind = .function) && !scope.isCoroutine && !scope.isGenerator &&
    (scope.names.all fun y => !decide (y.2 = .cell) && (!decide (y.2 = .local) || as.contains y.1) && (!decide (y.2 = .free) || decide (sc.names.lookup y.1 = some .cell) || decide (sc.names.lookup y.1 = some .free))) &&
    as.all fun a => decide (scope.names.lookup a = some .local)
theorem lamSc_by {sc scope : Scope} {as : List PySem.Str} (h : lamScB sc scope as = true) : LamSc sc scope as := by
  unfold lamScB at h
  simp only [Bool.and_eq_true, Bool.or_eq_true, Bool.not_eq_true', decide_eq_true_eq, decide_eq_false_iff_not, List.all_eq_true, List.contains_iff_mem] at h
  obtain ⟨⟨⟨⟨h1, h2⟩, h3⟩, h4⟩, h5⟩ := h
  refine ⟨h1, h2, h3, fun y hy => ⟨(h4 y hy).1.1, fun e => ?_⟩, h5, fun y hy e => ?_⟩
  · rcases (h4 y hy).1.2 with z | z
    · exact absurd e z
    · exact z
  · rcases (h4 y hy).2 with (z | z) | z
    · exact absurd e z
    · exact .inl z
    · exact .inr z
section
variable {X : Cx} {ps : List (Addr × Obj)} {σ σ' : L2.St} {H HZ : Hp} {s t : Shared}
theorem LamSc.has {scope : Scope} {as : List PySem.Str} (L : LamSc X.env.scope scope as) (ok : X.Ok) : ∀ y ∈ scope.names, y.2 = .free → ∃ c, X.env.cells.lookup y.1 = some c := fun y hy e => (L.free y hy e).elim (fun k => ok.has _ (.inl k)) fun k => ok.has _ (.inr k)
/-- the lambda's body is entered -/
theorem lam_enter {A : Around} {outer : List PySem.Env} {E : XK} {scope : Scope} {as : List PySem.Str} {f c' : Addr} {h₁ : Heap} {tk : Nat} {mloc : PySem.Str → Option Value} (I : Inv X ps σ H s) (L : LamSc X.env.scope scope as) (e0 : Env0 X.prog X.w X.K X.mg X.base A outer t HZ) (hd : A.handled = none)
    (un : Un (frs X.stack) [] H HZ s.heap t.heap) (hns : h₁.Ns t.heap.objs.size mloc) (kp : ∀ b o, t.heap.get? b = some o → h₁.get? b = some o) (hlen : σ'.length = σ.length)
    (hloc : ∀ (i : Nat) (y : PySem.Str) (v : V), X.N[i]? = some y → σ'[i]? = some (some v) → scope.names.lookup y = some .local → ∃ u, RelV v u ∧ mloc y = some u)
    (hfre : ∀ (i : Nat) (y : PySem.Str) (v : V), X.N[i]? = some y → σ'[i]? = some (some v) → scope.names.lookup y = some .free → σ[i]? = some (some v)) :
    Inv (lamCx X A outer t HZ E scope f c') [] σ' HZ { t with heap := h₁, toks := tk } := by
  have caps := L.has I.ok
  have back : ∀ {y c}, (cloFrom X.env.cells scope.names []).lookup y = some c → X.env.cells.lookup y = some c := fun {y c} e => by
    rcases cloFrom_mem (PySem.mem_of_lookup e) with z | ⟨z1, z2⟩
    · cases z
    · obtain ⟨c1, hc⟩ := caps (y, .free) z1 rfl
      have hc : X.env.cells.lookup y = some c1 := hc
      rw [z2, hc]; rfl
  have there : ∀ {y}, scope.names.lookup y = some .free → ∃ c, (cloFrom X.env.cells scope.names []).lookup y = some c := fun {y} hl => mem_lookup (cloFrom_has (cells := X.env.cells) (acc := []) (PySem.mem_of_lookup hl))
  have keepC : ∀ {c : Addr} {v : Option Value}, H c = none → s.heap.IsCell c v → h₁.IsCell c v := fun {c v} n ⟨o, q1, q2⟩ => by
    obtain ⟨sl, q⟩ := un.any q1 n (by simp)
    exact ⟨_, kp _ _ q, q2⟩
  have exN : ∀ b : Addr, b ∉ (lamCx X A outer t HZ E scope f c').ex := fun b z => by
    have z : b ∈ ([] : List Addr) := z
    simp at z
  have okX : (lamCx X A outer t HZ E scope f c').Ok := by
    refine ⟨e0.mod, L.kind, rfl, rfl, Nat.le_refl _, fun y z c q1 q2 => I.ok.inj y z c (back q1) (back q2), fun y hy => ?_, fun y c z _ => ?_, fun _ => hd, Around.frames_deeper e0.frames, .inr ⟨rfl, rfl⟩, fun b z => absurd z (exN b), e0.bs, e0.bsz, fun b _ _ => exN b, fun b z => absurd z (exN b), e0.funs, e0.frf⟩
    · have hy : scope.names.lookup y = some .cell ∨ scope.names.lookup y = some .free := hy
      rcases hy with hy | hy
      · exact absurd rfl (L.own _ (PySem.mem_of_lookup hy)).1
      · exact there hy
    · cases (show false = true from z)
  refine ⟨okX, rfl, e0.bare, Un.kept kp, ⟨_, hns, fun i y v q1 q2 q3 => ?_⟩, fun y c e => ?_, e0.hok.fresh (Nat.le_refl _), fun y c e => ?_, fun q hq => ?_, e0.hok.kept kp, hlen.trans I.len⟩
  · have q3 : Vis scope y := q3
    rcases q3 with k | k | k
    · obtain ⟨u, r, e⟩ := hloc i y v q1 q2 k
      exact ⟨u, r, .inl ⟨k, e⟩⟩
    · exact absurd rfl (L.own _ (PySem.mem_of_lookup k)).1
    · obtain ⟨m, hn, hl⟩ := I.loc
      have vis : Vis X.env.scope y := (L.free _ (PySem.mem_of_lookup k) rfl).elim (fun k => .inr (.inl k)) (fun k => .inr (.inr k))
      obtain ⟨w', r, q⟩ := hl i y v q1 (hfre i y v q1 q2 k) vis
      obtain ⟨c2, hc2⟩ := there k
      refine ⟨w', r, .inr ⟨.inr k, c2, hc2, ?_⟩⟩
      rcases q with ⟨k', _⟩ | ⟨_, c3, e', z⟩
      · have k' : X.env.scope.names.lookup y = some .local := k'
        rcases L.free _ (PySem.mem_of_lookup k) rfl with k2 | k2 <;> (rw [show X.env.scope.names.lookup y = _ from k2] at k'; cases k')
      · rw [back hc2] at e'
        cases e'
        exact keepC (I.freeC y _ (back hc2)) z
  · obtain ⟨w', z⟩ := I.cell y c (back e)
    exact ⟨w', keepC (I.freeC y c (back e)) z⟩
  · obtain ⟨v, o, q1, q2⟩ := I.cell y c (back e)
    exact un.free c o q1 (I.freeC y c (back e)) (by simp)
  · have hq : q ∈ ([] : List (Addr × Obj)) ++ [] := hq
    simp at hq
/-- the lambda, called in the def that got it: Z is that def's context, entered at s -/
theorem lam_call {CXg : CXT} {Eg : XK} {Ng : List PySem.Str} {qg : PySem.Str} {sg : Scope} {g f c' : Addr} {cdg pm ctv : Value} {params : Arguments} {body : Expr} {scope : Scope} {as : List PySem.Str} {k : Nat} {pn pinsZ : List (Addr × Obj)} {xe : Value → Shared → Prop} {W : WX} {E : XK} {tb : TE} {σZ : L2.St} {vs : List V} {us : List Value} {Q : VK}
    (I : Inv X ps σ H s) (L : LamSc X.env.scope scope as) (hf : s.heap.get? f = some (PySem.W.kla_obj "<lambda>" (X.env.qual ++ "<lambda>") params body scope (cloFrom X.env.cells scope.names []) pm c' ctv)) (hfn : H f = none) (hfr : f ∉ frs X.stack)
    (hbind : ∀ us : List Value, us.length = as.length → bindArgs (PySem.W.kla_fn "<lambda>" (X.env.qual ++ "<lambda>") params body scope (cloFrom X.env.cells scope.names []) pm (.ref c') ctv) ⟨us, []⟩ = pure (as.zip us))
    (tk : L2.Takes ((cxOf CXg X.prog X.w X.K X.mg X.base Ng qg sg g cdg X.A X.stack s H Eg).tr pn xe) W) (hW : ∀ cls d, ∀ H', E cls d H' → W cls d σZ H') (hr : Room (k + 1) (X.A.deeper (envOfC qg sg s.heap.objs.size g cdg)))
    (hbody : ∀ (A : Around) (outer : List PySem.Env) (t : Shared) (H : Hp), Room k (A.deeper (lamEnv X scope t.heap.objs.size f c')) → PE (lamCx X A outer t H E scope f c') body tb)
    (IZ : Inv ((cxOf CXg X.prog X.w X.K X.mg X.base Ng qg sg g cdg X.A X.stack s H Eg).tr pn xe) pinsZ σZ HZ t) (hc : HZ c' = some (CodeO c' (X.env.qual ++ "<lambda>"))) (r : Vals vs us) (hl : us.length = as.length) (hlen : σ'.length = σ.length)
    (hloc : ∀ (i : Nat) (y : PySem.Str) (v : V), X.N[i]? = some y → σ'[i]? = some (some v) → scope.names.lookup y = some .local → ∃ u, RelV v u ∧ (as.zip us).reverse.lookup y = some u)
    (hfre : ∀ (i : Nat) (y : PySem.Str) (v : V), X.N[i]? = some y → σ'[i]? = some (some v) → scope.names.lookup y = some .free → σ[i]? = some (some v)) (q : tb σ' HZ Q) :
    wpAny (model X.prog X.w) (X.A.deeper (envOfC qg sg s.heap.objs.size g cdg)) (call (.ref f) us) (EP ((cxOf CXg X.prog X.w X.K X.mg X.base Ng qg sg g cdg X.A X.stack s H Eg).tr pn xe) pinsZ σZ Q) xe t := by
  have of1 : t.heap.get? f = some (PySem.W.kla_obj "<lambda>" (X.env.qual ++ "<lambda>") params body scope (cloFrom X.env.cells scope.names []) pm c' ctv) := IZ.base.keep f _ hf hfn hfr (fun z => nomatch (show f ∈ ([] : List Addr) from z))
  have un : Un (frs X.stack) [] H HZ s.heap t.heap := IZ.base
  obtain ⟨⟨oc, ws, tq, hoc, hdc, hvc⟩, _, _⟩ := IZ.hok c' _ hc
  have rc : codeAny (model X.prog X.w) (X.A.deeper (envOfC qg sg s.heap.objs.size g cdg)) (.call (.ref f) ⟨us, []⟩) (CR (L2.CX X.prog X.w) (envOfC qg sg s.heap.objs.size g cdg :: X.stack) X.prog X.w HZ t Q E) t := by
    refine PySem.W.kla_callFunE hr.depth of1 rfl L.co L.gen rfl ⟨c', oc, ws, tq, rfl, hoc, hdc, hvc⟩ ?_
    rw [hbind us hl]
    refine wpAny_pure (wpAny_newFunctionEnv (fun y hy => (L.own y hy).1) (fun y hy => ?_) (fun h₁ hns hsb => ⟨IZ.nolimit.fresh _ hsb, ?_⟩) L.kind)
    · obtain ⟨n, v⟩ := y
      exact L.par n (List.of_mem_zip hy).1
    show codeAny _ _ (.expr body (lamEnv X scope t.heap.objs.size f c')) _ _
    have kp : ∀ b o, t.heap.get? b = some o → h₁.get? b = some o := fun b o e => hsb.extBut b o (Nat.ne_of_lt (Heap.lt_size e)) (Heap.get?_push_of_some _ e)
    have J := lam_enter (E := E) (f := f) (c' := c') (tk := t.toks + (as.zip us).length) I L IZ.env0 hr.hd un hns kp hlen hloc hfre
    refine PySem.W.kla_codeExpr (wpAny_mono ((hbody _ _ t HZ (hr.deeper _)).run [] _ _ HZ Q J q) (fun v t' hq => ?_) fun e t' hq => hq)
    obtain ⟨w', H', J', rv, q⟩ := hq
    exact ⟨w', H', J'.os, J'.bare, J'.base, J'.hok, rv, q⟩
  refine wpAny_call (codeAny_mono rc fun r t' hq => ?_)
  cases r with
  | error e => exact tk e t' (XE.of_call IZ (fun cls d H' h => hW cls d H' h) hq)
  | ok fl =>
    cases fl with
    | ret u => exact IZ.after hq
    | next => exact False.elim hq
    | brk => exact False.elim hq
    | cont => exact False.elim hq
end
end Fw
end
section
set_option Elab.async false
set_option linter.all false
set_option maxRecDepth 100000
set_option maxHeartbeats 1000000
/-! Fw.Sound: what a lambda computes, and the def that got it -/
namespace Fw
open PySem PySem.Spec PyProof.Rows L2 LamX
/-! ### a frame is left -/
section
variable {W : Wd} {K : PySem.W.Frag} {n : Nat} {pv m m' : List Addr} {Z Z' : Sto} {H H' G G' : Hp} {d : D} {v : V}
theorem Stp.takem (s : Stp n pv m Z H G m' Z' H' G') : m'.take m.length = m := by
  obtain ⟨t, rfl⟩ := s.pre
  simp
theorem Rel.leave (R : Rel W K pv m Z H G) (R' : Rel W K pv m' Z' H' G') (s : Stp Z.length pv m Z H G m' Z' H' G') : Rel W K pv m (Z'.take Z.length) H' G' := by
  have hm := s.takem
  have hl : m.length = Z.length := R.len
  have hl' : m'.length = Z'.length := R'.len
  have hle : m.length ≤ m'.length := by obtain ⟨t, rfl⟩ := s.pre; simp
  have at' : ∀ (i : Nat) (e : D), (Z'.take Z.length)[i]? = some (some e) → i < Z.length ∧ Z'[i]? = some (some e) := fun i e h => by
    by_cases hi : i < Z.length
    · rw [List.getElem?_take_of_lt hi] at h; exact ⟨hi, h⟩
    · rw [List.getElem?_eq_none (by rw [List.length_take]; omega)] at h; cases h
  have am : ∀ (i : Nat) (a : Addr), m[i]? = some a → m'[i]? = some a := s.at
  have lv : ∀ a, Live (Z'.take Z.length) m a → Live Z' m' a := fun a ⟨i, e, h1, h2⟩ => ⟨i, e, (at' i e h1).2, am i a h2⟩
  have low0 : Low Z.length Z := fun i e hi h1 => by
    have := lowr_of R h1
    rw [hl] at this; exact this
  have low := s.low Z.length (Nat.le_refl _) low0
  refine ⟨by rw [List.length_take]; omega, fun i j a d e h1 h2 h3 h4 => R'.inj i j a d e (at' i d h1).2 (at' j e h2).2 (am i a h3) (am j a h4), fun a o e => ?_, fun i d a h1 h2 => ?_, fun a h => R'.npv a (lv a h), R'.pvt, R'.tabs⟩
  · obtain ⟨q1, q2, q3, q4⟩ := R'.sub a o e
    exact ⟨q1, q2, fun z => q3 (lv a z), q4⟩
  · obtain ⟨hi, h1⟩ := at' i d h1
    have q := R'.obj i d a h1 (am i a h2)
    have hlow := low i d hi h1
    cases d with
    | lst ds =>
      obtain ⟨vs, q1, q2⟩ := q
      simp only [D.lowr] at hlow
      refine ⟨vs, q1, ?_⟩
      have := VReps.cutm (n := Z.length) ds vs hlow q2
      rw [← hl, hm] at this
      exact this
    | dct t ks ds =>
      simp only [D.lowr] at hlow
      rcases q with ⟨ns, vs, q0, q1, q2, q3, q4⟩ | ⟨ns, vs, q0, q1, q2, q3, q4⟩
      · have := VReps.cutm (n := Z.length) ds vs hlow.2 q3
        rw [← hl, hm] at this
        exact .inl ⟨ns, vs, q0, q1, q2, this, q4⟩
      · have := VReps.cutm (n := Z.length) ds vs hlow.2 q3
        rw [← hl, hm] at this
        exact .inr ⟨ns, vs, q0, q1, q2, this, q4⟩
    | _ => exact q.elim
theorem Stp.leave (R : Rel W K pv m Z H G) (s : Stp Z.length pv m Z H G m' Z' H' G') : Stp Z.length pv m Z H G m (Z'.take Z.length) H' G' :=
  ⟨⟨[], by simp⟩, s.ex, s.pvk, fun k hk hL i d hi h => by
    have hi2 : i < Z.length := by omega
    rw [List.getElem?_take_of_lt hi2] at h
    exact s.low k hk hL i d hi h⟩
theorem VRep.leave (s : Stp n pv m Z H G m' Z' H' G') (hn : D.noref d = true) (r : VRep W K G' m' d v) : VRep W K G' m d v := by
  have := VRep.cutm (n := m.length) d v (D.low_of_noref _ d hn) r
  rw [s.takem] at this
  exact this
theorem FRep.leave (R : Rel W K pv m Z H G) (R' : Rel W K pv m' Z' H' G') (s : Stp Z.length pv m Z H G m' Z' H' G') (hn : D.noref d = true) (r : FRep W K pv m' Z' H' G' v d) : FRep W K pv m (Z'.take Z.length) H' G' v d := by
  have lv : ∀ a, Live (Z'.take Z.length) m a → Live Z' m' a := fun a ⟨i, e, h1, h2⟩ => by
    by_cases hi : i < Z.length
    · rw [List.getElem?_take_of_lt hi] at h1; exact ⟨i, e, h1, s.at i a h2⟩
    · rw [List.getElem?_eq_none (by rw [List.length_take]; omega)] at h1; cases h1
  have hor : ∀ {p : Addr} {d : D}, D.noref d = true → ORep W K G' m' H' p d → ORep W K G' m H' p d := fun {p d} hn o => by
    cases d with
    | lst ds =>
      obtain ⟨vs, q1, q2⟩ := o
      have := VReps.cutm (n := m.length) ds vs (D.lows_of_norefs _ ds (by simpa [D.noref] using hn)) q2
      rw [s.takem] at this
      exact ⟨vs, q1, this⟩
    | dct t ks ds =>
      simp only [D.noref, Bool.and_eq_true] at hn
      rcases o with ⟨ns, vs, q0, q1, q2, q3, q4⟩ | ⟨ns, vs, q0, q1, q2, q3, q4⟩
      · have := VReps.cutm (n := m.length) ds vs (D.lows_of_norefs _ ds hn.2) q3
        rw [s.takem] at this
        exact .inl ⟨ns, vs, q0, q1, q2, this, q4⟩
      · have := VReps.cutm (n := m.length) ds vs (D.lows_of_norefs _ ds hn.2) q3
        rw [s.takem] at this
        exact .inr ⟨ns, vs, q0, q1, q2, this, q4⟩
    | _ => exact o.elim
  cases d with
  | lst ds =>
    obtain ⟨p, e1, e2, e3, e4, e5⟩ := r
    exact ⟨p, e1, e2, e3, fun z => e4 (lv p z), hor hn e5⟩
  | dct t ks ds =>
    obtain ⟨p, e1, e2, e3, e4, e5⟩ := r
    exact ⟨p, e1, e2, e3, fun z => e4 (lv p z), hor hn e5⟩
  | _ => exact VRep.leave s hn r
/-- what a closure's call is wanted to do, its body is wanted to do -/
theorem leave_pst {Wx : WX} {σ σ' : L2.St} {r : R D} {Q : VK} (R : Rel W K pv m Z H G) (h : Pst W K n Wx σ pv m Z H G (VRep W K) (match r with
    | .ok d s' => leave Z.length d s'
    | .exc c s' => .exc c (s'.take Z.length)
    | .stuck => .stuck) Q) : Pst W K Z.length (fun cls d _ H => Wx cls d σ H) σ' pv m Z H G (VRep W K) r Q := by
  cases r with
  | ok d Z' =>
    intro v m' H' G' R' s rp
    simp only [Fw.leave] at h
    by_cases hz : Z'.length = Z.length
    · rw [if_pos hz] at h
      have hm : m' = m := by
        obtain ⟨t, ht⟩ := s.pre
        have l1 := R.len
        have l2 := R'.len
        have : t = [] := List.eq_nil_of_length_eq_zero (by rw [ht] at l2; simp at l2; omega)
        rw [ht, this, List.append_nil]
      subst hm
      exact h v m' H' G' R' (s.any (k := 0) R R') rp
    · rw [if_neg hz] at h
      by_cases hn : D.noref d = true
      · rw [if_pos hn] at h
        have R2 := R.leave R' s
        exact h v m H' G' R2 ((Stp.leave R s).any (k := 0) R R2) (VRep.leave s hn rp)
      · rw [if_neg hn] at h; exact h.elim
  | exc k Z' =>
    intro m' H' G' R' s
    have R2 := R.leave R' s
    exact h m H' G' R2 ((Stp.leave R s).any (k := 0) R R2)
  | stuck => exact h
end
/-! ### names take values -/
def setL : List Nat → List V → L2.St → L2.St
  | i :: is, x :: xs, σ => setL is xs (σ.set i (some x))
  | _, _, σ => σ
theorem setL_len : ∀ (is : List Nat) (xs : List V) (σ : L2.St), (setL is xs σ).length = σ.length
  | [], _, _ => rfl
  | _ :: _, [], _ => rfl
  | i :: is, x :: xs, σ => by rw [setL, setL_len, List.length_set]
theorem setAll_len : ∀ {is : List Nat} {xs : List D} {ρ ρ' : Env}, setAll is xs ρ = some ρ' → xs.length = is.length
  | [], [], _, _, _ => rfl
  | [], _ :: _, _, _, h => by simp [setAll] at h
  | _ :: _, [], _, _, h => by simp [setAll] at h
  | i :: is, x :: xs, ρ, ρ', h => by
    rw [setAll] at h
    split at h
    · simp [setAll_len h]
    · cases h
theorem ERel.setL {c : Cf} {K : PySem.W.Frag} {G : Hp} {m : List Addr} : ∀ {is : List Nat} {xs : List D} {vs : List V} {ρ ρ' : Env} {σ : L2.St}, ERel c K G m ρ σ → VReps c.W K G m xs vs → setAll is xs ρ = some ρ' → ERel c K G m ρ' (Fw.setL is vs σ)
  | [], [], vs, ρ, ρ', σ, E, r, h => by
    rw [setAll] at h
    cases h
    simp only [VReps] at r
    subst r
    exact E
  | [], _ :: _, _, _, _, _, _, _, h => by simp [setAll] at h
  | _ :: _, [], _, _, _, _, _, _, h => by simp [setAll] at h
  | i :: is, x :: xs, vs, ρ, ρ', σ, E, r, h => by
    simp only [VReps] at r
    obtain ⟨v, r', rfl, r1, r2⟩ := r
    rw [setAll] at h
    split at h
    · show ERel c K G m ρ' (Fw.setL is r' (σ.set i (some v)))
      exact ERel.setL (E.set r1) r2 h
    · cases h
/-- the function that was handed in does what is told of it -/
def CloOk (c : Cf) (X : Cx) (a : PySem.Str) (i : Nat) : Prop := ∀ (W : WX) (pn : List (Addr × Obj)) (xe : Value → Shared → Prop) (p pos : Pos) (es : List ME) (as : List Expr), L2.Takes (X.tr pn xe) W → noStarsB as = true → as.length = es.length →
  PA (X.tr pn xe) as (tA { c with Wx := W } X.K es) → PE (X.tr pn xe) (.Call (.Name a p) as [] pos) (tE { c with Wx := W } X.K (.clo i es))
/-- the setting in which a lambda's body stands -/
abbrev Cf.lam (c : Cf) (n : Nat) (Wx : WX) : Cf := { W := c.W, n := n, Wx := Wx, F := c.F2, F2 := .none, cl := none, fc := c.fc, fr := false, kn := [], env0 := [], st0 := [], fc0 := 0 }
/-- the setting of the def that gets the lambda -/
structure Got (c cg : Cf) (f c' : Addr) (q : PySem.Str) (body : ME) (is : List Nat) (ρ : Env) (σ : L2.St) : Prop where
  W : cg.W = c.W
  cl : cg.cl = some (closure (ev c.F2 .none none body) is ρ)
  fc : cg.fc = f
  kn : cg.kn = [(c', CodeO c' q)]
  env : cg.env0 = ρ
  st : cg.st0 = σ
  fc0 : cg.fc0 = c.fc
section
variable {X : Cx} {c cg : Cf} {ps : List (Addr × Obj)} {σ : L2.St} {H : Hp} {s : Shared} {ρ : Env}
theorem clo_of {CXg : CXT} {Eg : XK} {Ng : List PySem.Str} {qg : PySem.Str} {sg : Scope} {g f c' : Addr} {cdg pm ctv : Value} {params : Arguments} {body : Expr} {scope : Scope} {as : List PySem.Str} {is : List Nat} {k i : Nat} {a : PySem.Str} {mb : ME}
    (I : Inv X ps σ H s) (hNX : X.N.Nodup) (L : LamSc X.env.scope scope as) (hf : s.heap.get? f = some (PySem.W.kla_obj "<lambda>" (X.env.qual ++ "<lambda>") params body scope (cloFrom X.env.cells scope.names []) pm c' ctv)) (hfn : H f = none) (hfr : f ∉ frs X.stack)
    (hbind : ∀ us : List Value, us.length = as.length → bindArgs (PySem.W.kla_fn "<lambda>" (X.env.qual ++ "<lambda>") params body scope (cloFrom X.env.cells scope.names []) pm (.ref c') ctv) ⟨us, []⟩ = pure (as.zip us))
    (gt : Got c cg f c' (X.env.qual ++ "<lambda>") mb is ρ σ) (h1 : as.length ≤ 1) (hil : is.length = as.length) (hia : ∀ (j : Nat) (n : Nat) (y : PySem.Str), is[j]? = some n → as[j]? = some y → X.N[n]? = some y)
    (hr : Room (k + 1) (X.A.deeper (envOfC qg sg s.heap.objs.size g cdg)))
    (hbody : ∀ (n : Nat) (E : XK) (A : Around) (outer : List PySem.Env) (t : Shared) (H : Hp), Room k (A.deeper (lamEnv X scope t.heap.objs.size f c')) → PE (lamCx X A outer t H E scope f c') body (tE (c.lam n fun cls d _ H => E cls d H) X.K mb))
    (hN : Ng[i]? = some a) (hv : Vis sg a) (hdb : (a == ("__debug__" : PySem.Str)) = false) (hcd : (a == ("__classdict__" : PySem.Str)) = false) :
    CloOk cg (cxOf CXg X.prog X.w X.K X.mg X.base Ng qg sg g cdg X.A X.stack s H Eg) a i := by
  intro W pn xe p pos es xs tk hs hlen hA
  refine ⟨fun pinsZ t σZ HZ Q IZ ⟨pv, m, Z, G, ρZ, R, EZ, h⟩ => ?_⟩
  simp only [ev, gt.cl] at h
  cases e : ρZ[i]? with
  | none => rw [e] at h; exact h.elim
  | some o =>
    cases o with
    | none => rw [e] at h; exact h.elim
    | some d =>
      rw [e] at h
      cases d with
      | clo =>
        rcases EZ.at_ i _ e with ⟨_, e1⟩ | ⟨v, _, r⟩
        · have e1 : σZ[i]? = some (some (.ref f)) := by rw [← gt.fc]; exact e1
          have h2 : Pst cg.W X.K cg.n W σZ pv m Z HZ G (VRep cg.W X.K) (bnd (evs cg.F cg.F2 cg.cl es cg.n ρZ) (fun xs => closure (ev c.F2 .none none mb) is ρ xs) Z) Q := by
            rw [gt.cl]; exact h
          have q := h2.bnd (rx := VReps cg.W X.K)
          have obj : ∀ {pz : List (Addr × Obj)} {σz : L2.St} {Hz : Hp} {tz : Shared}, Inv ((cxOf CXg X.prog X.w X.K X.mg X.base Ng qg sg g cdg X.A X.stack s H Eg).tr pn xe) pz σz Hz tz → PySem.W.FnAt f tz.heap := fun J =>
            ⟨_, _, _, _, J.base.keep f _ hf hfn hfr (fun z => nomatch (show f ∈ ([] : List Addr) from z))⟩
          -- the call itself
          have run : ∀ {t2 : Shared} {us : List Value} {vs : List V} {H2 : Hp} {ds : List D} {m2 : List Addr} {Z2 : Sto} {G2 : Hp}, Inv ((cxOf CXg X.prog X.w X.K X.mg X.base Ng qg sg g cdg X.A X.stack s H Eg).tr pn xe) pinsZ σZ H2 t2 → Vals vs us → Rel cg.W X.K pv m2 Z2 H2 G2 → Stp cg.n pv m Z HZ G m2 Z2 H2 G2 → VReps cg.W X.K G2 m2 ds vs →
              Pst cg.W X.K cg.n W σZ pv m2 Z2 H2 G2 (VRep cg.W X.K) (closure (ev c.F2 .none none mb) is ρ ds Z2) Q →
              wpAny (model X.prog X.w) (X.A.deeper (envOfC qg sg s.heap.objs.size g cdg)) (call (.ref f) us) (EP ((cxOf CXg X.prog X.w X.K X.mg X.base Ng qg sg g cdg X.A X.stack s H Eg).tr pn xe) pinsZ σZ Q) xe t2 := fun {t2 us vs H2 ds m2 Z2 G2} I2 r R2 st rv q2 => by
            unfold closure at q2
            cases ea : setAll is ds ρ with
            | none => rw [ea] at q2; exact q2.elim
            | some ρ' =>
              rw [ea] at q2
              simp only at q2
              have E2 := EZ.step (c := { cg with Wx := W }) st
              have kn2 := E2.known (c', CodeO c' (X.env.qual ++ "<lambda>")) (by show _ ∈ cg.kn; rw [gt.kn]; exact List.mem_cons_self)
              have lds := setAll_len ea
              have lrv := rv.length
              have lr := r.length
              have q3 := leave_pst (σ' := setL is vs σ) R2 q2
              have E0 : ERel (c.lam Z2.length fun cls d _ H => W cls d σZ H) X.K G2 m2 ρ σ := by
                have hup := E2.up
                refine ⟨?_, fun j d hj => ?_, fun p hp => absurd hp (by simp), fun j d hj => by simp at hj, rfl⟩
                · have := E2.upl
                  simp only [gt.env, gt.st] at this
                  exact this
                · simp only [gt.env, gt.st, gt.fc0, gt.W] at hup
                  exact hup j d hj
              have rv' : VReps c.W X.K G2 m2 ds vs := by rw [← gt.W]; exact rv
              have E3 := ERel.setL (c := c.lam Z2.length fun cls d _ H => W cls d σZ H) E0 rv' ea
              refine lam_call (σ' := setL is vs σ) (E := WE W σZ) (tb := tE (c.lam Z2.length fun cls d _ H => W cls d σZ H) X.K mb) I L hf hfn hfr hbind tk (fun _ _ _ h => h) hr (fun A outer t H hr' => hbody Z2.length (WE W σZ) A outer t H hr') I2 (R2.up _ _ kn2) r (by omega) (setL_len _ _ _) (fun j y v w1 w2 w3 => ?_) (fun j y v w1 w2 w3 => ?_) ?_
              · -- the parameter
                have hvl : vs.length = is.length := by omega
                match as, is, h1, hil, hia, L, hvl with
                | [], [], _, _, _, L, _ =>
                  have := (L.own _ (PySem.mem_of_lookup w3)).2 rfl
                  simp at this
                | [b], [n], _, _, hia, L, hvl =>
                  have hb := (L.own _ (PySem.mem_of_lookup w3)).2 rfl
                  simp at hb
                  subst hb
                  have hn := hia 0 n y rfl rfl
                  have hjn : j = n := by
                    have h1 := (List.getElem?_eq_some_iff.mp w1)
                    have h2 := (List.getElem?_eq_some_iff.mp hn)
                    obtain ⟨a1, b1⟩ := h1
                    obtain ⟨a2, b2⟩ := h2
                    exact (List.getElem_inj hNX).mp (b1.trans b2.symm)
                  subst hjn
                  match vs, us, r, hvl with
                  | [w], [u], .cons rw' .nil, _ =>
                    simp only [setL] at w2
                    have hjl : j < σ.length := by
                      have := (List.getElem?_eq_some_iff.mp w2).1
                      simpa using this
                    rw [List.getElem?_set_self hjl] at w2
                    cases w2
                    exact ⟨u, rw', by simp [List.lookup]⟩
                  | [], _, _, hvl => simp at hvl
                  | _ :: _ :: _, _, _, hvl => simp at hvl
              · -- what was captured
                match as, is, h1, hil, hia, L with
                | [], [], _, _, _, L => cases vs <;> exact w2
                | [b], [n], _, _, hia, L =>
                  have hn := hia 0 n b rfl rfl
                  have hjn : n ≠ j := fun z => by
                    subst z
                    rw [hn] at w1
                    cases w1
                    have := L.par y List.mem_cons_self
                    rw [w3] at this
                    cases this
                  cases vs with
                  | nil => exact w2
                  | cons w ws =>
                    simp only [setL] at w2
                    cases ws <;> (try simp only [setL] at w2) <;> (rw [List.getElem?_set_ne hjn] at w2; exact w2)
              · have R2' : Rel c.W X.K pv m2 Z2 H2 G2 := by rw [← gt.W]; exact R2
                refine ⟨pv, m2, Z2, G2, ρ', R2', E3, ?_⟩
                have q4 := q3
                rw [gt.W] at q4
                exact q4
          refine wpAny_Call_Name_kw (thn ((pe_var (X := (cxOf CXg X.prog X.w X.K X.mg X.base Ng qg sg g cdg X.A X.stack s H Eg).tr pn xe) (pos := p) (i := i) hN hv hdb hcd).run pinsZ t σZ HZ (fun v H1 => v = .ref f ∧ H1 = HZ) IZ ⟨_, e1, rfl, rfl⟩) fun u t1 ⟨v, H1, I1, r1, ev, eH⟩ => ?_)
          subst ev
          rw [eH] at I1
          obtain rfl : u = Value.ref f := r1
          cases xs with
          | nil =>
            cases es with
            | cons _ _ => simp at hlen
            | nil =>
              simp only [evs, ret] at q
              obtain ⟨ds, m2, Z2, G2, R2, st, rv, _, q2⟩ := q [] m HZ G R Stp.refl VReps.nil
              exact PySem.W.callWith_F0 (obj I1) (run I1 .nil R2 st rv q2)
          | cons b bs =>
            have hs' := hs
            simp only [noStarsB, List.all_cons, Bool.and_eq_true] at hs'
            exact PySem.W.callWith_F (obj I1) (thn (hA.run pos pinsZ t1 σZ HZ _ I1 ⟨pv, m, Z, G, ρZ, R, EZ, q⟩) fun us t2 ⟨vs, H2, I2, r, ds, m2, Z2, G2, R2, st, rv, _, q2⟩ => ⟨obj I2, run I2 r R2 st rv q2⟩) (noStar_of hs'.1) (backTo_stars hs'.2)
        · simp [VRep] at r
      | _ => exact h.elim
end
end Fw
end
section
set_option Elab.async false
set_option linter.all false
set_option maxRecDepth 100000
set_option maxHeartbeats 1000000
/-! Fw.Sound: x(.., lambda ..: ..) -/
namespace Fw
open PySem PySem.Spec PyProof.Rows L2 LamX
/-- the setting of a def's body -/
abbrev Cf.dfn (W : Wd) (n : Nat) (E : XK) (F F2 : FT) (cl : Option (List D → M D)) (fc : Addr) (fr : Bool) (kn : List (Addr × HO)) (env0 : Env) (st0 : L2.St) (fc0 : Addr) : Cf := { W := W, n := n, Wx := fun cls d _ H => E cls d H, F := F, F2 := F2, cl := cl, fc := fc, fr := fr, kn := kn, env0 := env0, st0 := st0, fc0 := fc0 }
/-- a def that takes a function as its last argument: its body does what its text says -/
structure GetsLam (W : Wd) (X : Cx) (F : FT) (g k : Nat) : Prop where
  run : ∃ (fd : FD) (Fl Fl2 : FT) (i : Nat) (a name qual : PySem.Str) (params : Arguments) (body : List Stmt) (scope : Scope) (dV kV doc pm cdv ct oc : Value) (an od : Option Addr) (osl : Array (Option Value)) (N : List PySem.Str),
    W.prg g = some fd ∧ (∀ ds cl Z, F g ds cl Z = mkF W.prg Fl Fl2 g ds cl Z) ∧ X.K.lookup (W.fA g) = some ⟨oc, od, .func (PySem.W.fnOf name qual params body scope dV kV doc pm an cdv ct), osl⟩ ∧ PySem.W.codeIn X.K cdv qual = true ∧ FnScope N (W.ps g) scope ∧ Room (k + 2) X.A ∧
    L2.Binds X.K (PySem.W.fnOf name qual params body scope dV kV doc pm an cdv ct) (W.ps g) [] ∧ PySem.W.keepIn X.K (.ref (W.fA g)) = true ∧ N.length = fd.ns ∧ (W.ps g).length = fd.np ∧ fd.np = i + 1 ∧ fd.np ≤ fd.ns ∧ N[i]? = some a ∧ Vis scope a ∧ (a == ("__debug__" : PySem.Str)) = false ∧ (a == ("__classdict__" : PySem.Str)) = false ∧
    (∀ (A : Around) (outer : List PySem.Env) (s : Shared) (H : Hp) (E : XK) (n : Nat) (cl : Option (List D → M D)) (fc : Addr) (kn : List (Addr × HO)) (env0 : Env) (st0 : L2.St) (fc0 : Addr), Room (k + 1) (A.deeper (envOfC qual scope s.heap.objs.size (W.fA g) cdv)) →
      CloOk (Cf.dfn W n E Fl Fl2 cl fc false kn env0 st0 fc0) (cxOf (L2.CX X.prog X.w) X.prog X.w X.K X.mg X.base N qual scope (W.fA g) cdv A outer s H E) a i →
      PSs (cxOf (L2.CX X.prog X.w) X.prog X.w X.K X.mg X.base N qual scope (W.fA g) cdv A outer s H E) body (tSs (Cf.dfn W n E Fl Fl2 cl fc false kn env0 st0 fc0) X.K fd.body))
/-- where lambdas are made -/
structure LamPl (W : Wd) (X : Cx) : Prop where
  at_ : ∃ c P, TabB X.base X.mg c P ∧ X.env.code = .ref c ∧ (P, X.env.qual ++ "<lambda>") ∈ W.T ∧ ∀ p ∈ W.T, p.1 = P → p.2 = X.env.qual ++ "<lambda>"
section
variable {X : Cx} {c : Cf} {σ : L2.St} {pv m : List Addr} {Z : Sto} {H G : Hp} {ρ : Env} {pos : Pos}
theorem Rel.ext {W : Wd} {K : PySem.W.Frag} {H' : Hp} (R : Rel W K pv m Z H G) (e : ExtN H H') (t : Tabs W.T H') : Rel W K pv m Z H' G := by
  refine ⟨R.len, R.inj, fun a o h => ?_, fun i d a h1 h2 => ?_, R.npv, fun a h => ?_, t⟩
  · obtain ⟨q1, q2, q3, q4⟩ := R.sub a o h
    exact ⟨e a o q1 q4, q2, q3, q4⟩
  · have q := R.obj i d a h1 h2
    obtain ⟨u, hu, hd⟩ := q.dat
    have e2 := e a u hu hd.no_tbl
    cases d with
    | lst ds =>
      obtain ⟨vs, q1, q2⟩ := q
      rw [q1] at hu
      cases hu
      exact ⟨vs, e2, q2⟩
    | dct t ks ds =>
      rcases q with ⟨ns, vs, q0, q1, q2, q3, q4⟩ | ⟨ns, vs, q0, q1, q2, q3, q4⟩
      · rw [q2] at hu; cases hu
        exact .inl ⟨ns, vs, q0, q1, e2, q3, q4⟩
      · rw [q2] at hu; cases hu
        exact .inr ⟨ns, vs, q0, q1, e2, q3, q4⟩
    | _ => exact q.elim
  · obtain ⟨o, h1, h2⟩ := R.pvt a h
    exact ⟨o, e a o h1 h2.no_tbl, h2⟩
theorem Stp.ext {W : Wd} {K : PySem.W.Frag} {n : Nat} {H' : Hp} (R : Rel W K pv m Z H G) (e : ExtN H H') : Stp n pv m Z H G m Z H' G :=
  ⟨⟨[], by simp⟩, Ex.refl _, fun a h => by
    obtain ⟨o, h1, h2⟩ := R.pvt a h
    rw [h1, e a o h1 h2.no_tbl], fun _ _ h => h⟩
/-- a code object is known from now on -/
theorem Rel.code {W : Wd} {K : PySem.W.Frag} {n : Nat} {c' : Addr} {q : PySem.Str} (R : Rel W K pv m Z H G) (h : H c' = some (CodeO c' q)) : ∃ G', Rel W K pv m Z H G' ∧ Stp n pv m Z H G m Z H G' ∧ G' c' = some (CodeO c' q) := by
  cases hG : G c' with
  | some o =>
    obtain ⟨q1, _⟩ := R.sub c' o hG
    rw [h] at q1
    cases q1
    exact ⟨G, R, Stp.refl, hG⟩
  | none =>
    refine ⟨upd G c' (CodeO c' q), R.add h hG (fun z => ?_) (fun ⟨i, d, h1, h2⟩ => ?_) (fun ps => codeO_ne ps), ⟨⟨[], by simp⟩, Ex.new hG, fun _ _ => rfl, fun _ _ h => h⟩, upd_same⟩
    · obtain ⟨o, h1, h2⟩ := R.pvt c' z
      rw [h] at h1
      cases h1
      rcases h2 with ⟨_, h2⟩ | ⟨_, h2⟩ | ⟨_, h2⟩ <;> (unfold CodeO at h2; cases h2)
    · obtain ⟨u, hu, hd⟩ := (R.obj i d c' h1 h2).dat
      rw [h] at hu
      cases hu
      rcases hd with ⟨_, h2⟩ | ⟨_, h2⟩ | ⟨_, h2⟩ <;> (unfold CodeO at h2; cases h2)
theorem start_rel {cg : Cf} {K : PySem.W.Frag} {N : List PySem.Str} {ds : List D} {vs : List V} {f : Addr} {ns np : Nat} (hW : cg.fc = f) (r : VReps cg.W K G m ds vs) (hnp : ds.length + 1 = np) (hns : N.length = ns) (hle : np ≤ ns)
    (hk : ∀ p, p ∈ cg.kn → G p.1 = some p.2) (hu : ∀ (i : Nat) (d : D), cg.env0[i]? = some (some d) → (d = .clo ∧ cg.st0[i]? = some (some (.ref cg.fc0))) ∨ ∃ v, cg.st0[i]? = some (some v) ∧ VRep cg.W K G m d v) (hul : cg.env0.length = cg.st0.length) :
    ERel cg K G m ((ds ++ [D.clo]).map some ++ List.replicate (ns - np) none) (L2.start N (vs ++ [.ref f])) := by
  have hl := r.length
  have e1 : L2.start N (vs ++ [.ref f]) = (vs ++ [V.ref f]).map some ++ List.replicate (N.length - (vs ++ [V.ref f]).length) none := rfl
  rw [e1]
  refine ⟨by simp; omega, fun i d h => ?_, hk, hu, hul⟩
  by_cases hi : i < ds.length
  · rw [List.getElem?_append_left (by simp; omega), List.getElem?_map, List.getElem?_append_left hi] at h
    rw [List.getElem?_append_left (by simp; omega), List.getElem?_map, List.getElem?_append_left (by omega)]
    cases e : ds[i]? with
    | none => rw [e] at h; simp at h
    | some x =>
      rw [e] at h
      simp at h
      subst h
      obtain ⟨v, h1, h2⟩ := r.get e
      exact .inr ⟨v, by rw [h1]; rfl, h2⟩
  · by_cases hi2 : i = ds.length
    · subst hi2
      rw [List.getElem?_append_left (by simp), List.getElem?_map, List.getElem?_append_right (Nat.le_refl _)] at h
      simp at h
      subst h
      refine .inl ⟨rfl, ?_⟩
      rw [List.getElem?_append_left (by simp; omega), List.getElem?_map, hl, List.getElem?_append_right (Nat.le_refl _)]
      simp [hW]
    · rw [List.getElem?_append_right (by simp; omega), List.getElem?_replicate] at h
      split at h
      · cases h
      · cases h
/-- the arguments stand, the lambda comes, the def is called -/
theorem lam_go {g : Nat} {is : List Nat} {mb : ME} {params : Arguments} {body : Expr} {scope : Scope} {lpos : Pos} {as : List PySem.Str} {pins : List (Addr × Obj)} {s : Shared} {vs : List V} {us : List Value} {ds : List D} {Q : VK} {k : Nat} (B : GetsLam c.W X c.F g k) (LP : LamPl c.W X) (tk : L2.Takes X c.Wx) (hf : c.W.fresh g = false)
    (hNX : X.N.Nodup) (L : LamSc X.env.scope scope as) (hdef : defaultsOf params X.env = ([], []))
    (hbind : ∀ (q : PySem.Str) (cl : List (PySem.Str × Addr)) (pm cv ctv : Value) (us : List Value), us.length = as.length → bindArgs (PySem.W.kla_fn "<lambda>" q params body scope cl pm cv ctv) ⟨us, []⟩ = pure (as.zip us))
    (h1 : as.length ≤ 1) (hil : is.length = as.length) (hia : ∀ (j : Nat) (n : Nat) (y : PySem.Str), is[j]? = some n → as[j]? = some y → X.N[n]? = some y)
    (hbody : ∀ (n : Nat) (E : XK) (A : Around) (outer : List PySem.Env) (t : Shared) (H : Hp) (f c' : Addr), Room k (A.deeper (lamEnv X scope t.heap.objs.size f c')) → PE (lamCx X A outer t H E scope f c') body (tE (c.lam n fun cls d _ H => E cls d H) X.K mb))
    (I : Inv X pins σ H s) (r : Vals vs us) (R : Rel c.W X.K pv m Z H G) (E : ERel c X.K G m ρ σ) (rv : VReps c.W X.K G m ds vs)
    (h : Pst c.W X.K c.n c.Wx σ pv m Z H G (VRep c.W X.K) (c.F g (ds ++ [.clo]) (some (closure (ev c.F2 .none none mb) is ρ)) Z) Q) :
    wpAny (model X.prog X.w) X.A (eval (.Lambda params body scope lpos) X.env) (fun u s' => X.K.In s'.heap ∧ wpAny (model X.prog X.w) X.A (call (.ref (c.W.fA g)) (us ++ [u])) (EP X pins σ Q) X.xe s') X.xe s := by
  obtain ⟨fd, Fl, Fl2, i, a, name, qual, pg, bg, sg, dV, kV, doc, pm, cdv, ct, oc, an, od, osl, N, hfd, hF, lk, hcd, S, hr, hb, hk, hns, hnp, hi, hle, hNi, hv, hdb, hcdn, sound⟩ := B.run
  obtain ⟨c0, P, TB, hcode, hm, hu⟩ := LP.at_
  refine lam_make2 I TB hcode hm hu R.tabs hdef (L.has I.ok) fun f c' pm' ctv H1 s' I1 eN T1 hfo hfn hfr hco => ⟨I1.kIn, ?_⟩
  have R1 := R.ext eN T1
  have s1 : Stp c.n pv m Z H G m Z H1 G := Stp.ext R eN
  obtain ⟨G2, R2, s2, hG2⟩ := R1.code (n := c.n) hco
  have st := s1.trans s2
  have E2 := E.step st
  have rv2 := st.reps rv
  have hq := h.later st
  have hld : ds.length + 1 = fd.np := by
    have hne : c.F g (ds ++ [.clo]) (some (closure (ev c.F2 .none none mb) is ρ)) Z ≠ .stuck := fun z => by rw [z] at hq; exact hq.elim
    rw [hF] at hne
    simp only [mkF, hfd] at hne
    by_cases hz : (ds ++ [D.clo]).length = fd.np
    · simpa using hz
    · rw [if_neg hz] at hne; exact absurd rfl hne
  have hlv := rv.length
  let cg : Cf := Cf.dfn c.W Z.length (WE c.Wx σ) Fl Fl2 (some (closure (ev c.F2 .none none mb) is ρ)) f false [(c', CodeO c' (X.env.qual ++ "<lambda>"))] ρ σ c.fc
  have hfr' : Vals (vs ++ [V.ref f]) (us ++ [Value.ref f]) := r.append (.cons rfl .nil)
  have rc : codeAny (model X.prog X.w) X.A (.call (.ref (c.W.fA g)) ⟨us ++ [.ref f], []⟩) (CR (L2.CX X.prog X.w) X.stack X.prog X.w H1 s' Q (WE c.Wx σ)) s' := by
    have hlen : (us ++ [Value.ref f]).length = (c.W.ps g).length := by
      rw [← hfr'.length]; simp; omega
    have hbb := hb s' (us ++ [.ref f]) I1.kIn (by rw [List.append_nil]; exact hlen)
    rw [List.append_nil] at hbb
    refine run_ofS (N := N) (ps := c.W.ps g) (us := us ++ [.ref f]) (vs := vs ++ [.ref f]) lk hcd S (k := k + 1) hr I1.env0 hbb hfr' (by rw [hfr'.length]; exact hlen) fun hr' => ?_
    have hclo : CloOk cg (cxOf (L2.CX X.prog X.w) X.prog X.w X.K X.mg X.base N qual sg (c.W.fA g) cdv X.A X.stack s' H1 (WE c.Wx σ)) a i :=
      clo_of (c := c) (cg := cg) (k := k) I1 hNX L hfo hfn hfr (fun us hl => hbind _ _ _ _ _ us hl) ⟨rfl, rfl, rfl, rfl, rfl, rfl, rfl⟩ h1 hil hia hr' (fun n E A outer t H hr2 => hbody n E A outer t H f c' hr2) hNi hv hdb hcdn
    refine ⟨_, sound X.A X.stack s' H1 (WE c.Wx σ) Z.length _ f _ ρ σ c.fc hr' hclo, ?_⟩
    refine ⟨pv, m, Z, G2, (ds ++ [D.clo]).map some ++ List.replicate (fd.ns - fd.np) none, R2, ?_, ?_⟩
    · refine start_rel (cg := cg) rfl rv2 hld hns hle (fun p hp => ?_) E2.at_ E2.len
      have : p = (c', CodeO c' (X.env.qual ++ "<lambda>")) := List.mem_singleton.mp hp
      subst this
      exact hG2
    · rw [hF] at hq
      simp only [mkF, hfd] at hq
      rw [if_pos (by simpa using hld)] at hq
      show PstS cg X.K pv m Z H1 G2 (exs Fl Fl2 _ fd.body Z.length _ Z) _
      cases e : exs Fl Fl2 (some (closure (ev c.F2 .none none mb) is ρ)) fd.body Z.length ((ds ++ [D.clo]).map some ++ List.replicate (fd.ns - fd.np) none) Z with
      | ok fl Z' =>
        rw [e] at hq
        cases fl with
        | nx ρ' =>
          have q3 := leave_pst (σ' := σ) (r := Fw.R.ok .non Z') R2 (by simpa only [goOut] using hq)
          exact fun σ' m' H' G' R' s' _ => q3 _ m' H' G' R' s' (by simp only [VRep])
        | rt d =>
          have q3 := leave_pst (σ' := σ) (r := Fw.R.ok d Z') R2 (by simpa only [goOut] using hq)
          exact fun v m' H' G' R' s' rp => q3 v m' H' G' R' s' rp
        | bk _ => exact hq.elim
      | exc kk Z' =>
        rw [e] at hq
        have q3 := leave_pst (σ' := σ) (r := Fw.R.exc kk Z') R2 (by simpa only [goOut] using hq)
        exact fun σ' m' H' G' R' s' => q3 m' H' G' R' s'
      | stuck => rw [e] at hq; exact hq.elim
  refine wpAny_call (codeAny_mono rc fun r s2 hq => ?_)
  cases r with
  | error e => exact passAt tk σ pins H1 s' e s2 I1 hq
  | ok fl =>
    cases fl with
    | ret u => exact I1.after hq
    | next => exact False.elim hq
    | brk => exact False.elim hq
    | cont => exact False.elim hq
/-- what a lambda's text must be -/
structure LamTx (k : Nat) (c : Cf) (X : Cx) (params : Arguments) (body : Expr) (scope : Scope) (as : List PySem.Str) (is : List Nat) (mb : ME) : Prop where
  sc : LamSc X.env.scope scope as
  dflt : defaultsOf params X.env = ([], [])
  bind : ∀ (q : PySem.Str) (cl : List (PySem.Str × Addr)) (pm cv ctv : Value) (us : List Value), us.length = as.length → bindArgs (PySem.W.kla_fn "<lambda>" q params body scope cl pm cv ctv) ⟨us, []⟩ = pure (as.zip us)
  few : as.length ≤ 1
  len : is.length = as.length
  ix : ∀ (j : Nat) (n : Nat) (y : PySem.Str), is[j]? = some n → as[j]? = some y → X.N[n]? = some y
  does : ∀ (n : Nat) (E : XK) (A : Around) (outer : List PySem.Env) (t : Shared) (H : Hp) (f c' : Addr), Room k (A.deeper (lamEnv X scope t.heap.objs.size f c')) → PE (lamCx X A outer t H E scope f c') body (tE (c.lam n fun cls d _ H => E cls d H) X.K mb)
theorem s_lam0 {g k : Nat} {is : List Nat} {mb : ME} {params : Arguments} {body : Expr} {scope : Scope} {as : List PySem.Str} {x : PySem.Str} {p lpos : Pos} (B : GetsLam c.W X c.F g k) (LP : LamPl c.W X) (tk : L2.Takes X c.Wx) (hf : c.W.fresh g = false) (hNX : X.N.Nodup) (T : LamTx k c X params body scope as is mb)
    (hg : Gl X x) (hm : X.mg x = some (.ref (c.W.fA g))) (hdb : (x == ("__debug__" : PySem.Str)) = false) : PE X (.Call (.Name x p) [.Lambda params body scope lpos] [] pos) (tE c X.K (.lam g [] is mb)) := by
  have hk : PySem.W.keepIn X.K (.ref (c.W.fA g)) = true := by
    obtain ⟨_, _, _, _, _, _, _, _, _, _, _, _, _, _, _, _, _, _, _, _, _, _, _, _, _, _, _, _, hk, _⟩ := B.run
    exact hk
  refine ⟨fun pins s σ H Q I ⟨pv, m, Z, G, ρ, R, E, h⟩ => ?_⟩
  simp only [ev, evs, bnd, ret] at h
  refine wpAny_Call_Name_kw (ld_glob I hg hm ?_ hdb)
  refine PySem.W.callWith_K (h₀ := X.base) I.ok.mod.kin hk ?_ (by rfl) (by rfl)
  refine Calls.spliced_cons (thn (lam_go (us := []) (vs := []) B LP tk hf hNX T.sc T.dflt T.bind T.few T.len T.ix T.does I .nil R E VReps.nil h) fun u s1 hu => Calls.spliced_nil hu)
theorem s_lam1 {g k : Nat} {is : List Nat} {mb e : ME} {params : Arguments} {body a : Expr} {scope : Scope} {as : List PySem.Str} {x : PySem.Str} {p lpos : Pos} (B : GetsLam c.W X c.F g k) (LP : LamPl c.W X) (tk : L2.Takes X c.Wx) (hf : c.W.fresh g = false) (hNX : X.N.Nodup) (T : LamTx k c X params body scope as is mb)
    (hg : Gl X x) (hm : X.mg x = some (.ref (c.W.fA g))) (hdb : (x == ("__debug__" : PySem.Str)) = false) (hs : noStar a = true) (ha : PE X a (tE c X.K e)) : PE X (.Call (.Name x p) [a, .Lambda params body scope lpos] [] pos) (tE c X.K (.lam g [e] is mb)) := by
  have hk : PySem.W.keepIn X.K (.ref (c.W.fA g)) = true := by
    obtain ⟨_, _, _, _, _, _, _, _, _, _, _, _, _, _, _, _, _, _, _, _, _, _, _, _, _, _, _, _, hk, _⟩ := B.run
    exact hk
  refine ⟨fun pins s σ H Q I ⟨pv, m, Z, G, ρ, R, E, h⟩ => ?_⟩
  have h' : Pst c.W X.K c.n c.Wx σ pv m Z H G (VRep c.W X.K) (bnd (ev c.F c.F2 c.cl e c.n ρ) (fun x => c.F g ([x] ++ [.clo]) (some (closure (ev c.F2 .none none mb) is ρ))) Z) Q := by
    simp only [ev] at h
    rw [evs_one] at h
    unfold bnd at h ⊢
    cases e1 : ev c.F c.F2 c.cl e c.n ρ Z with
    | ok d Z2 => rw [e1] at h; exact h
    | exc k Z2 => rw [e1] at h; exact h
    | stuck => rw [e1] at h; exact h
  have hB := h'.bnd (rx := VRep c.W X.K)
  refine wpAny_Call_Name_kw (ld_glob I hg hm ?_ hdb)
  refine PySem.W.callWith_K (h₀ := X.base) I.ok.mod.kin hk ?_ (noStar_of hs) (by rfl)
  rw [noStar_of hs]
  show wpAny _ _ (spliced ((false, eval a X.env) :: (false, eval (.Lambda params body scope lpos) X.env) :: [])) _ _ s
  refine Calls.spliced_cons (thn (ha.run pins s σ H _ I ⟨pv, m, Z, G, ρ, R, E, hB⟩) fun u s1 ⟨v, H1, I1, r1, d, m1, Z1, G1, R1, st1, rv, _, q⟩ => ?_)
  refine Calls.spliced_cons (thn (lam_go (us := [u]) (vs := [v]) (ds := [d]) B LP tk hf hNX T.sc T.dflt T.bind T.few T.len T.ix T.does I1 (.cons r1 .nil) R1 (E.step st1) (VReps.cons rv VReps.nil) q) fun w s2 hu => Calls.spliced_nil hu)
end
end Fw
end
section
set_option Elab.async false
set_option linter.all false
set_option maxRecDepth 100000
set_option maxHeartbeats 1000000
/-! Fw.Sound: try -/
namespace Fw
open PySem PySem.Spec PyProof.Rows L2 LamX
theorem CloOk.tr {c : Cf} {X : Cx} {a : PySem.Str} {i : Nat} {W : WX} {pn : List (Addr × Obj)} {xe : Value → Shared → Prop} (h : CloOk c X a i) : CloOk { c with Wx := W } (X.tr pn xe) a i := fun W' pn' xe' p pos es as tk hs hl ha => h W' pn' xe' p pos es as tk hs hl ha
/-- an except clause that hands out a text -/
inductive StrHds (c : Cf) (X : Cx) : List ExceptHandler → List (Nat × HB) → Prop
  | nil : StrHds c X [] []
  | cons {n x : PySem.Str} {k j : Nat} {np p1 p2 p3 : Pos} {hds : List ExceptHandler} {hs : List (Nat × HB)} (hg : Gl X n) (hdb : (n == ("__debug__" : PySem.Str)) = false) (hm : X.mg n = some (.ref (c.W.cls k))) (r : StrHds c X hds hs) :
      StrHds c X (.ExceptHandler (some (.Name n np)) none [.Return (some (.Constant (.str x) j p1)) p2] p3 :: hds) ((k, .str x) :: hs)
/-- which class lies below which -/
def ClsBelow (W : Wd) (K : PySem.W.Frag) : Prop := ∀ k d, k < 5 → d < 5 → PySem.W.exmOne K (.ref (W.cls k)) (.ref (W.cls d)) = some (isBelow k d)
def tStr (x : PySem.Str) : Addr → Value → Option Addr → TS := fun _ _ _ D _ H => D.rt (.str x) H
def hdsL (c : Cf) : List (Nat × HB) → List (Value × (Addr → Value → Option Addr → TS))
  | [] => []
  | (k, .str x) :: r => (.ref (c.W.cls k), tStr x) :: hdsL c r
  | (k, .told x _) :: r => (.ref (c.W.cls k), tStr x) :: hdsL c r
section
variable {X : Cx} {c : Cf} {σ : L2.St} {pv m : List Addr} {Z : Sto} {H G : Hp} {ρ : Env} {pos : Pos}
theorem StrHds.ok {hds : List ExceptHandler} {hs : List (Nat × HB)} (h : StrHds c X hds hs) : HdsOk X hds (hdsL c hs) := by
  induction h with
  | nil => exact .nil
  | cons hg hdb hm r ih => exact .cons ⟨hg, hdb, .inl hm⟩ (fun a oe cls d pn _ _ => pss_one (ps_weak (ps_ret pe_str) fun D σ H h => h)) ih
theorem many_of {hds : List ExceptHandler} {hs : List (Nat × HB)} (hc : StrHds c X hds hs) (cb : ClsBelow c.W X.K) {k : Nat} (hk : k < 5) (hh : ∀ p ∈ hs, p.1 < 5) {D : Ends} {Z' : Sto} (h : PstS c X.K pv m Z H G (match handle hs k with | some d => .ok (.rt d) Z' | none => .exc k Z') D) (hf : c.fr = false) :
    ∀ σ' m' H' G', Rel c.W X.K pv m' Z' H' G' → Stp c.n pv m Z H G m' Z' H' G' → wMany X.K c.Wx D (hdsL c hs) (.ref (c.W.cls k)) none σ' H' := fun σ' m' H' G' R' s' => by
  induction hc with
  | nil => exact h σ' m' H' G' R' s'
  | @cons n x d j np p1 p2 p3 hds hs hg hdb hm r ih =>
    refine ⟨isBelow k d, cb k d hk (hh _ List.mem_cons_self), fun hb a _ => ?_, fun hb => ?_⟩
    · simp only [handle, hb, if_pos] at h
      exact h (.str x) m' H' G' R' s' (by rw [hf]; simp [VRep])
    · refine ih (fun p hp => hh p (List.mem_cons_of_mem _ hp)) ?_
      simp only [handle, hb] at h
      exact h
theorem s_try {body : List MS} {b : List Stmt} {h0 : ExceptHandler} {hds : List ExceptHandler} {hs : List (Nat × HB)} (hst : X.stack = X.env :: X.outer) (hfr : X.env.frame = some X.env.locals) (tk : L2.Takes X c.Wx) (cb : ClsBelow c.W X.K) (hf : c.fr = false)
    (hh : ∀ p ∈ hs, p.1 < 5) (hc : StrHds c X (h0 :: hds) hs)
    (hb : ∀ (W : WX) (pn : List (Addr × Obj)) (xe : Value → Shared → Prop), L2.Takes (X.tr pn xe) W → PassesOwn (model X.prog X.w) X.A X.env xe → PSs (X.tr pn xe) b (tSs { c with Wx := W } X.K body)) : PS X (.Try b (h0 :: hds) [] [] pos) (tS c X.K (.try body hs)) :=
  ps_weak (L2.ps_try_many (tb := fun W => tSs { c with Wx := W } X.K body) hst hfr tk hb hc.ok) fun D σ H ⟨pv, m, Z, G, ρ, R, E, h⟩ => by
    simp only [ex] at h
    refine ⟨pv, m, Z, G, ρ, R, ⟨E.len, E.at_, E.known, E.up, E.upl⟩, ?_⟩
    show PstS _ _ _ _ _ _ _ (exs c.F c.F2 c.cl body c.n ρ Z) D
    cases e : exs c.F c.F2 c.cl body c.n ρ Z with
    | ok fl Z' =>
      rw [e] at h
      cases fl with
      | nx ρ' => exact fun σ' m' H' G' R' s' E' => h σ' m' H' G' R' s' ⟨E'.len, E'.at_, E'.known, E'.up, E'.upl⟩
      | bk ρ' => exact fun σ' m' H' G' R' s' E' => h σ' m' H' G' R' s' ⟨E'.len, E'.at_, E'.known, E'.up, E'.upl⟩
      | rt d => exact h
    | exc k Z' =>
      rw [e] at h
      by_cases hk : 5 ≤ k
      · simp only [if_pos hk] at h; exact h.elim
      · simp only [if_neg hk] at h
        exact many_of hc cb (by omega) hh h hf
    | stuck => rw [e] at h; exact h.elim
end
end Fw
end
section
set_option Elab.async false
set_option linter.all false
set_option maxRecDepth 100000
set_option maxHeartbeats 1000000
/-! Fw.Check: does a text of the mini-language match a row's text? -/
namespace Fw
open PySem PySem.Spec PyProof.Rows L2 LamX
/-- what a text's names mean -/
structure CC where
  N : List PySem.Str
  /-- defs, by name -/
  gf : List (PySem.Str × Nat)
  /-- constants and defs as values: name, number, value -/
  gc : List (PySem.Str × Nat × D)
  ex : List (PySem.Str × Nat)
  tbl : PySem.Str
  ms : List (PySem.Str × Nat)
  /-- defs that take a function -/
  lf : List Nat
  fresh : List Nat
  /-- built-in names that the text leaves alone -/
  nob : List PySem.Str
  clo : Option (PySem.Str × Nat)
  /-- lambdas may be made here -/
  lam : Bool
abbrev CC.inn (cc : CC) : CC := { cc with clo := none, lam := false }
def dbg (x : PySem.Str) : Bool := !(x == ("__debug__" : PySem.Str)) && !(x == ("__classdict__" : PySem.Str))
def glB (sc : Scope) (x : PySem.Str) : Bool := decide (sc.names.lookup x = some .globalImplicit) && dbg x
def locB (sc : Scope) (x : PySem.Str) : Bool := decide (sc.names.lookup x = some .local) || decide (sc.names.lookup x = some .cell)
def visB (sc : Scope) (x : PySem.Str) : Bool := (locB sc x || decide (sc.names.lookup x = some .free)) && dbg x
def nmB (cc : CC) (i : Nat) (y : PySem.Str) : Bool := decide (cc.N[i]? = some y)
def ownOf (cc : CC) (is : List Nat) : List (PySem.Str × Nat) := is.map fun i => (cc.N.getD i "", i)
def boB : BO → Operator → Bool
  | .add, .Add | .sub, .Sub | .mul, .Mult | .fdiv, .FloorDiv | .mod, .Mod | .shl, .LShift | .shr, .RShift | .and, .BitAnd | .or, .BitOr | .xor, .BitXor => true
  | _, _ => false
def coB : CO → CmpOp → Bool
  | .eq, .Eq | .ne, .NotEq | .lt, .Lt | .le, .LtE | .gt, .Gt | .ge, .GtE | .inn, .In | .nin, .NotIn | .is, .Is | .isn, .IsNot => true
  | _, _ => false
theorem boB_eq {o : BO} {p : Operator} (h : boB o p = true) : p = opBO o := by
  cases o <;> cases p <;> first | rfl | (simp [boB] at h)
theorem coB_eq {o : CO} {p : CmpOp} (h : coB o p = true) : p = opCO o := by
  cases o <;> cases p <;> first | rfl | (simp [coB] at h)
/-- a built-in that is called by its name with values -/
def biName : BI → Option PySem.Str
  | .len => some "len" | .sum => some "sum" | .all => some "all" | .any => some "any" | .max | .max2 => some "max" | .min | .min2 => some "min"
  | .sorted => some "sorted" | .tuple => some "tuple" | .list => some "list" | .abs => some "abs" | .int => some "int"
  | _ => none
mutual
def chkTg (cc : CC) (sc : Scope) : MT → Expr → Bool
  | .nm i, .Name y _ => nmB cc i y && locB sc y
  | .tp ts, .Tuple es _ _ => noStars es && decide (es.length = ts.length) && chkTgs cc sc ts es
  | _, _ => false
def chkTgs (cc : CC) (sc : Scope) : List MT → List Expr → Bool
  | [], [] => true
  | t :: ts, e :: es => noStar e && chkTg cc sc t e && chkTgs cc sc ts es
  | _, _ => false
end
def isTup : Expr → Bool
  | .Tuple _ _ _ => true
  | _ => false
/-- a lambda's parameters -/
def chkL (cc : CC) (sc : Scope) : List Nat → Arguments → Scope → Bool
  | [], ⟨[], [], none, [], [], none, []⟩, scope => lamScB sc scope []
  | [i], ⟨[], [⟨a, none, _⟩], none, [], [], none, []⟩, scope => lamScB sc scope [a] && nmB cc i a
  | _, _, _ => false
/-- the mode: 0 a value, 1 a new list or dict, 2 a test -/
def okE (m : Nat) (x : Expr) : Bool := m == 0 || (m == 2 && plainTest x)
def okF (m : Nat) (x : Expr) : Bool := m == 0 || m == 1 || (m == 2 && plainTest x)
def ok02 (m : Nat) : Bool := m == 0 || m == 2
mutual
def chk (cc : CC) (sc : Scope) : ME → Nat → Expr → Bool
  | .nev, _, _ => true
  | .lit d, m, x => okE m x && (match d, x with
    | .int i, .Constant (.int j) _ _ => decide (i = j)
    | .bl i, .Constant (.bool j) _ _ => decide (i = j)
    | .non, .Constant .none _ _ => true
    | .str i, .Constant (.str j) _ _ => decide (i = j)
    | _, _ => false)
  | .var i, m, x => okE m x && (match x with | .Name y _ => nmB cc i y && visB sc y | _ => false)
  | .gl g d, m, x => okE m x && (match x with | .Name y _ => glB sc y && (match cc.gc.lookup y with | some (g', d') => decide (g' = g) && D.beq d' d | none => false) | _ => false)
  | .bin o a b, m, x => okF m x && (match x with | .BinOp x p y _ => boB o p && chk cc sc a 0 x && chk cc sc b 0 y | _ => false)
  | .neg a, m, x => okE m x && (match x with | .UnaryOp .USub x _ => chk cc sc a 0 x | _ => false)
  | .cmp o a b, m, x => ok02 m && (match x with | .Compare x [p] [y] _ => coB o p && noSetD y && chk cc sc a 0 x && chk cc sc b 0 y | _ => false)
  | .chain o o' a b c, m, x => ok02 m && (match x with | .Compare x [p, p'] [y, z] _ => coB o p && coB o' p' && noSetD z && chk cc sc a 0 x && chk cc sc b 0 y && chk cc sc c 0 z | _ => false)
  | .and a b, m, x => ok02 m && (match x with
    | .BoolOp .And [x, y] _ => chk cc sc a m x && chk cc sc b m y
    | .BoolOp .And (x :: y :: z :: r) pos => chk cc sc a m x && chk cc sc b m (.BoolOp .And (y :: z :: r) pos)
    | _ => false)
  | .or a b, m, x => ok02 m && (match x with
    | .BoolOp .Or [x, y] _ => chk cc sc a m x && chk cc sc b m y
    | .BoolOp .Or (x :: y :: z :: r) pos => chk cc sc a m x && chk cc sc b m (.BoolOp .Or (y :: z :: r) pos)
    | _ => false)
  | .not a, m, x => ok02 m && (match x with | .UnaryOp .Not x _ => chk cc sc a m x | _ => false)
  | .ite k a b, m, x => m == 0 && (match x with | .IfExp x y z _ => chk cc sc k 2 x && chk cc sc a 0 y && chk cc sc b 0 z | _ => false)
  | .tup es, m, x => okE m x && (match x with | .Tuple xs _ _ => decide (es.length ≤ 10000) && chkA cc sc es xs | _ => false)
  | .lst es, m, x => okF m x && (match x with | .List xs _ => decide (es.length ≤ 10000) && chkA cc sc es xs | _ => false)
  | .dct _ ks vs, m, x => okF m x && ks.isEmpty && vs.isEmpty && (match x with | .Dict [] [] _ => true | _ => false)
  | .sub a i, m, x => okE m x && (match x with | .Subscript x y _ => noSlice y && chk cc sc a 0 x && chk cc sc i 0 y | _ => false)
  | .slc a lo hi, m, x => okF m x && (match x with | .Subscript x (.Slice l u none _) _ => chk cc sc a 0 x && chkO cc sc lo l && chkO cc sc hi u | _ => false)
  | .fld a k, m, x => okE m x && (match x with | .Attribute x n _ => decide (fldN k = some n) && noCall x && chk cc sc a 0 x | _ => false)
  | .comp t k es cs e, m, x => okF m x && (match x with
    | .ListComp elt [⟨tg, it, ifs, 0⟩] scope _ => chkI cc sc es k tg it && noSetD it && L2.blkC cc.N sc scope (ownOf cc t.slots) && chkTg cc scope t tg && chkCs cc.inn (relS scope sc) cs ifs && chk cc.inn (relS scope sc) e 0 elt
    | _ => false)
  | .comp2 _ _ _ _ _ _ _, _, _ => false
  | .dcomp _ t k es a b, m, x => okF m x && (match x with
    | .DictComp kx vx [⟨tg, it, [], 0⟩] scope _ => chkI cc sc es k tg it && noSetD it && L2.blkC cc.N sc scope (ownOf cc t.slots) && chkTg cc scope t tg && chk cc.inn (relS scope sc) a 0 kx && chk cc.inn (relS scope sc) b 0 vx
    | _ => false)
  | .call g es, m, x => (okE m x || (okF m x && cc.fresh.contains g)) && (match x with | .Call (.Name y _) xs [] _ => glB sc y && decide (cc.gf.lookup y = some g) && chkA cc sc es xs | _ => false)
  | .callv v es, m, x => okE m x && (match v, x with | .var i, .Call (.Name y _) (x :: xs) [] _ => nmB cc i y && visB sc y && chkA cc sc es (x :: xs) | _, _ => false)
  | .clo i es, m, x => okE m x && (match x with | .Call (.Name y _) xs [] _ => decide (cc.clo = some (y, i)) && decide (xs.length = es.length) && chkA cc sc es xs | _ => false)
  | .lam g es is mb, m, x => okE m x && cc.lam && cc.lf.contains g && !cc.fresh.contains g && (match x with
    | .Call (.Name y _) [.Lambda ps body scope _] [] _ => es.isEmpty && glB sc y && decide (cc.gf.lookup y = some g) && chkL cc sc is ps scope && chk cc.inn scope mb 0 body
    | .Call (.Name y _) [a, .Lambda ps body scope _] [] _ => decide (es.length = 1) && glB sc y && decide (cc.gf.lookup y = some g) && chkL cc sc is ps scope && chkA cc sc es [a] && chk cc.inn scope mb 0 body
    | _ => false)
  | .meth g o es, m, x => okE m x && !cc.fresh.contains g && (match x with
    | .Call (.Attribute x n apos) xs [] pos => decide (cc.ms.lookup n = some g) && noCall x && (apos.endLine == pos.line) && decide (xs.length = es.length) && decide (xs.length < 20) && chk cc sc o 0 x && chkA cc sc es xs
    | _ => false)
  | .get a k z, m, x => okE m x && (match x with
    | .Call (.Attribute o n apos) [e, g] [] pos => decide (n = "get") && noCall o && noStar e && noStar g && (apos.endLine == pos.line) && chk cc sc a 0 o && chk cc sc k 0 e && chk cc sc z 0 g
    | _ => false)
  | .bi b es, m, x => okF m x && (match x with
    | .Call (.Attribute o n apos) [] [] pos => okE m x && decide (b = .bitLen) && decide (n = "bit_length") && noCall o && (apos.endLine == pos.line) && chkA cc sc es [o]
    | .Call (.Name y _) [o, .Name T tp] [] _ => if y = "isinstance" then okE m x && glB sc y && cc.nob.contains y && glB sc T && cc.nob.contains T && decide ((isBI b).map PySem.Str.ofString = some T) && chkA cc sc es [o]
      else decide (biName b = some y) && glB sc y && cc.nob.contains y && chkA cc sc es [o, .Name T tp]
    | .Call (.Name y _) (z :: xs) [] _ => decide (biName b = some y) && glB sc y && cc.nob.contains y && chkA cc sc es (z :: xs)
    | _ => false)
  | .bit _ _ _, _, _ => false
  | .mk es, m, x => okE m x && (match x with | .Call (.Name y _) (z :: xs) [] _ => decide (y = cc.tbl) && glB sc y && chkA cc sc es (z :: xs) | _ => false)
  | .sortk _ _ _ _, _, _ => false
  | .maxk _ _, _, _ => false
  | .newr e, m, x => okE m x && chk cc sc e 1 x
  | .frz i, m, x => okE m x && (match x with | .Name y _ => nmB cc i y && visB sc y | _ => false)
def chkA (cc : CC) (sc : Scope) : List ME → List Expr → Bool
  | [], [] => true
  | e :: es, x :: xs => noStar x && chk cc sc e 0 x && chkA cc sc es xs
  | _, _ => false
def chkO (cc : CC) (sc : Scope) : Option ME → Option Expr → Bool
  | none, none => true
  | some e, some x => chk cc sc e 0 x
  | _, _ => false
def chkCs (cc : CC) (sc : Scope) : List ME → List Expr → Bool
  | [], [] => true
  | [c], [x] => chk cc sc c 2 x
  | _, _ => false
/-- what is walked -/
def chkI (cc : CC) (sc : Scope) : List ME → IK → Expr → Expr → Bool
  | [e], .seq, _, x => chk cc sc e 0 x
  | [e], .rng, _, .Call (.Name y _) [x] [] _ => decide (y = "range") && glB sc y && cc.nob.contains y && noStar x && chk cc sc e 0 x
  | [e, e'], .rng, _, .Call (.Name y _) [x, x'] [] _ => decide (y = "range") && glB sc y && cc.nob.contains y && noStar x && noStar x' && chk cc sc e 0 x && chk cc sc e' 0 x'
  | [e], .enum, tg, .Call (.Name y _) [x] [] _ => isTup tg && decide (y = "enumerate") && glB sc y && cc.nob.contains y && noStar x && chk cc sc e 0 x
  | [e, e'], .zip, tg, .Call (.Name y _) [x, x'] [] _ => isTup tg && decide (y = "zip") && glB sc y && cc.nob.contains y && noStar x && noStar x' && chk cc sc e 0 x && chk cc sc e' 0 x'
  | _, _, _, _ => false
end
end Fw
end
section
set_option Elab.async false
set_option linter.all false
set_option maxRecDepth 100000
set_option maxHeartbeats 2000000
/-! Fw.Check: what matches runs as the mini-language says -/
namespace Fw
open PySem PySem.Spec PyProof.Rows L2 LamX
/-- the names mean what CC tells -/
structure Ok (cc : CC) (c : Cf) (X : Cx) (k : Nat) : Prop where
  hu : X.A.units + 64 < cLine
  calm : X.calm = true
  N : X.N = cc.N
  nd : X.N.Nodup
  fns : FnsOk c.W X c.F
  tk : L2.Takes X c.Wx
  tbl : TblOk c.W X.K
  mkk : MkOk c.W X
  gf : ∀ y g, cc.gf.lookup y = some g → X.mg y = some (.ref (c.W.fA g)) ∧ (c.W.prg g).isSome = true
  gc : ∀ y g d, cc.gc.lookup y = some (g, d) → ∃ v u, X.mg y = some u ∧ RelV v u ∧ ∀ G m, VRep c.W X.K G m d v
  tn : X.mg cc.tbl = some (.ref c.W.tC)
  ms : ∀ y g, cc.ms.lookup y = some g → Meth X.K c.W.tC y (c.W.fA g) ∧ (c.W.prg g).isSome = true ∧ y ∉ [sN, sRanks, sAll, sRank]
  nob : ∀ y, y ∈ cc.nob → X.mg y = none
  fresh : ∀ g, c.W.fresh g = cc.fresh.contains g
  clo : ∀ a i, cc.clo = some (a, i) → CloOk c X a i
  lam : cc.lam = true → LamPl c.W X ∧ (∀ g, g ∈ cc.lf → GetsLam c.W X c.F g k) ∧ ∀ X' : Cx, X'.prog = X.prog → X'.w = X.w → X'.K = X.K → X'.mg = X.mg → X'.base = X.base → Room k X'.A → FnsOk c.W X' c.F2 ∧ MkOk c.W X'
section
variable {X : Cx} {c : Cf} {cc : CC} {sc : Scope} {k : Nat}
theorem glB_gl {x : PySem.Str} (h : glB X.env.scope x = true) : Gl X x ∧ (x == ("__debug__" : PySem.Str)) = false := by
  simp only [glB, dbg, Bool.and_eq_true, decide_eq_true_eq, Bool.not_eq_true'] at h
  exact ⟨h.1, h.2.1⟩
theorem visB_vis {x : PySem.Str} (h : visB X.env.scope x = true) : Vis X.env.scope x ∧ (x == ("__debug__" : PySem.Str)) = false ∧ (x == ("__classdict__" : PySem.Str)) = false := by
  simp only [visB, locB, dbg, Bool.and_eq_true, Bool.or_eq_true, decide_eq_true_eq, Bool.not_eq_true'] at h
  refine ⟨?_, h.2.1, h.2.2⟩
  rcases h.1 with (h | h) | h
  · exact .inl h
  · exact .inr (.inl h)
  · exact .inr (.inr h)
theorem locB_loc {sc : Scope} {x : PySem.Str} (h : locB sc x = true) : Loc sc x := by
  simp only [locB, Bool.or_eq_true, decide_eq_true_eq] at h
  exact h
theorem nmB_at (O : Ok cc c X k) {i : Nat} {y : PySem.Str} (h : nmB cc i y = true) : X.N[i]? = some y := by
  simp only [nmB, decide_eq_true_eq] at h
  rw [O.N]; exact h
/-- within a comprehension's block -/
theorem Ok.blk (O : Ok cc c X k) (s : Shared) (H : Hp) (scope : Scope) (ce : PySem.Env) (fp : List Addr) : Ok cc.inn c.inn (X.blk s H scope ce fp) k :=
  { hu := O.hu, calm := O.calm, N := O.N, nd := O.nd, fns := ⟨O.fns.run, O.fns.keep, O.fns.binds, O.fns.gone, O.fns.len⟩, tk := LamX.takes0, tbl := O.tbl, mkk := ⟨O.mkk.made, O.mkk.run⟩, gf := O.gf, gc := O.gc, tn := O.tn, ms := O.ms, nob := O.nob, fresh := O.fresh,
    clo := fun _ _ h => (nomatch h), lam := fun h => Bool.noConfusion h }
/-- where the targets' names stand -/
def TgOk (X : Cx) (sc : Scope) : Prop := ∀ y, Loc sc y → Loc X.env.scope y ∧ (X.fn y = true ∨ X.env.scope.names.lookup y = some .local)
mutual
theorem okTg (hN : X.N = cc.N) (nd : X.N.Nodup) (hc : X.calm = true) (hf : TgOk X sc) : ∀ (t : MT) (x : Expr), chkTg cc sc t x = true → PG X x (tG c X.K t)
  | .nm i, x, h => by
    cases x <;> simp only [chkTg, Bool.false_eq_true] at h
    rename_i y pos
    rw [Bool.and_eq_true] at h
    have h1 : X.N[i]? = some y := by rw [hN]; exact of_decide_eq_true h.1
    obtain ⟨h2, h3⟩ := hf y (locB_loc h.2)
    exact g_nm nd h1 h2 h3
  | .tp ts, x, h => by
    cases x <;> simp only [chkTg, Bool.false_eq_true] at h
    rw [Bool.and_eq_true, Bool.and_eq_true] at h
    exact g_tp hc h.1.1 (of_decide_eq_true h.1.2) (okTgs hN nd hc hf ts _ h.2)
theorem okTgs (hN : X.N = cc.N) (nd : X.N.Nodup) (hc : X.calm = true) (hf : TgOk X sc) : ∀ (ts : List MT) (xs : List Expr), chkTgs cc sc ts xs = true → PGs X xs (tGs c X.K ts)
  | [], xs, h => by
    cases xs with
    | nil => exact gs_nil
    | cons _ _ => simp [chkTgs] at h
  | t :: ts, xs, h => by
    cases xs with
    | nil => simp [chkTgs] at h
    | cons x xs =>
      simp only [chkTgs, Bool.and_eq_true] at h
      exact gs_cons h.1.1 (okTg hN nd hc hf t x h.1.2) (okTgs hN nd hc hf ts xs h.2)
end
theorem blk_sc (s : Shared) (H : Hp) (scope : Scope) (C : Addr) (cl : List (PySem.Str × Addr)) (fp : List Addr) : (X.blk s H scope (compEnvC scope cl C X.env) fp).env.scope = relS scope X.env.scope := rfl
theorem blk_tg (s : Shared) (H : Hp) (scope : Scope) (C : Addr) (cl : List (PySem.Str × Addr)) (fp : List Addr) : TgOk (X.blk s H scope (compEnvC scope cl C X.env) fp) scope := fun y h => by
  rw [blk_sc]
  rcases h with h | h
  · have := lookup_relS_keep (sc := X.env.scope) (by decide) h
    exact ⟨.inl this, .inr this⟩
  · have := lookup_relS_keep (sc := X.env.scope) (by decide) h
    refine ⟨.inr this, .inl ?_⟩
    show (scope.names.lookup y == some .cell) = true
    rw [h]; rfl
theorem own_snd (is : List Nat) : (ownOf cc is).map (·.2) = is := by
  unfold ownOf
  rw [List.map_map]
  have : ((fun x : PySem.Str × Nat => x.2) ∘ fun i => (cc.N.getD i "", i)) = id := rfl
  rw [this, List.map_id]
end
end Fw
end
section
set_option Elab.async false
set_option linter.all false
set_option maxRecDepth 100000
set_option maxHeartbeats 4000000
/-! Fw.Check: expressions -/
namespace Fw
open PySem PySem.Spec PyProof.Rows L2 LamX
/-- what a mode asks -/
def Does (c : Cf) (X : Cx) (e : ME) (m : Nat) (x : Expr) : Prop := (m = 0 → PE X x (tE c X.K e)) ∧ (m = 1 → PE X x (tF c X.K e)) ∧ (m = 2 → PT X x (tT c X.K e))
section
variable {X : Cx} {c : Cf} {cc : CC} {k : Nat}
theorem oE {e : ME} {m : Nat} {x : Expr} (h : okE m x = true) (he : ∀ n ρ, evT c.F c.F2 c.cl e n ρ = bnd (ev c.F c.F2 c.cl e n ρ) fun d => opt (truth d)) (p : PE X x (tE c X.K e)) : Does c X e m x := by
  simp only [okE, Bool.or_eq_true, Bool.and_eq_true, beq_iff_eq] at h
  refine ⟨fun _ => p, fun z => ?_, fun z => ?_⟩
  · rcases h with h | h <;> omega
  · rcases h with h | h
    · omega
    · exact t_truth p h.2 he
theorem oF {e : ME} {m : Nat} {x : Expr} (h : okF m x = true) (he : ∀ n ρ, evT c.F c.F2 c.cl e n ρ = bnd (ev c.F c.F2 c.cl e n ρ) fun d => opt (truth d)) (p : PE X x (tF c X.K e)) : Does c X e m x := by
  simp only [okF, Bool.or_eq_true, Bool.and_eq_true, beq_iff_eq] at h
  refine ⟨fun _ => Fw.PE.ofF p, fun _ => p, fun z => ?_⟩
  rcases h with h | h
  · omega
  · exact t_truth (Fw.PE.ofF p) h.2 he
theorem oCmp {e : ME} {m : Nat} {x : Expr} (h : ok02 m = true) (p : PE X x (tE c X.K e)) (t : PT X x (tT c X.K e)) : Does c X e m x := by
  simp only [ok02, Bool.or_eq_true, beq_iff_eq] at h
  exact ⟨fun _ => p, fun z => by omega, fun _ => t⟩
theorem t_chain {o p : CO} {a b d : ME} {x y z : Expr} {pos : Pos} (hu : X.A.units + 64 < cLine) (ha : PE X x (tE c X.K a)) (hb : PE X y (tE c X.K b)) (hd : PE X z (tE c X.K d)) (hm : noSetD z = true) :
    PT X (.Compare x [opCO o, opCO p] [y, z] pos) (tT c X.K (.chain o p a b d)) :=
  pt_weak (pt_chain (or_cmp (c := c) hu o) (or_cmp (c := c) hu p) ha hb hd (by simp only [lastMarks]; exact noSet_of hm)) fun σ H Q h => by
    have h' := tT_bl (fun n ρ => by simp only [evT]) (fun n ρ Z d Z' q => by
      simp only [ev] at q
      obtain ⟨x, Z1, _, q⟩ := bnd_ok q
      obtain ⟨y, Z2, _, q⟩ := bnd_ok q
      obtain ⟨z, Z3, q1, q⟩ := bnd_ok q
      obtain ⟨b, rfl⟩ := cmpOp_bl q1
      cases b with
      | false => simp only [ret] at q; cases q; exact ⟨_, rfl⟩
      | true =>
        obtain ⟨w, Z4, _, q⟩ := bnd_ok q
        exact cmpOp_bl q) h
    obtain ⟨pv, m, Z, G, ρ, R, E, h⟩ := h'
    simp only [ev] at h
    refine ⟨pv, m, Z, G, ρ, R, E, (h.bnd (rx := VRep c.W X.K)).mono fun x H1 ⟨d1, m1, Z1, G1, R1, s1, r1, _, h1⟩ => ?_⟩
    refine ⟨pv, m1, Z1, G1, ρ, R1, E.step s1, (h1.bnd (rx := VRep c.W X.K)).mono fun y H2 ⟨d2, m2, Z2, G2, R2, s2, r2, _, h2⟩ => ?_⟩
    refine ⟨σ, pv, m2, Z2, G2, d1, d2, R2, s2.rep r1, r2, (h2.bnd (rx := VRep c.W X.K)).mono fun z H3 ⟨d3, m3, Z3, G3, R3, s3, r3, e3, h3⟩ => ?_⟩
    obtain ⟨k, rfl⟩ := cmpOp_bl e3
    simp only [VRep] at r3
    refine ⟨k, r3, ?_⟩
    cases k with
    | false => exact okBl h3 R3
    | true =>
      refine ⟨pv, m3, Z3, G3, ρ, R3, (E.step (s1.trans (s2.trans s3))), (Pst.bnd (rx := VRep c.W X.K) h3).mono fun w H4 ⟨d4, m4, Z4, G4, R4, s4, r4, _, h4⟩ => ?_⟩
      exact ⟨σ, pv, m4, Z4, G4, d2, d4, R4, s4.rep (s3.rep r2), r4, h4⟩
theorem s_nev {x : Expr} : PE X x (tF c X.K .nev) := ⟨fun pins s σ H Q I ⟨pv, m, Z, G, ρ, R, E, h⟩ => by simp only [ev] at h; exact h.elim⟩
theorem meth_ev {x : Expr} {nm : PySem.Str} {as : List Expr} {apos pos : Pos} (h1 : noCall x = true) (hs : noStarsB as = true) (hl : as.length < 20) (hline : (apos.endLine == pos.line) = true) : ∃ pl : Sem Bool, eval (.Call (.Attribute x nm apos) as [] pos) X.env = (do
      let ov ← eval x X.env
      standAt apos.atName
      let (f, first) ← holding [ov] (getMethod ov nm pl)
      callWith pos f first (backTo pos (starEach as X.env)) (backToKw pos (keywordEach [] X.env))) := by
  have hall : ∀ {as : List Expr}, noStarsB as = true → (backTo pos (starEach as X.env)).all (fun p => !p.1) = true := fun {as} => by
    induction as with
    | nil => intro _; rfl
    | cons a as ih =>
      intro h
      simp only [noStarsB, List.all_cons, Bool.and_eq_true] at h
      rw [noStar_of h.1]
      show ((false, eval a X.env) :: backTo pos (starEach as X.env)).all (fun p => !p.1) = true
      rw [List.all_cons, ih h.2]; rfl
  have hform : methodCallForm (as.length + ([] : List Keyword).length) (backTo pos (starEach as X.env)) (backToKw pos (keywordEach [] X.env)) = true := by
    unfold methodCallForm
    rw [hall hs]
    simp only [Bool.true_and, Bool.and_eq_true, decide_eq_true_eq]
    refine ⟨rfl, ?_⟩
    show as.length + 0 + (if (backToKw pos (keywordEach [] X.env)).isEmpty then 0 else 1) < 30
    split <;> omega
  refine ⟨(do return (← importBound x X.env).getD true), ?_⟩
  show (do
    let ov ← attributeBase x nm X.env (eval x X.env)
    standAt apos.atName
    methodCall x nm apos pos X.env ov (as.length + ([] : List Keyword).length) (backTo pos (starEach as X.env)) (backToKw pos (keywordEach [] X.env))) = _
  rw [attrBase_of h1]
  unfold methodCall
  rw [hform]
  have hpos : methodCallPos true x X.env apos pos = pure pos := by
    unfold methodCallPos
    rw [hline]; rfl
  rw [hpos]
  simp only [calleeOf, if_true, pure_bind]
end
theorem and2 {a b : Bool} (h : (a && b) = true) : a = true ∧ b = true := by
  simp only [Bool.and_eq_true] at h; exact h
section
variable {X : Cx} {c : Cf} {cc : CC} {k : Nat} {pos : Pos}
/-- a built-in by its name -/
theorem bi_run {b : BI} {es : List ME} {y : PySem.Str} {a : Expr} {as : List Expr} {p : Pos} (hc : X.calm = true) (hb : biName b = some y) (hg : Gl X y) (hm : X.mg y = none) (hdb : (y == ("__debug__" : PySem.Str)) = false) (hs : noStarsB (a :: as) = true) (ha : PA X (a :: as) (tA c X.K es)) :
    PE X (.Call (.Name y p) (a :: as) [] pos) (tF c X.K (.bi b es)) := by
  cases b <;> simp only [biName, Option.some.injEq, reduceCtorEq] at hb <;> subst hb
  · exact s_biF b_len hg hm rfl (by decide) hdb hs ha
  · exact s_biF (b_sum hc) hg hm rfl (by decide) hdb hs ha
  · exact s_biF (b_all hc) hg hm rfl (by decide) hdb hs ha
  · exact s_biF (b_any hc) hg hm rfl (by decide) hdb hs ha
  · exact s_biF (b_max hc) hg hm rfl (by decide) hdb hs ha
  · exact s_biF (b_min hc) hg hm rfl (by decide) hdb hs ha
  · exact s_biF (b_max2 hc) hg hm rfl (by decide) hdb hs ha
  · exact s_biF (b_min2 hc) hg hm rfl (by decide) hdb hs ha
  · exact s_biF b_sorted hg hm rfl (by decide) hdb hs ha
  · exact s_tyF b_tuple hg hm rfl (by decide) hdb hs ha
  · exact s_tyF b_list hg hm rfl (by decide) hdb hs ha
  · exact s_biF b_abs hg hm rfl (by decide) hdb hs ha
  · exact s_tyF b_int hg hm rfl (by decide) hdb hs ha
/-- isinstance -/
theorem isi_run {b : BI} {T : PySem.Str} {e : ME} {o : Expr} {p tp : Pos} (hb : (isBI b).map PySem.Str.ofString = some T) (hgi : Gl X "isinstance") (hmi : X.mg "isinstance" = none) (hg : Gl X T) (hm : X.mg T = none) (hdb : (T == ("__debug__" : PySem.Str)) = false) (hs : noStar o = true) (ho : PE X o (tE c X.K e)) :
    PE X (.Call (.Name "isinstance" p) [o, .Name T tp] [] pos) (tE c X.K (.bi b [e])) := by
  cases b <;> simp only [isBI, Option.map_some, Option.map_none, Option.some.injEq, reduceCtorEq] at hb <;> subst hb <;> exact s_isi rfl hgi hmi hg hm rfl (by decide) hdb hs ho
/-! ### lambdas -/
theorem lam_dflt {cc : CC} {sc : Scope} {is : List Nat} {params : Arguments} {scope : Scope} {env : PySem.Env} (h : chkL cc sc is params scope = true) : ∃ as, lamScB sc scope as = true ∧ as.length ≤ 1 ∧ is.length = as.length ∧ defaultsOf params env = ([], []) ∧
    (∀ (j : Nat) (n : Nat) (y : PySem.Str), is[j]? = some n → as[j]? = some y → nmB cc n y = true) ∧
    ∀ (body : Expr) (q : PySem.Str) (cl : List (PySem.Str × Addr)) (pm cv ctv : Value) (us : List Value), us.length = as.length → bindArgs (PySem.W.kla_fn "<lambda>" q params body scope cl pm cv ctv) ⟨us, []⟩ = pure (as.zip us) := by
  unfold chkL at h
  split at h
  · refine ⟨[], h, by simp, rfl, rfl, fun j n y e => by simp at e, fun body q cl pm cv ctv us e => ?_⟩
    have : us = [] := List.eq_nil_of_length_eq_zero e
    subst this
    rfl
  · rename_i i a _
    obtain ⟨h1, h2⟩ := and2 h
    refine ⟨[a], h1, by simp, rfl, rfl, fun j n y e e2 => ?_, fun body q cl pm cv ctv us e => ?_⟩
    · match j, e, e2 with
      | 0, e, e2 => cases e; cases e2; exact h2
      | j + 1, e, e2 => simp at e
    · match us, e with
      | [u], _ =>
        have q1 : (a == a) = true := beq_self_eq_true a
        have e1 : ([(a, u)] : List (PySem.Str × Value)).lookup a = some u := by simp only [List.lookup, q1]
        unfold bindArgs
        simp only [PySem.W.kla_fn, List.map_nil, List.map_cons, List.nil_append, List.zip_cons_cons, List.zip_nil_right, List.zip_nil_left, List.length_cons, List.length_nil]
        show _ = _
        simp [e1, seqItems?]
        rfl
  · cases h
theorem Ok.inLam (O : Ok cc c X k) (h : cc.lam = true) {scope : Scope} (n : Nat) (E : XK) (A : Around) (outer : List PySem.Env) (t : Shared) (H : Hp) (f c' : Addr) (hr : Room k (A.deeper (lamEnv X scope t.heap.objs.size f c'))) : Ok cc.inn (c.lam n fun cls d _ H => E cls d H) (lamCx X A outer t H E scope f c') k := by
  obtain ⟨_, _, q⟩ := O.lam h
  obtain ⟨q1, q2⟩ := q (lamCx X A outer t H E scope f c') rfl rfl rfl rfl rfl hr
  exact { hu := hr.units, calm := rfl, N := O.N, nd := O.nd, fns := q1, tk := takes_of (X := lamCx X A outer t H E scope f c') rfl rfl rfl rfl, tbl := O.tbl, mkk := q2, gf := O.gf, gc := O.gc, tn := O.tn, ms := O.ms, nob := O.nob, fresh := O.fresh, clo := fun _ _ h => (nomatch h), lam := fun h => Bool.noConfusion h }
end
end Fw
end
section
set_option Elab.async false
set_option linter.all false
set_option maxRecDepth 100000
set_option maxHeartbeats 4000000
/-! Fw.Check: expressions, by their texts -/
namespace Fw
open PySem PySem.Spec PyProof.Rows L2 LamX
theorem and3 {a b c : Bool} (h : (a && b && c) = true) : a = true ∧ b = true ∧ c = true := by
  simp only [Bool.and_eq_true] at h; exact ⟨h.1.1, h.1.2, h.2⟩
theorem biTy (b : BI) : (∃ id, bootBuiltins ((biName b).getD "") = some (.builtin id)) ∨ (∃ T, bootBuiltins ((biName b).getD "") = some (.type T)) ∨ biName b = none := by
  cases b <;> first
    | (right; right; rfl; done)
    | (left; exact ⟨_, rfl⟩)
    | (right; left; exact ⟨_, rfl⟩)
theorem pw_of {X : Cx} {op : BoolOp} {xs : List Expr} {pos : Pos} {t : TT} (h : PT X (.BoolOp op xs pos) t) : PW X (.BoolOp op xs pos) t := ⟨fun wh pins s σ H Q I q => by
  have e : PySem.isTrue (.BoolOp op xs pos) X.env wh = PySem.isTrue (.BoolOp op xs pos) X.env (eval (.BoolOp op xs pos) X.env) := by simp only [PySem.isTrue]
  rw [e]
  exact h.run pins s σ H Q I q⟩
theorem folded_of {it : Expr} {env : PySem.Env} (h : noSetD it = true) (x : Value) : foldedSetIterable it env x = pure x := by
  cases it <;> first | rfl | (simp [noSetD] at h)
theorem isTup_of {t : Expr} (h : isTup t = true) : ∃ es n p, t = .Tuple es n p := by
  cases t <;> first | exact ⟨_, _, _, rfl⟩ | (simp [isTup] at h)
theorem m02 {m : Nat} (h : ok02 m = true) : m = 0 ∨ m = 2 := by
  simp only [ok02, Bool.or_eq_true, beq_iff_eq] at h; exact h
theorem stars_of {cc : CC} {sc : Scope} : ∀ {es : List ME} {xs : List Expr}, chkA cc sc es xs = true → noStarsB xs = true ∧ xs.length = es.length
  | [], [], _ => ⟨rfl, rfl⟩
  | [], _ :: _, h => by rw [chkA.eq_def] at h; cases h
  | _ :: _, [], h => by rw [chkA.eq_def] at h; cases h
  | e :: es, x :: xs, h => by
    rw [chkA.eq_def] at h; dsimp only at h
    simp only [Bool.and_eq_true] at h
    obtain ⟨h1, h2⟩ := stars_of h.2
    exact ⟨by simp only [noStarsB, List.all_cons, h.1.1, Bool.true_and]; exact h1, by simp [h2]⟩
section
variable {k : Nat}
mutual
theorem okX : ∀ (e : ME) {cc : CC} {c : Cf} {X : Cx} (O : Ok cc c X k) (m : Nat) (x : Expr), chk cc X.env.scope e m x = true → Does c X e m x
  | .nev, cc, c, X, O, m, x, h => ⟨fun _ => Fw.PE.ofF s_nev, fun _ => s_nev, fun _ => ⟨fun pins s σ H Q I ⟨pv, m, Z, G, ρ, R, E, h⟩ => by simp only [evT, ev, bnd, stk] at h; exact h.elim⟩⟩
  | .lit d, cc, c, X, O, m, x, h => by
    rw [chk.eq_def] at h; dsimp only at h
    obtain ⟨h1, h2⟩ := and2 h
    refine oE h1 (fun n ρ => by simp only [evT]) ?_
    split at h2
    · rw [of_decide_eq_true h2]; exact s_int
    · rw [of_decide_eq_true h2]; exact s_bl
    · exact s_non
    · rw [of_decide_eq_true h2]; exact s_str
    · cases h2
  | .var i, cc, c, X, O, m, x, h => by
    rw [chk.eq_def] at h; dsimp only at h
    obtain ⟨h1, h2⟩ := and2 h
    refine oE h1 (fun n ρ => by simp only [evT]) ?_
    split at h2
    · obtain ⟨h3, h4⟩ := and2 h2
      obtain ⟨v1, v2, v3⟩ := visB_vis h4
      exact s_var (nmB_at O h3) v1 v2 v3
    · cases h2
  | .gl g d, cc, c, X, O, m, x, h => by
    rw [chk.eq_def] at h; dsimp only at h
    obtain ⟨h1, h2⟩ := and2 h
    refine oE h1 (fun n ρ => by simp only [evT]) ?_
    split at h2
    · obtain ⟨h3, h4⟩ := and2 h2
      split at h4
      · rename_i g' d' e
        obtain ⟨h5, h6⟩ := and2 h4
        have hd := D.beq_eq _ _ h6
        subst hd
        obtain ⟨v, u, q1, q2, q3⟩ := O.gc _ _ _ e
        obtain ⟨g1, g2⟩ := glB_gl h3
        exact s_gl g1 q1 q2 q3 g2
      · cases h4
    · cases h2
  | .bin o a b, cc, c, X, O, m, x, h => by
    rw [chk.eq_def] at h; dsimp only at h
    obtain ⟨h1, h2⟩ := and2 h
    refine oF h1 (fun n ρ => by simp only [evT]) ?_
    split at h2
    · obtain ⟨h3, h4, h5⟩ := and3 h2
      rw [boB_eq h3]
      exact s_binF ((okX a O 0 _ h4).1 rfl) ((okX b O 0 _ h5).1 rfl)
    · cases h2
  | .neg a, cc, c, X, O, m, x, h => by
    rw [chk.eq_def] at h; dsimp only at h
    obtain ⟨h1, h2⟩ := and2 h
    refine oE h1 (fun n ρ => by simp only [evT]) ?_
    split at h2
    · exact s_neg ((okX a O 0 _ h2).1 rfl)
    · cases h2
  | .cmp o a b, cc, c, X, O, m, x, h => by
    rw [chk.eq_def] at h; dsimp only at h
    obtain ⟨h1, h2⟩ := and2 h
    split at h2
    · simp only [Bool.and_eq_true] at h2
      obtain ⟨⟨⟨h3, h4⟩, h5⟩, h6⟩ := h2
      rw [coB_eq h3]
      exact oCmp h1 (s_cmp O.hu ((okX a O 0 _ h5).1 rfl) ((okX b O 0 _ h6).1 rfl) (noSet_of h4)) (t_cmp O.hu ((okX a O 0 _ h5).1 rfl) ((okX b O 0 _ h6).1 rfl) h4)
    · cases h2
  | .chain o o' a b d, cc, c, X, O, m, x, h => by
    rw [chk.eq_def] at h; dsimp only at h
    obtain ⟨h1, h2⟩ := and2 h
    split at h2
    · simp only [Bool.and_eq_true] at h2
      obtain ⟨⟨⟨⟨⟨h3, h4⟩, h5⟩, h6⟩, h7⟩, h8⟩ := h2
      rw [coB_eq h3, coB_eq h4]
      exact oCmp h1 (s_chain O.hu ((okX a O 0 _ h6).1 rfl) ((okX b O 0 _ h7).1 rfl) ((okX d O 0 _ h8).1 rfl) h5) (t_chain O.hu ((okX a O 0 _ h6).1 rfl) ((okX b O 0 _ h7).1 rfl) ((okX d O 0 _ h8).1 rfl) h5)
    · cases h2
  | .and a b, cc, c, X, O, m, x, h => by
    rw [chk.eq_def] at h; dsimp only at h
    obtain ⟨h1, h2⟩ := and2 h
    split at h2
    · obtain ⟨h3, h4⟩ := and2 h2
      have A := okX a O m _ h3
      have B := okX b O m _ h4
      rcases m02 h1 with rfl | rfl
      · exact ⟨fun _ => s_and (A.1 rfl) (s_one (B.1 rfl)), fun z => by omega, fun z => by omega⟩
      · exact ⟨fun z => by omega, fun z => by omega, fun _ => t_bool (w_and (A.2.2 rfl) (w_and1 (B.2.2 rfl)))⟩
    · obtain ⟨h3, h4⟩ := and2 h2
      have A := okX a O m _ h3
      have B := okX b O m _ h4
      rcases m02 h1 with rfl | rfl
      · exact ⟨fun _ => s_and (A.1 rfl) (B.1 rfl), fun z => by omega, fun z => by omega⟩
      · exact ⟨fun z => by omega, fun z => by omega, fun _ => t_bool (w_and (A.2.2 rfl) (pw_of (B.2.2 rfl)))⟩
    · cases h2
  | .or a b, cc, c, X, O, m, x, h => by
    rw [chk.eq_def] at h; dsimp only at h
    obtain ⟨h1, h2⟩ := and2 h
    split at h2
    · obtain ⟨h3, h4⟩ := and2 h2
      have A := okX a O m _ h3
      have B := okX b O m _ h4
      rcases m02 h1 with rfl | rfl
      · exact ⟨fun _ => s_or (A.1 rfl) (s_one (B.1 rfl)), fun z => by omega, fun z => by omega⟩
      · exact ⟨fun z => by omega, fun z => by omega, fun _ => t_bool (w_or (A.2.2 rfl) (w_or1 (B.2.2 rfl)))⟩
    · obtain ⟨h3, h4⟩ := and2 h2
      have A := okX a O m _ h3
      have B := okX b O m _ h4
      rcases m02 h1 with rfl | rfl
      · exact ⟨fun _ => s_or (A.1 rfl) (B.1 rfl), fun z => by omega, fun z => by omega⟩
      · exact ⟨fun z => by omega, fun z => by omega, fun _ => t_bool (w_or (A.2.2 rfl) (pw_of (B.2.2 rfl)))⟩
    · cases h2
  | .not a, cc, c, X, O, m, x, h => by
    rw [chk.eq_def] at h; dsimp only at h
    obtain ⟨h1, h2⟩ := and2 h
    split at h2
    · have A := okX a O m _ h2
      rcases m02 h1 with rfl | rfl
      · exact ⟨fun _ => s_not (A.1 rfl), fun z => by omega, fun z => by omega⟩
      · exact ⟨fun z => by omega, fun z => by omega, fun _ => t_not (A.2.2 rfl)⟩
    · cases h2
  | .ite q a b, cc, c, X, O, m, x, h => by
    rw [chk.eq_def] at h; dsimp only at h
    obtain ⟨h1, h2⟩ := and2 h
    have hm : m = 0 := by simpa using h1
    subst hm
    split at h2
    · obtain ⟨h3, h4, h5⟩ := and3 h2
      exact ⟨fun _ => s_ite ((okX q O 2 _ h3).2.2 rfl) ((okX a O 0 _ h4).1 rfl) ((okX b O 0 _ h5).1 rfl), fun z => by omega, fun z => by omega⟩
    · cases h2
  | .tup es, cc, c, X, O, m, x, h => by
    rw [chk.eq_def] at h; dsimp only at h
    obtain ⟨h1, h2⟩ := and2 h
    refine oE h1 (fun n ρ => by simp only [evT]) ?_
    split at h2
    · obtain ⟨h3, h4⟩ := and2 h2
      exact s_tup (of_decide_eq_true h3) (okA es O _ h4)
    · cases h2
  | .lst es, cc, c, X, O, m, x, h => by
    rw [chk.eq_def] at h; dsimp only at h
    obtain ⟨h1, h2⟩ := and2 h
    refine oF h1 (fun n ρ => by simp only [evT]) ?_
    split at h2
    · obtain ⟨h3, h4⟩ := and2 h2
      exact s_lstF (of_decide_eq_true h3) (okA es O _ h4)
    · cases h2
  | .dct t ks vs, cc, c, X, O, m, x, h => by
    rw [chk.eq_def] at h; dsimp only at h
    simp only [Bool.and_eq_true, List.isEmpty_iff] at h
    obtain ⟨⟨⟨h1, rfl⟩, rfl⟩, h2⟩ := h
    refine oF h1 (fun n ρ => by simp only [evT]) ?_
    split at h2
    · cases t
      · exact s_dnewK
      · exact s_dnewT
    · cases h2
  | .sub a i, cc, c, X, O, m, x, h => by
    rw [chk.eq_def] at h; dsimp only at h
    obtain ⟨h1, h2⟩ := and2 h
    refine oE h1 (fun n ρ => by simp only [evT]) ?_
    split at h2
    · obtain ⟨h3, h4, h5⟩ := and3 h2
      exact s_sub O.hu ((okX a O 0 _ h4).1 rfl) ((okX i O 0 _ h5).1 rfl) h3
    · cases h2
  | .slc a lo hi, cc, c, X, O, m, x, h => by
    rw [chk.eq_def] at h; dsimp only at h
    obtain ⟨h1, h2⟩ := and2 h
    refine oF h1 (fun n ρ => by simp only [evT]) ?_
    split at h2
    · obtain ⟨h3, h4, h5⟩ := and3 h2
      exact s_slcF ((okX a O 0 _ h3).1 rfl) (okO lo O _ h4) (okO hi O _ h5)
    · cases h2
  | .fld a j, cc, c, X, O, m, x, h => by
    rw [chk.eq_def] at h; dsimp only at h
    obtain ⟨h1, h2⟩ := and2 h
    refine oE h1 (fun n ρ => by simp only [evT]) ?_
    split at h2
    · obtain ⟨h3, h4, h5⟩ := and3 h2
      exact s_fld O.tbl (of_decide_eq_true h3) ((okX a O 0 _ h5).1 rfl) h4
    · cases h2
  | .comp2 _ _ _ _ _ _ _, cc, c, X, O, m, x, h => by rw [chk.eq_def] at h; cases h
  | .bit _ _ _, cc, c, X, O, m, x, h => by rw [chk.eq_def] at h; cases h
  | .sortk _ _ _ _, cc, c, X, O, m, x, h => by rw [chk.eq_def] at h; cases h
  | .maxk _ _, cc, c, X, O, m, x, h => by rw [chk.eq_def] at h; cases h
  | .newr e, cc, c, X, O, m, x, h => by
    rw [chk.eq_def] at h; dsimp only at h
    obtain ⟨h1, h2⟩ := and2 h
    exact oE h1 (fun n ρ => by simp only [evT]) (s_newr ((okX e O 1 _ h2).2.1 rfl))
  | .frz i, cc, c, X, O, m, x, h => by
    rw [chk.eq_def] at h; dsimp only at h
    obtain ⟨h1, h2⟩ := and2 h
    refine oE h1 (fun n ρ => by simp only [evT]) ?_
    split at h2
    · obtain ⟨h3, h4⟩ := and2 h2
      obtain ⟨v1, v2, v3⟩ := visB_vis h4
      exact s_frz (nmB_at O h3) v1 v2 v3
    · cases h2
  | .comp t w es cs e, cc, c, X, O, m, x, h => by
    rw [chk.eq_def] at h; dsimp only at h
    obtain ⟨h1, h2⟩ := and2 h
    refine oF h1 (fun n ρ => by simp only [evT]) ?_
    split at h2
    · simp only [Bool.and_eq_true] at h2
      obtain ⟨⟨⟨⟨⟨h3, h4⟩, h5⟩, h6⟩, h7⟩, h8⟩ := h2
      have hN := O.N
      refine pe_weak (pe_lc (g := tG c.inn X.K t) (tt := tC c.inn X.K cs) (te := tE c.inn X.K e) O.calm O.nd (okI es O w _ _ h3) (blkOk_by (by rw [hN]; exact h5)) (fun s H C cl fp => okTg (X := X.blk s H _ (compEnvC _ cl C X.env) fp) (c := c.inn) O.N O.nd O.calm (blk_tg s H _ C cl fp) t _ h6) (fun s H C cl fp => okCs cs (X := X.blk s H _ (compEnvC _ cl C X.env) fp) (O.blk s H _ (compEnvC _ cl C X.env) fp) _ h7) (fun s H C cl fp => (okX e (X := X.blk s H _ (compEnvC _ cl C X.env) fp) (O.blk s H _ (compEnvC _ cl C X.env) fp) 0 _ h8).1 rfl) (folded_of h4)) fun σ H Q q => ?_
      rw [own_snd]
      exact s_lcF σ H Q q
    · cases h2
  | .dcomp d t w es a b, cc, c, X, O, m, x, h => by
    rw [chk.eq_def] at h; dsimp only at h
    obtain ⟨h1, h2⟩ := and2 h
    refine oF h1 (fun n ρ => by simp only [evT]) ?_
    split at h2
    · simp only [Bool.and_eq_true] at h2
      obtain ⟨⟨⟨⟨⟨h3, h4⟩, h5⟩, h6⟩, h7⟩, h8⟩ := h2
      have hN := O.N
      have hu := O.hu
      refine pe_weak (pe_dg (g := tG c.inn X.K t) (tk := tE c.inn X.K a) (tv := tE c.inn X.K b) (o := if d then .dT [] else .dK []) (by omega) O.calm O.nd (by cases d <;> simp) (okI es O w _ _ h3) (blkOk_by (by rw [hN]; exact h5)) (fun s H C cl fp => okTg (X := X.blk s H _ (compEnvC _ cl C X.env) fp) (c := c.inn) O.N O.nd O.calm (blk_tg s H _ C cl fp) t _ h6) (fun s H C cl fp => (okX a (X := X.blk s H _ (compEnvC _ cl C X.env) fp) (O.blk s H _ (compEnvC _ cl C X.env) fp) 0 _ h7).1 rfl) (fun s H C cl fp => (okX b (X := X.blk s H _ (compEnvC _ cl C X.env) fp) (O.blk s H _ (compEnvC _ cl C X.env) fp) 0 _ h8).1 rfl) h4) fun σ H Q q => ?_
      rw [own_snd]
      exact s_dcF rfl σ H Q q
    · cases h2
  | .call g es, cc, c, X, O, m, x, h => by
    rw [chk.eq_def] at h; dsimp only at h
    obtain ⟨h1, h2⟩ := and2 h
    split at h2
    · rename_i y p xs pos
      obtain ⟨h3, h4, h5⟩ := and3 h2
      obtain ⟨g1, g2⟩ := glB_gl h3
      obtain ⟨q1, q2⟩ := O.gf _ _ (of_decide_eq_true h4)
      obtain ⟨st, ln⟩ := stars_of h5
      have A := okA es O _ h5
      have P : PE X (.Call (.Name y p) xs [] pos) (tCa c X.K g es) := by
        cases xs with
        | nil =>
          have : es = [] := List.eq_nil_of_length_eq_zero (by simpa using ln.symm)
          subst this
          exact s_call0 O.fns O.tk g1 q1 q2 g2
        | cons a as => exact s_callA O.fns O.tk g1 q1 q2 g2 st A
      cases hf : c.W.fresh g with
      | false =>
        have hf' : cc.fresh.contains g = false := by rw [← O.fresh]; exact hf
        rw [hf', Bool.and_false, Bool.or_false] at h1
        exact oE h1 (fun n ρ => by simp only [evT]) (s_call hf P)
      | true =>
        have hf' : cc.fresh.contains g = true := by rw [← O.fresh]; exact hf
        rw [hf', Bool.and_true] at h1
        refine oF ?_ (fun n ρ => by simp only [evT]) (s_callF hf P)
        simp only [okE, okF, Bool.or_eq_true] at h1 ⊢
        rcases h1 with (h | h) | h
        · exact .inl (.inl h)
        · exact .inr h
        · exact h
    · cases h2
  | .callv v es, cc, c, X, O, m, x, h => by
    rw [chk.eq_def] at h; dsimp only at h
    obtain ⟨h1, h2⟩ := and2 h
    refine oE h1 (fun n ρ => by simp only [evT]) ?_
    split at h2
    · obtain ⟨h3, h4, h5⟩ := and3 h2
      obtain ⟨v1, v2, v3⟩ := visB_vis h4
      obtain ⟨st, ln⟩ := stars_of h5
      exact s_callv O.fns O.tk (nmB_at O h3) v1 v2 v3 st (okA es O _ h5)
    · cases h2
  | .clo i es, cc, c, X, O, m, x, h => by
    rw [chk.eq_def] at h; dsimp only at h
    obtain ⟨h1, h2⟩ := and2 h
    refine oE h1 (fun n ρ => by simp only [evT]) ?_
    split at h2
    · obtain ⟨h3, h4, h5⟩ := and3 h2
      obtain ⟨st, ln⟩ := stars_of h5
      exact O.clo _ _ (of_decide_eq_true h3) c.Wx X.pn X.xe _ _ es _ O.tk st (of_decide_eq_true h4) (okA es O _ h5)
    · cases h2
  | .lam g es is mb, cc, c, X, O, m, x, h => by
    rw [chk.eq_def] at h; dsimp only at h
    simp only [Bool.and_eq_true] at h
    obtain ⟨⟨⟨⟨h1, hl⟩, hg⟩, hf⟩, h2⟩ := h
    refine oE h1 (fun n ρ => by simp only [evT]) ?_
    have hfr : c.W.fresh g = false := by rw [O.fresh]; simpa using hf
    obtain ⟨LP, GL, _⟩ := O.lam hl
    split at h2
    · simp only [Bool.and_eq_true, List.isEmpty_iff] at h2
      obtain ⟨⟨⟨⟨rfl, h3⟩, h4⟩, h5⟩, h6⟩ := h2
      obtain ⟨g1, g2⟩ := glB_gl h3
      obtain ⟨q1, q2⟩ := O.gf _ _ (of_decide_eq_true h4)
      obtain ⟨as, l1, l2, l3, l4, l5, l6⟩ := lam_dflt (env := X.env) h5
      exact s_lam0 (GL g (List.contains_iff_mem.mp hg)) LP O.tk hfr O.nd ⟨lamSc_by l1, l4, l6 _, l2, l3, fun j n y e1 e2 => nmB_at O (l5 j n y e1 e2), fun n E A outer t H f c' hr => (okX mb (O.inLam hl n E A outer t H f c' hr) 0 _ h6).1 rfl⟩ g1 q1 g2
    · simp only [Bool.and_eq_true] at h2
      obtain ⟨⟨⟨⟨⟨h0, h3⟩, h4⟩, h5⟩, h6⟩, h7⟩ := h2
      obtain ⟨g1, g2⟩ := glB_gl h3
      obtain ⟨q1, q2⟩ := O.gf _ _ (of_decide_eq_true h4)
      obtain ⟨as, l1, l2, l3, l4, l5, l6⟩ := lam_dflt (env := X.env) h5
      obtain ⟨st, ln⟩ := stars_of h6
      match es, ln, h6 with
      | [e], _, h6 =>
        rw [chkA.eq_def] at h6; dsimp only at h6
        obtain ⟨h10, h11, _⟩ := and3 h6
        exact s_lam1 (GL g (List.contains_iff_mem.mp hg)) LP O.tk hfr O.nd ⟨lamSc_by l1, l4, l6 _, l2, l3, fun j n y e1 e2 => nmB_at O (l5 j n y e1 e2), fun n E A outer t H f c' hr => (okX mb (O.inLam hl n E A outer t H f c' hr) 0 _ h7).1 rfl⟩ g1 q1 g2 h10 ((okX e O 0 _ h11).1 rfl)
    · cases h2
  | .meth g o es, cc, c, X, O, m, x, h => by
    rw [chk.eq_def] at h; dsimp only at h
    obtain ⟨h1, h0, h2⟩ := and3 h
    refine oE h1 (fun n ρ => by simp only [evT]) ?_
    split at h2
    · simp only [Bool.and_eq_true] at h2
      obtain ⟨⟨⟨⟨⟨⟨h3, h4⟩, h5⟩, h6⟩, h7⟩, h8⟩, h9⟩ := h2
      obtain ⟨q1, q2, q3⟩ := O.ms _ _ (of_decide_eq_true h3)
      obtain ⟨st, ln⟩ := stars_of h9
      have hf : c.W.fresh g = false := by rw [O.fresh]; simpa using h0
      exact s_meth O.fns O.tbl O.tk q1 q2 q3 hf ((okX o O 0 _ h8).1 rfl) st (of_decide_eq_true h6) (okA es O _ h9) (meth_ev h4 st (of_decide_eq_true h7) h5)
    · cases h2
  | .get a j z, cc, c, X, O, m, x, h => by
    rw [chk.eq_def] at h; dsimp only at h
    obtain ⟨h1, h2⟩ := and2 h
    refine oE h1 (fun n ρ => by simp only [evT]) ?_
    split at h2
    · simp only [Bool.and_eq_true] at h2
      obtain ⟨⟨⟨⟨⟨⟨⟨h3, h4⟩, h5⟩, h6⟩, h7⟩, h8⟩, h9⟩, h10⟩ := h2
      rw [of_decide_eq_true h3]
      exact s_get O.hu ((okX a O 0 _ h8).1 rfl) ((okX j O 0 _ h9).1 rfl) ((okX z O 0 _ h10).1 rfl) h4 h5 h6 h7
    · cases h2
  | .bi b es, cc, c, X, O, m, x, h => by
    rw [chk.eq_def] at h; dsimp only at h
    obtain ⟨h1, h2⟩ := and2 h
    split at h2
    · simp only [Bool.and_eq_true] at h2
      obtain ⟨⟨⟨⟨⟨h3, h4⟩, h5⟩, h6⟩, h7⟩, h8⟩ := h2
      have e1 := of_decide_eq_true h4
      subst e1
      rw [of_decide_eq_true h5]
      obtain ⟨st, ln⟩ := stars_of h8
      match es, ln, h8 with
      | [a], _, h8 =>
        rw [chkA.eq_def] at h8; dsimp only at h8
        obtain ⟨h9, h10, _⟩ := and3 h8
        exact oE h3 (fun n ρ => by simp only [evT]) (s_bits ((okX a O 0 _ h10).1 rfl) h6 h7)
    · split at h2
      · rename_i hy
        subst hy
        simp only [Bool.and_eq_true] at h2
        obtain ⟨⟨⟨⟨⟨⟨h3, h4⟩, h5⟩, h6⟩, h7⟩, h8⟩, h9⟩ := h2
        obtain ⟨g1, g2⟩ := glB_gl h4
        obtain ⟨g3, g4⟩ := glB_gl h6
        obtain ⟨st, ln⟩ := stars_of h9
        match es, ln, h9 with
        | [a], _, h9 =>
          rw [chkA.eq_def] at h9; dsimp only at h9
          obtain ⟨h10, h11, _⟩ := and3 h9
          exact oE h3 (fun n ρ => by simp only [evT]) (isi_run (of_decide_eq_true h8) g1 (O.nob _ (List.contains_iff_mem.mp h5)) g3 (O.nob _ (List.contains_iff_mem.mp h7)) g4 h10 ((okX a O 0 _ h11).1 rfl))
      · simp only [Bool.and_eq_true] at h2
        obtain ⟨⟨⟨h3, h4⟩, h5⟩, h6⟩ := h2
        obtain ⟨g1, g2⟩ := glB_gl h4
        obtain ⟨st, ln⟩ := stars_of h6
        exact oF h1 (fun n ρ => by simp only [evT]) (bi_run O.calm (of_decide_eq_true h3) g1 (O.nob _ (List.contains_iff_mem.mp h5)) g2 st (okA es O _ h6))
    · simp only [Bool.and_eq_true] at h2
      obtain ⟨⟨⟨h3, h4⟩, h5⟩, h6⟩ := h2
      obtain ⟨g1, g2⟩ := glB_gl h4
      obtain ⟨st, ln⟩ := stars_of h6
      exact oF h1 (fun n ρ => by simp only [evT]) (bi_run O.calm (of_decide_eq_true h3) g1 (O.nob _ (List.contains_iff_mem.mp h5)) g2 st (okA es O _ h6))
    · cases h2
  | .mk es, cc, c, X, O, m, x, h => by
    rw [chk.eq_def] at h; dsimp only at h
    obtain ⟨h1, h2⟩ := and2 h
    refine oE h1 (fun n ρ => by simp only [evT]) ?_
    split at h2
    · obtain ⟨h3, h4, h5⟩ := and3 h2
      obtain ⟨g1, g2⟩ := glB_gl h4
      obtain ⟨st, ln⟩ := stars_of h5
      have e := of_decide_eq_true h3
      subst e
      exact s_mk O.mkk O.tk g1 O.tn g2 st (okA es O _ h5)
    · cases h2
theorem okA : ∀ (es : List ME) {cc : CC} {c : Cf} {X : Cx} (O : Ok cc c X k) (xs : List Expr), chkA cc X.env.scope es xs = true → PA X xs (tA c X.K es)
  | [], cc, c, X, O, xs, h => by
    cases xs with
    | nil => exact a_nil
    | cons _ _ => rw [chkA.eq_def] at h; cases h
  | e :: es, cc, c, X, O, xs, h => by
    cases xs with
    | nil => rw [chkA.eq_def] at h; cases h
    | cons x xs =>
      rw [chkA.eq_def] at h; dsimp only at h
      obtain ⟨h1, h2, h3⟩ := and3 h
      exact a_cons h1 ((okX e O 0 _ h2).1 rfl) (okA es O _ h3)
theorem okO : ∀ (e : Option ME) {cc : CC} {c : Cf} {X : Cx} (O : Ok cc c X k) (x : Option Expr), chkO cc X.env.scope e x = true → PO X x (tO c X.K e)
  | none, cc, c, X, O, x, h => by
    cases x with
    | none => exact o_none
    | some _ => rw [chkO.eq_def] at h; cases h
  | some e, cc, c, X, O, x, h => by
    cases x with
    | none => rw [chkO.eq_def] at h; cases h
    | some x =>
      rw [chkO.eq_def] at h; dsimp only at h
      exact o_some ((okX e O 0 _ h).1 rfl)
theorem okCs : ∀ (cs : List ME) {cc : CC} {c : Cf} {X : Cx} (O : Ok cc c X k) (xs : List Expr), chkCs cc X.env.scope cs xs = true → PTs X xs (tC c X.K cs)
  | [], cc, c, X, O, xs, h => by
    cases xs with
    | nil => exact c_nil
    | cons _ _ => rw [chkCs.eq_def] at h; cases h
  | [e], cc, c, X, O, xs, h => by
    cases xs with
    | nil => rw [chkCs.eq_def] at h; cases h
    | cons x xs =>
      cases xs with
      | nil =>
        rw [chkCs.eq_def] at h; dsimp only at h
        exact c_one ((okX e O 2 _ h).2.2 rfl)
      | cons _ _ => rw [chkCs.eq_def] at h; cases h
  | _ :: _ :: _, cc, c, X, O, xs, h => by rw [chkCs.eq_def] at h; cases h
theorem okI : ∀ (es : List ME) {cc : CC} {c : Cf} {X : Cx} (O : Ok cc c X k) (w : IK) (tg x : Expr), chkI cc X.env.scope es w tg x = true → PI X tg x (tI c X.K w es)
  | [], cc, c, X, O, w, tg, x, h => by rw [chkI.eq_def] at h; cases h
  | [e], cc, c, X, O, w, tg, x, h => by
    rw [chkI.eq_def] at h
    split at h
    · rename_i e1
      cases e1
      exact i_seq ((okX e O 0 _ h).1 rfl)
    · rename_i e1
      cases e1
      simp only [Bool.and_eq_true] at h
      obtain ⟨⟨⟨⟨h1, h2⟩, h3⟩, h4⟩, h5⟩ := h
      rw [of_decide_eq_true h1] at h2 h3 ⊢
      obtain ⟨g1, g2⟩ := glB_gl h2
      exact i_rng1 g1 (O.nob _ (List.contains_iff_mem.mp h3)) h4 (a_cons h4 ((okX e O 0 _ h5).1 rfl) a_nil)
    · rename_i e1; cases e1
    · rename_i e1
      cases e1
      simp only [Bool.and_eq_true] at h
      obtain ⟨⟨⟨⟨⟨h0, h1⟩, h2⟩, h3⟩, h4⟩, h5⟩ := h
      rw [of_decide_eq_true h1] at h2 h3 ⊢
      obtain ⟨g1, g2⟩ := glB_gl h2
      obtain ⟨te, tk, tp, rfl⟩ := isTup_of h0
      exact i_enum g1 (O.nob _ (List.contains_iff_mem.mp h3)) h4 (a_cons h4 ((okX e O 0 _ h5).1 rfl) a_nil)
    · rename_i e1; cases e1
    · cases h
  | [e, e'], cc, c, X, O, w, tg, x, h => by
    rw [chkI.eq_def] at h
    split at h
    · rename_i e1; cases e1
    · rename_i e1; cases e1
    · rename_i e1
      cases e1
      simp only [Bool.and_eq_true] at h
      obtain ⟨⟨⟨⟨⟨⟨h1, h2⟩, h3⟩, h4⟩, h4'⟩, h5⟩, h6⟩ := h
      rw [of_decide_eq_true h1] at h2 h3 ⊢
      obtain ⟨g1, g2⟩ := glB_gl h2
      exact i_rng2 g1 (O.nob _ (List.contains_iff_mem.mp h3)) h4 h4' (a_cons h4 ((okX e O 0 _ h5).1 rfl) (a_cons h4' ((okX e' O 0 _ h6).1 rfl) a_nil))
    · rename_i e1; cases e1
    · rename_i e1
      cases e1
      simp only [Bool.and_eq_true] at h
      obtain ⟨⟨⟨⟨⟨⟨⟨h0, h1⟩, h2⟩, h3⟩, h4⟩, h4'⟩, h5⟩, h6⟩ := h
      rw [of_decide_eq_true h1] at h2 h3 ⊢
      obtain ⟨g1, g2⟩ := glB_gl h2
      obtain ⟨te, tk, tp, rfl⟩ := isTup_of h0
      exact i_zip g1 (O.nob _ (List.contains_iff_mem.mp h3)) h4 h4' (a_cons h4 ((okX e O 0 _ h5).1 rfl) (a_cons h4' ((okX e' O 0 _ h6).1 rfl) a_nil))
    · cases h
  | _ :: _ :: _ :: _, cc, c, X, O, w, tg, x, h => by rw [chkI.eq_def] at h; cases h
end
end
end Fw
end
section
set_option Elab.async false
set_option linter.all false
set_option maxRecDepth 100000
set_option maxHeartbeats 4000000
/-! Fw.Check: statements -/
namespace Fw
open PySem PySem.Spec PyProof.Rows L2 LamX
/-- name = [..] | {..} on one line: the store stands within the comprehension's frame -/
def swapB (sc : Scope) (y : PySem.Str) (py : Pos) (s : Scope) (p : Pos) : Bool :=
  decide (sc.names.lookup y = some .local) && (py.line == p.line) && !(s.names.any fun (n, k) => n == y && (k == .local || k == .cell))
def swapX (sc : Scope) (y : PySem.Str) (py : Pos) : Expr → Bool
  | .ListComp _ _ s p => swapB sc y py s p
  | .SetComp _ _ s p => swapB sc y py s p
  | .DictComp _ _ _ s p => swapB sc y py s p
  | _ => false
def unnew : ME → ME
  | .newr e => e
  | e => e
def isCmp : ME → Bool
  | .comp _ _ _ _ _ => true
  | .dcomp _ _ _ _ _ _ => true
  | _ => false
def locSame (sc : Scope) (l : Nat) : Expr → Bool
  | .Name x p => decide (sc.names.lookup x = some .local) && (p.line == l)
  | _ => false
def isName : Expr → Bool
  | .Name _ _ => true
  | _ => false
def isTupX : Expr → Bool
  | .Tuple _ _ _ => true
  | _ => false
def lenX : Expr → Nat
  | .Tuple xs _ _ => xs.length
  | _ => 0
/-- several targets, whose stores do not change places -/
def noSwap (tg x : Expr) : Bool := noStar tg && noComp x && (!isTupX x || (match tg, x with
  | .Tuple ts _ _, .Tuple vs _ _ => (ts.length != 2 && ts.length != 3) || vs.length != ts.length || vs.all (foldedForSure 8)
  | _, _ => false))
def hdsB (cc : CC) (sc : Scope) : List (Nat × HB) → List ExceptHandler → Bool
  | [], xs => xs.isEmpty
  | (k, b) :: hs, xs => (match b, xs with
    | .str t, .ExceptHandler (some (.Name n _)) none [.Return (some (.Constant (.str t') _ _)) _] _ :: xs => decide (t = t') && glB sc n && decide (cc.ex.lookup n = some k) && hdsB cc sc hs xs
    | _, _ => false)
def augB : BO → Bool
  | .add | .sub | .or => true
  | _ => false
def isNever : MS → Bool
  | .never => true
  | _ => false
mutual
def chkS (cc : CC) (fr : Bool) (sc : Scope) : MS → Stmt → Bool
  | .asg t e, st => (match t with
    | .nm i => (match st with
      | .Assign [.Name y py] x _ => nmB cc i y && locB sc y && (if swapX sc y py x then isCmp (unnew e) && chk cc sc (unnew e) 1 x else chk cc sc e 0 x)
      | _ => false)
    | .tp ts => (match st with
      | .Assign [tg] x _ => (noSwap tg x && chkTg cc sc (.tp ts) tg && chk cc sc e 0 x) || (match ts, e, tg, x with
        | [.nm i, .nm j], .tup [a, b], .Tuple [.Name x px, .Name y py] _ _, .Tuple [u, v] _ _ => nmB cc i x && nmB cc j y && !(i == j) && locSame sc px.line (.Name x px) && locSame sc px.line (.Name y py) &&
          chkA cc sc [a, b] [u, v] && !(foldedForSure 8 u && foldedForSure 8 v) && !(constantsAlone 8 u && constantsAlone 8 v)
        | [.nm i, .nm j, .nm l], .tup [a, b, d], .Tuple [.Name x px, .Name y py, .Name z pz] _ _, .Tuple [u, v, w] _ _ => nmB cc i x && nmB cc j y && nmB cc l z && !(i == j) && !(i == l) && !(j == l) && locSame sc px.line (.Name x px) && locSame sc px.line (.Name y py) && locSame sc px.line (.Name z pz) &&
          chkA cc sc [a, b, d] [u, v, w] && !(foldedForSure 8 u && foldedForSure 8 v && foldedForSure 8 w) && !(constantsAlone 8 u && constantsAlone 8 v && constantsAlone 8 w)
        | _, _, _, _ => false)
      | _ => false))
  | .asgs _ _, _ => false
  | .upd _ _, _ => false
  | .aug i o e, st => (match st with
    | .AugAssign (.Name y _) p x _ => augB o && boB o p && nmB cc i y && locB sc y && chk cc sc e 0 x
    | _ => false)
  | .seti o i e, st => (match st with
    | .Assign [.Subscript x y _] z _ => noSlice y && chk cc sc o 0 x && chk cc sc i 0 y && chk cc sc e 0 z
    | _ => false)
  | .app o e, st => (match st with
    | .Expr (.Call (.Attribute x n apos) [y] [] p2) _ => decide (n = "append") && noCall x && noStar y && (apos.endLine == p2.line) && chk cc sc o 0 x && chk cc sc e 0 y
    | _ => false)
  | .expr e, st => (match st with
    | .Expr x _ => noComp x && chk cc sc e 0 x
    | _ => false)
  | .retn e, st => (match st with
    | .Return (some x) _ => chk cc sc e (if fr then 1 else 0) x
    | _ => false)
  | .raise k, st => (match st with
    | .Raise (some (.Call (.Name x _) [.Constant (.str _) _ _] [] _)) none _ => glB sc x && decide (cc.ex.lookup x = some k)
    | _ => false)
  | .ifs k as bs, st => (match st with
    | .If x ys zs _ => chk cc sc k 2 x && chkSs cc fr sc as ys && chkSs cc fr sc bs zs
    | _ => false)
  | .for t w es body, st => (match st with
    | .For tg it b [] _ => chkI cc sc es w tg it && noSetD it && chkTg cc sc t tg && chkSs cc fr sc body b
    | _ => false)
  | .while _ k body, st => (match st with
    | .While x b [] _ => chk cc sc k 2 x && chkSs cc fr sc body b
    | _ => false)
  | .brk, st => (match st with
    | .Break _ => true
    | _ => false)
  | .pass, st => (match st with
    | .Pass _ => true
    | _ => false)
  | .never, _ => true
  | .try body hs, st => (match st with
    | .Try b (h0 :: hds) [] [] _ => !fr && hdsB cc sc hs (h0 :: hds) && chkSs cc fr sc body b
    | _ => false)
def chkSs (cc : CC) (fr : Bool) (sc : Scope) : List MS → List Stmt → Bool
  | [], xs => xs.isEmpty
  | s :: ss, xs => (ss.isEmpty && isNever s) || (match xs with
    | x :: xs => chkS cc fr sc s x && chkSs cc fr sc ss xs
    | [] => false)
end
/-- a body, whose docstring is left out -/
def chkD (cc : CC) (fr : Bool) (sc : Scope) (ss : List MS) : List Stmt → Bool
  | .Expr (.Constant (.str _) _ _) _ :: xs => chkSs cc fr sc ss xs
  | xs => chkSs cc fr sc ss xs
end Fw
end
section
set_option Elab.async false
set_option linter.all false
set_option maxRecDepth 100000
set_option maxHeartbeats 4000000
/-! Fw.Check: statements, by their texts -/
namespace Fw
open PySem PySem.Spec PyProof.Rows L2 LamX
/-- .. and statements may stand here -/
structure OkS (cc : CC) (c : Cf) (X : Cx) (k : Nat) : Prop extends Ok cc c X k where
  own : PassesOwn (model X.prog X.w) X.A X.env X.xe
  kind : X.env.scope.kind = .function
  fn : ∀ y, X.fn y = true
  ex : ∀ y j, cc.ex.lookup y = some j → j < 5 ∧ ∃ bmB B newId initId, ExcBaseFacts B newId initId bmB ∧ PySem.W.excIn X.K (c.W.cls j) bmB newId = true ∧ X.mg y = some (.ref (c.W.cls j)) ∧ PySem.W.keepIn X.K (.ref (c.W.cls j)) = true ∧ L2.Raises X (.ref (c.W.cls j))
  stk : X.stack = X.env :: X.outer
  frm : X.env.frame = some X.env.locals
  cb : ClsBelow c.W X.K
section
variable {X : Cx} {c : Cf} {cc : CC} {k : Nat} {pos : Pos}
theorem OkS.tr {W : WX} {pn : List (Addr × Obj)} {xe : Value → Shared → Prop} (O : OkS cc c X k) (tk : L2.Takes (X.tr pn xe) W) (hp : PassesOwn (model X.prog X.w) X.A X.env xe) : OkS cc { c with Wx := W } (X.tr pn xe) k :=
  { hu := O.hu, calm := O.calm, N := O.N, nd := O.nd, fns := ⟨O.fns.run, O.fns.keep, O.fns.binds, O.fns.gone, O.fns.len⟩, tk := tk, tbl := O.tbl, mkk := ⟨O.mkk.made, O.mkk.run⟩, gf := O.gf, gc := O.gc, tn := O.tn, ms := O.ms, nob := O.nob, fresh := O.fresh,
    clo := fun a i h => (O.clo a i h).tr, lam := fun h => ⟨⟨(O.lam h).1.at_⟩, fun g hg => ⟨((O.lam h).2.1 g hg).run⟩, (O.lam h).2.2⟩, own := hp, kind := O.kind, fn := O.fn, ex := O.ex, stk := O.stk, frm := O.frm, cb := O.cb }
theorem swapX_no {y : PySem.Str} {py : Pos} {x : Expr} {l : Nat} (hk : X.env.scope.kind = .function) (h : swapX X.env.scope y py x = false) : swapsWith x (some (.Name y py)) l X.env = pure false := by
  have hb : X.env.blockKind = .function := by unfold Env.blockKind; rw [hk]; rfl
  have go : ∀ {s : Scope} {p : Pos}, swapB X.env.scope y py s p = false → (X.env.blockKind == .function && X.env.kindOf y == some .local && py.line == p.line && !(s.names.any fun (n, k) => n == y && (k == .local || k == .cell))) = false := fun {s p} h => by
    unfold swapB at h
    rw [hb]
    cases e1 : (X.env.kindOf y == some NameKind.local) with
    | false => simp
    | true =>
      have e2 : X.env.scope.names.lookup y = some .local := by
        have : X.env.kindOf y = some .local := by simpa using e1
        exact this
      rw [e2] at h
      simp only [decide_true, Bool.true_and] at h
      simpa using h
  cases x <;> first
    | rfl
    | (simp only [swapX] at h
       have := go h
       unfold swapsWith
       simp only [Expr.pos]
       show (pure _ : Sem Bool) = pure false
       rw [this])
theorem swapB_yes {y : PySem.Str} {py p : Pos} {s : Scope} (h : swapB X.env.scope y py s p = true) : X.env.scope.names.lookup y = some .local ∧ (py.line == p.line) = true ∧ (s.names.any fun (n, k) => n == y && (k == .local || k == .cell)) = false := by
  unfold swapB at h
  simp only [Bool.and_eq_true, decide_eq_true_eq, Bool.not_eq_true'] at h
  exact ⟨h.1.1, h.1.2, h.2⟩
theorem sw_trueD {kx vx : Expr} {gs : List Comprehension} {scope : Scope} {p py : Pos} {y : PySem.Str} {l : Nat} {env : PySem.Env} (hk : env.scope.kind = .function) (hy : env.scope.names.lookup y = some .local) (hl : (py.line == p.line) = true)
    (ha : (scope.names.any fun (n, k) => n == y && (k == .local || k == .cell)) = false) : swapsWith (.DictComp kx vx gs scope p) (some (.Name y py)) l env = pure true := by
  have ky : env.kindOf y = some .local := hy
  have hb : env.blockKind = .function := by unfold Env.blockKind; rw [hk]; rfl
  unfold swapsWith
  simp only [hb, ky, ha, Expr.pos, hl]
  rfl
theorem unnew_w {e : ME} {K : PySem.W.Frag} : ∀ σ H Q, tE c K e σ H Q → tF c K (unnew e) σ H Q := by
  cases e with
  | newr e => exact newr_w
  | _ => exact toF_w
theorem unstar {vs : List Expr} (h : noStarsB vs = true) : (vs.any fun | .Starred .. => true | _ => false) = false := by
  induction vs with
  | nil => rfl
  | cons v vs ih =>
    simp only [noStarsB, List.all_cons, Bool.and_eq_true] at h
    rw [List.any_cons, ih h.2]
    cases v <;> first | rfl | (simp [noStar] at h)
theorem swapped_no {tg x : Expr} (hk : X.env.scope.kind = .function) (h : noSwap tg x = true) : swappedStores [tg] x X.env = pure none := by
  have hb : (X.env.blockKind != .function) = false := by unfold Env.blockKind; rw [hk]; rfl
  unfold noSwap at h
  simp only [Bool.and_eq_true, Bool.or_eq_true] at h
  obtain ⟨⟨h0, h1⟩, h⟩ := h
  by_cases hx : isTupX x = true
  · cases x with
    | Tuple vs k2 p2 =>
      rcases h with h | h
      · simp [isTupX] at h
      · cases tg with
        | Tuple ts kt pt =>
          simp only [Bool.or_eq_true, Bool.and_eq_true] at h
          unfold swappedStores
          simp only [pure_bind, hb, Bool.or_false]
          by_cases c1 : (!(ts.length == 2 || ts.length == 3) || vs.length != ts.length) = true
          · rw [c1]; rfl
          · have c1' : (!(ts.length == 2 || ts.length == 3) || vs.length != ts.length) = false := by simpa using c1
            have c2 : (vs.all (foldedForSure 8)) = true := by
              rcases h with (h | h) | h
              · exfalso
                simp only [bne_iff_ne, ne_eq] at h
                simp only [Bool.or_eq_false_iff, Bool.not_eq_false', Bool.or_eq_true, beq_iff_eq] at c1'
                rcases c1'.1 with z | z
                · exact h.1 z
                · exact h.2 z
              · exfalso
                simp only [Bool.or_eq_false_iff] at c1'
                rw [c1'.2] at h; cases h
              · exact h
            rw [c1']
            simp only [Bool.false_eq_true, if_false]
            split
            · rfl
            · split
              · rfl
              · first | rfl | (rw [if_pos c2]; done) | rw [if_pos c2]
        | _ => simp at h
    | _ => simp [isTupX] at hx
  · cases x <;> first
      | (cases tg <;> rfl)
      | (simp [isTupX] at hx)
end
end Fw
end
section
set_option Elab.async false
set_option linter.all false
set_option maxRecDepth 100000
set_option maxHeartbeats 4000000
/-! Fw.Check: statements, by their texts -/
namespace Fw
open PySem PySem.Spec PyProof.Rows L2 LamX
section
variable {X : Cx} {c : Cf} {cc : CC} {k : Nat} {pos : Pos}
theorem s_asgC {i : Nat} {e : ME} {y : PySem.Str} {x : Expr} {py : Pos} (O : OkS cc c X k) (hi : X.N[i]? = some y) (hs : swapX X.env.scope y py x = true) (hc : isCmp (unnew e) = true) (h : chk cc X.env.scope (unnew e) 1 x = true) : PS X (.Assign [.Name y py] x pos) (tS c X.K (.asg (.nm i) e)) := by
  have hN := O.N
  have hu := O.hu
  cases hq : unnew e with
  | comp t w es cs el =>
    rw [hq] at h
    rw [chk.eq_def] at h; dsimp only at h
    obtain ⟨h1, h2⟩ := and2 h
    split at h2
    · rename_i elt tg it ifs scope p
      simp only [Bool.and_eq_true] at h2
      obtain ⟨⟨⟨⟨⟨h3, h4⟩, h5⟩, h6⟩, h7⟩, h8⟩ := h2
      obtain ⟨y1, y2, y3⟩ := swapB_yes hs
      refine s_asgLc (ps_setLc (g := tG c.inn X.K t) (tt := tC c.inn X.K cs) (te := tE c.inn X.K el) (own := ownOf cc t.slots) O.calm O.nd hi y1 (sw_true O.kind y1 y2 y3) (okI es O.toOk w _ _ h3) (blkOk_by (by rw [hN]; exact h5)) (fun s H C cl fp => okTg (X := X.blk s H _ (compEnvC _ cl C X.env) fp) (c := c.inn) O.N O.nd O.calm (blk_tg s H _ C cl fp) t _ h6) (fun s H C cl fp => okCs cs (X := X.blk s H _ (compEnvC _ cl C X.env) fp) (O.toOk.blk s H _ (compEnvC _ cl C X.env) fp) _ h7) (fun s H C cl fp => (okX el (X := X.blk s H _ (compEnvC _ cl C X.env) fp) (O.toOk.blk s H _ (compEnvC _ cl C X.env) fp) 0 _ h8).1 rfl) (folded_of h4)) fun σ H Q q => ?_
      have q := unnew_w σ H Q q
      rw [hq] at q
      rw [own_snd]
      exact s_lcF σ H Q q
    · cases h2
  | dcomp d t w es a b =>
    rw [hq] at h
    rw [chk.eq_def] at h; dsimp only at h
    obtain ⟨h1, h2⟩ := and2 h
    split at h2
    · rename_i kx vx tg it scope p
      simp only [Bool.and_eq_true] at h2
      obtain ⟨⟨⟨⟨⟨h3, h4⟩, h5⟩, h6⟩, h7⟩, h8⟩ := h2
      obtain ⟨y1, y2, y3⟩ := swapB_yes hs
      refine s_asgLc (ps_setDg (g := tG c.inn X.K t) (tk := tE c.inn X.K a) (tv := tE c.inn X.K b) (own := ownOf cc t.slots) (o := if d then .dT [] else .dK []) (by omega) O.calm O.nd (by cases d <;> simp) hi y1 (sw_trueD O.kind y1 y2 y3) (okI es O.toOk w _ _ h3) (blkOk_by (by rw [hN]; exact h5)) (fun s H C cl fp => okTg (X := X.blk s H _ (compEnvC _ cl C X.env) fp) (c := c.inn) O.N O.nd O.calm (blk_tg s H _ C cl fp) t _ h6) (fun s H C cl fp => (okX a (X := X.blk s H _ (compEnvC _ cl C X.env) fp) (O.toOk.blk s H _ (compEnvC _ cl C X.env) fp) 0 _ h7).1 rfl) (fun s H C cl fp => (okX b (X := X.blk s H _ (compEnvC _ cl C X.env) fp) (O.toOk.blk s H _ (compEnvC _ cl C X.env) fp) 0 _ h8).1 rfl) h4) fun σ H Q q => ?_
      have q := unnew_w σ H Q q
      rw [hq] at q
      rw [own_snd]
      exact s_dcF rfl σ H Q q
    · cases h2
  | _ => rw [hq] at hc; simp [isCmp] at hc
theorem okHds (O : OkS cc c X k) : ∀ (hs : List (Nat × HB)) (xs : List ExceptHandler), hdsB cc X.env.scope hs xs = true → StrHds c X xs hs ∧ ∀ p ∈ hs, p.1 < 5
  | [], xs, h => by
    rw [hdsB.eq_def] at h
    dsimp only at h
    rw [List.isEmpty_iff] at h
    subst h
    exact ⟨.nil, fun p hp => absurd hp (by simp)⟩
  | (j, b) :: hs, xs, h => by
    rw [hdsB.eq_def] at h
    dsimp only at h
    split at h
    · rename_i t n np t' tk tp rp ep xs'
      simp only [Bool.and_eq_true, decide_eq_true_eq] at h
      obtain ⟨⟨⟨h1, h2⟩, h3⟩, h4⟩ := h
      subst h1
      obtain ⟨g1, g2⟩ := glB_gl h2
      obtain ⟨q0, _, _, _, _, _, _, q3, _⟩ := O.ex _ _ h3
      obtain ⟨ih1, ih2⟩ := okHds O hs _ h4
      refine ⟨.cons g1 g2 q3 ih1, fun p hp => ?_⟩
      rcases List.mem_cons.mp hp with e | e
      · subst e; exact q0
      · exact ih2 p e
    · cases h
theorem par2_sw {x y : PySem.Str} {px py pt : Pos} {kt k2 : Nat} {pt2 : Pos} {u v : Expr} (hk : X.env.scope.kind = .function) (kx : X.env.kindOf x = some .local) (ky : X.env.kindOf y = some .local) (hl : py.line = px.line) (hxy : x ≠ y) (hu : noStar u = true) (hv : noStar v = true)
    (hf : (foldedForSure 8 u && foldedForSure 8 v) = false) (hc : (constantsAlone 8 u && constantsAlone 8 v) = false) : swappedStores [.Tuple [.Name x px, .Name y py] kt pt] (.Tuple [u, v] k2 pt2) X.env = pure (some [x, y]) := by
  have hb : (X.env.blockKind != .function) = false := by unfold Env.blockKind; rw [hk]; rfl
  have hxy' : (x == y) = false := by simpa using hxy
  have hyx' : (y == x) = false := by simpa using fun e => hxy e.symm
  unfold swappedStores
  simp only [hb]
  simp [kx, ky, hl, List.eraseDups_cons, hxy', hyx', hf, hc, Expr.pos, List.filterMap_cons]
  intro hh
  rcases hh with hh | hh
  · cases u <;> first | (cases hu; done) | (cases hh; done)
  · cases v <;> first | (cases hv; done) | (cases hh; done)
theorem par3_sw {x y z : PySem.Str} {px py pz pt : Pos} {kt k2 : Nat} {pt2 : Pos} {u v w : Expr} (hk : X.env.scope.kind = .function) (kx : X.env.kindOf x = some .local) (ky : X.env.kindOf y = some .local) (kz : X.env.kindOf z = some .local) (hl : py.line = px.line) (hl2 : pz.line = px.line) (hxy : x ≠ y) (hxz : x ≠ z) (hyz : y ≠ z) (hu : noStar u = true) (hv : noStar v = true) (hw : noStar w = true)
    (hf : (foldedForSure 8 u && foldedForSure 8 v && foldedForSure 8 w) = false) (hc : (constantsAlone 8 u && constantsAlone 8 v && constantsAlone 8 w) = false) : swappedStores [.Tuple [.Name x px, .Name y py, .Name z pz] kt pt] (.Tuple [u, v, w] k2 pt2) X.env = pure (some [x, y, z]) := by
  have hb : (X.env.blockKind != .function) = false := by unfold Env.blockKind; rw [hk]; rfl
  have hxy' : (x == y) = false := by simpa using hxy
  have hyx' : (y == x) = false := by simpa using fun e => hxy e.symm
  have hxz' : (x == z) = false := by simpa using hxz
  have hzx' : (z == x) = false := by simpa using fun e => hxz e.symm
  have hyz' : (y == z) = false := by simpa using hyz
  have hzy' : (z == y) = false := by simpa using fun e => hyz e.symm
  have hf' : (foldedForSure 8 u && (foldedForSure 8 v && foldedForSure 8 w)) = false := by rw [← Bool.and_assoc]; exact hf
  have hc' : (constantsAlone 8 u && (constantsAlone 8 v && constantsAlone 8 w)) = false := by rw [← Bool.and_assoc]; exact hc
  unfold swappedStores
  simp only [hb]
  simp [kx, ky, kz, hl, hl2, List.eraseDups_cons, hxy', hyx', hxz', hzx', hyz', hzy', Expr.pos, List.filterMap_cons]
  rw [if_neg (by
    rintro (hh | hh | hh)
    · cases u <;> first | (cases hu; done) | (cases hh; done)
    · cases v <;> first | (cases hv; done) | (cases hh; done)
    · cases w <;> first | (cases hw; done) | (cases hh; done))]
  rw [if_neg (by simpa using hf'), if_neg (by simpa using hc')]
theorem same_loc {x : PySem.Str} {p : Pos} {l : Nat} (h : locSame X.env.scope l (.Name x p) = true) : X.env.scope.names.lookup x = some .local ∧ p.line = l := by
  simp only [locSame, Bool.and_eq_true, decide_eq_true_eq, beq_iff_eq] at h
  exact h
theorem names_ne {i j : Nat} {x y : PySem.Str} (hN : X.N.Nodup) (hi : X.N[i]? = some x) (hj : X.N[j]? = some y) (h : i ≠ j) : x ≠ y := fun z => by
  subst z
  obtain ⟨a1, b1⟩ := List.getElem?_eq_some_iff.mp hi
  obtain ⟨a2, b2⟩ := List.getElem?_eq_some_iff.mp hj
  exact h ((List.getElem_inj hN).mp (b1.trans b2.symm))
mutual
theorem okS : ∀ (s : MS) {cc : CC} {c : Cf} {X : Cx} (O : OkS cc c X k) (fr : Bool) (hfr : c.fr = fr) (x : Stmt), chkS cc fr X.env.scope s x = true → PS X x (tS c X.K s)
  | .asg (.nm i) e, cc, c, X, O, fr, hfr, x, h => by
    rw [chkS.eq_def] at h
    dsimp only at h
    split at h
    · rename_i y py x' pos'
      obtain ⟨h1, h2, h3⟩ := and3 h
      have hi := nmB_at O.toOk h1
      split at h3
      · rename_i hs
        obtain ⟨h4, h5⟩ := and2 h3
        exact s_asgC O hi hs h4 h5
      · rename_i hs
        exact s_asgN O.nd hi (locB_loc h2) (.inl (O.fn y)) ((okX e O.toOk 0 _ h3).1 rfl) (swapX_no O.kind (by simpa using hs))
    · cases h
  | .asg (.tp ts) e, cc, c, X, O, fr, hfr, x, h => by
    rw [chkS.eq_def] at h
    dsimp only at h
    split at h
    · rename_i tg x' pos'
      rw [Bool.or_eq_true] at h
      rcases h with h | h
      · obtain ⟨h1, h2, h3⟩ := and3 h
        have hsw := swapped_no (X := X) O.kind h1
        have h1' := h1
        unfold noSwap at h1'
        obtain ⟨hn1, hn2, _⟩ := and3 h1'
        refine s_asgT ((okX e O.toOk 0 _ h3).1 rfl) (okTg O.N O.nd O.calm (fun y hy => ⟨hy, .inl (O.fn y)⟩) _ _ h2) hn1 ?_ hsw
        show swapsWith x' (some tg) _ X.env = pure false
        exact swaps_no hn2 _
      · split at h
        · rename_i i j a b nx px ny py kt pt u v k2 pt2
          simp only [Bool.and_eq_true, Bool.not_eq_true', beq_eq_false_iff_ne, ne_eq] at h
          obtain ⟨⟨⟨⟨⟨⟨⟨h1, h2⟩, h3⟩, h4⟩, h5⟩, h6⟩, h7⟩, h8⟩ := h
          obtain ⟨l1, l2⟩ := same_loc h4
          obtain ⟨l3, l4⟩ := same_loc h5
          have hi := nmB_at O.toOk h1
          have hj := nmB_at O.toOk h2
          obtain ⟨st, _⟩ := stars_of h6
          simp only [noStarsB, List.all_cons, Bool.and_eq_true] at st
          refine s_par O.calm O.nd hi hj h3 l1 l3 (okA [a, b] O.toOk _ h6) (par2_sw O.kind l1 l3 l4 (names_ne O.nd hi hj h3) st.1 st.2.1 ?_ ?_)
          · exact h7
          · exact h8
        · rename_i i j l a b d nx px ny py nz pz kt pt u v w k2 pt2
          simp only [Bool.and_eq_true, Bool.not_eq_true', beq_eq_false_iff_ne, ne_eq] at h
          obtain ⟨⟨⟨⟨⟨⟨⟨⟨⟨⟨⟨h1, h2⟩, h2b⟩, h3⟩, h3b⟩, h3c⟩, h4⟩, h5⟩, h5b⟩, h6⟩, h7⟩, h8⟩ := h
          obtain ⟨l1, l2⟩ := same_loc h4
          obtain ⟨l3, l4⟩ := same_loc h5
          obtain ⟨l5, l6⟩ := same_loc h5b
          have hi := nmB_at O.toOk h1
          have hj := nmB_at O.toOk h2
          have hl := nmB_at O.toOk h2b
          obtain ⟨st, _⟩ := stars_of h6
          simp only [noStarsB, List.all_cons, Bool.and_eq_true] at st
          refine s_par3 O.calm O.nd hi hj hl h3 h3b h3c l1 l3 l5 (okA [a, b, d] O.toOk _ h6) (par3_sw O.kind l1 l3 l5 l4 l6 (names_ne O.nd hi hj h3) (names_ne O.nd hi hl h3b) (names_ne O.nd hj hl h3c) st.1 st.2.1 st.2.2.1 ?_ ?_)
          · exact h7
          · exact h8
        · cases h
    · cases h
  | .asgs _ _, cc, c, X, O, fr, hfr, x, h => by rw [chkS.eq_def] at h; cases x <;> cases h
  | .upd _ _, cc, c, X, O, fr, hfr, x, h => by rw [chkS.eq_def] at h; cases x <;> cases h
  | .aug i o e, cc, c, X, O, fr, hfr, x, h => by
    rw [chkS.eq_def] at h
    dsimp only at h
    split at h
    · simp only [Bool.and_eq_true] at h
      obtain ⟨⟨⟨⟨h1, h2⟩, h3⟩, h4⟩, h5⟩ := h
      rw [boB_eq h2]
      refine s_aug ?_ O.nd (nmB_at O.toOk h3) (locB_loc h4) (.inl (O.fn _)) ((okX e O.toOk 0 _ h5).1 rfl)
      cases o <;> first | (simp; done) | (simp [augB] at h1)
    · cases h
  | .seti o i e, cc, c, X, O, fr, hfr, x, h => by
    rw [chkS.eq_def] at h
    dsimp only at h
    split at h
    · simp only [Bool.and_eq_true] at h
      obtain ⟨⟨⟨h1, h2⟩, h3⟩, h4⟩ := h
      exact s_seti O.hu ((okX o O.toOk 0 _ h2).1 rfl) ((okX i O.toOk 0 _ h3).1 rfl) ((okX e O.toOk 0 _ h4).1 rfl) h1
    · cases h
  | .app o e, cc, c, X, O, fr, hfr, x, h => by
    rw [chkS.eq_def] at h
    dsimp only at h
    split at h
    · simp only [Bool.and_eq_true] at h
      obtain ⟨⟨⟨⟨⟨h1, h2⟩, h3⟩, h4⟩, h5⟩, h6⟩ := h
      rw [of_decide_eq_true h1]
      exact s_app ((okX o O.toOk 0 _ h5).1 rfl) ((okX e O.toOk 0 _ h6).1 rfl) h3 h2 h4
    · cases h
  | .expr e, cc, c, X, O, fr, hfr, x, h => by
    rw [chkS.eq_def] at h
    dsimp only at h
    split at h
    · obtain ⟨h1, h2⟩ := and2 h
      exact s_expr h1 ((okX e O.toOk 0 _ h2).1 rfl)
    · cases h
  | .retn e, cc, c, X, O, fr, hfr, x, h => by
    rw [chkS.eq_def] at h
    dsimp only at h
    split at h
    · cases fr with
      | false => exact s_retn hfr ((okX e O.toOk 0 _ h).1 rfl)
      | true => exact s_retnF hfr ((okX e O.toOk 1 _ h).2.1 rfl)
    · cases h
  | .raise j, cc, c, X, O, fr, hfr, x, h => by
    rw [chkS.eq_def] at h
    dsimp only at h
    split at h
    · obtain ⟨h1, h2⟩ := and2 h
      obtain ⟨g1, g2⟩ := glB_gl h1
      obtain ⟨q0, bmB, B, newId, initId, q1, q2, q3, q4, q5⟩ := O.ex _ _ (of_decide_eq_true h2)
      exact s_raise O.calm O.tk q1 q2 q3 q4 q5 g1 rfl g2
    · cases h
  | .ifs q as bs, cc, c, X, O, fr, hfr, x, h => by
    rw [chkS.eq_def] at h
    dsimp only at h
    split at h
    · obtain ⟨h1, h2, h3⟩ := and3 h
      exact s_ifs ((okX q O.toOk 2 _ h1).2.2 rfl) (okSs as O fr hfr _ h2) (okSs bs O fr hfr _ h3)
    · cases h
  | .for t w es body, cc, c, X, O, fr, hfr, x, h => by
    rw [chkS.eq_def] at h
    dsimp only at h
    split at h
    · simp only [Bool.and_eq_true] at h
      obtain ⟨⟨⟨h1, h2⟩, h3⟩, h4⟩ := h
      exact s_for O.own O.calm (okI es O.toOk w _ _ h1) (okTg O.N O.nd O.calm (fun y hy => ⟨hy, .inl (O.fn y)⟩) _ _ h3) (okSs body O fr hfr _ h4) h2
    · cases h
  | .while n q body, cc, c, X, O, fr, hfr, x, h => by
    rw [chkS.eq_def] at h
    dsimp only at h
    split at h
    · obtain ⟨h1, h2⟩ := and2 h
      exact s_while O.own ((okX q O.toOk 2 _ h1).2.2 rfl) (okSs body O fr hfr _ h2)
    · cases h
  | .brk, cc, c, X, O, fr, hfr, x, h => by
    rw [chkS.eq_def] at h
    dsimp only at h
    split at h
    · exact s_brk
    · cases h
  | .pass, cc, c, X, O, fr, hfr, x, h => by
    rw [chkS.eq_def] at h
    dsimp only at h
    split at h
    · exact s_pass
    · cases h
  | .never, cc, c, X, O, fr, hfr, x, h => s_never
  | .try body hs, cc, c, X, O, fr, hfr, x, h => by
    rw [chkS.eq_def] at h
    dsimp only at h
    split at h
    · obtain ⟨h1, h2, h3⟩ := and3 h
      have hf : c.fr = false := by rw [hfr]; simpa using h1
      obtain ⟨q1, q2⟩ := okHds O _ _ h2
      exact s_try O.stk O.frm O.tk O.cb hf q2 q1 fun W pn xe tk hp => okSs body (O.tr tk hp) fr hfr _ h3
    · cases h
theorem okSs : ∀ (s : List MS) {cc : CC} {c : Cf} {X : Cx} (O : OkS cc c X k) (fr : Bool) (hfr : c.fr = fr) (x : List Stmt), chkSs cc fr X.env.scope s x = true → PSs X x (tSs c X.K s)
  | [], cc, c, X, O, fr, hfr, x, h => by
    rw [chkSs.eq_def] at h
    dsimp only at h
    rw [List.isEmpty_iff] at h
    subst h
    exact ss_nil
  | s :: ss, cc, c, X, O, fr, hfr, x, h => by
    rw [chkSs.eq_def] at h
    dsimp only at h
    rw [Bool.or_eq_true] at h
    rcases h with h | h
    · obtain ⟨h1, h2⟩ := and2 h
      rw [List.isEmpty_iff] at h1
      subst h1
      cases s <;> simp only [isNever, Bool.false_eq_true] at h2
      refine ⟨fun pins s σ H D I h => ?_⟩
      obtain ⟨pv, m, Z, G, ρ, R, E, h⟩ := h
      simp only [exs, ex, bnd, stk] at h
      exact h.elim
    · split at h
      · obtain ⟨h1, h2⟩ := and2 h
        exact ss_cons (okS s O fr hfr _ h1) (okSs ss O fr hfr _ h2)
      · cases h
end
theorem okD (ss : List MS) (O : OkS cc c X k) (fr : Bool) (hfr : c.fr = fr) (x : List Stmt) (h : chkD cc fr X.env.scope ss x = true) : PSs X x (tSs c X.K ss) := by
  unfold chkD at h
  split at h
  · exact ss_doc (okSs ss O fr hfr _ h)
  · exact okSs ss O fr hfr _ h
end
end Fw
end
section
set_option Elab.async false
set_option linter.all false
set_option maxRecDepth 100000
set_option maxHeartbeats 4000000
/-! Fw.Level: every def runs as the mini-language says, by the depth of calls -/
namespace Fw
open PySem PySem.Spec PyProof.Rows L2 LamX
theorem fm_congr {α β : Type} {f g : α → Option β} : ∀ {l : List α}, (∀ x ∈ l, f x = g x) → l.filterMap f = l.filterMap g
  | [], _ => rfl
  | x :: l, h => by
    rw [List.filterMap_cons, List.filterMap_cons, h x List.mem_cons_self, fm_congr fun y hy => h y (List.mem_cons_of_mem _ hy)]
theorem zip_lookup {α β : Type} [BEq α] [LawfulBEq α] : ∀ {ps : List α} {us : List β}, ps.Nodup → us.length = ps.length → ps.filterMap (fun n => ((ps.zip us).lookup n).map (n, ·)) = ps.zip us
  | [], us, _, _ => by cases us <;> simp
  | p :: ps, [], _, h => by simp at h
  | p :: ps, u :: us, nd, h => by
    have nd' := List.nodup_cons.mp nd
    have ih := zip_lookup (ps := ps) (us := us) nd'.2 (by simpa using h)
    rw [List.filterMap_cons]
    simp only [List.zip_cons_cons, List.lookup_cons, beq_self_eq_true, Option.map_some]
    refine congrArg ((p, u) :: ·) ((fm_congr fun n hn => ?_).trans ih)
    have : (n == p) = false := by
      simp only [beq_eq_false_iff_ne, ne_eq]
      intro z; subst z; exact nd'.1 hn
    rw [this]
theorem lookup_isSome {α β : Type} [BEq α] [LawfulBEq α] : ∀ {ps : List α} {us : List β} {n : α}, us.length = ps.length → n ∈ ps → ((ps.zip us).lookup n).isSome = true
  | [], us, n, _, h => by cases h
  | p :: ps, [], n, h, _ => by simp at h
  | p :: ps, u :: us, n, h, hn => by
    simp only [List.zip_cons_cons, List.lookup_cons]
    cases e : n == p with
    | true => rfl
    | false =>
      refine lookup_isSome (by simpa using h) ?_
      rcases List.mem_cons.mp hn with z | z
      · subst z; simp at e
      · exact z
theorem bind_gen {name qual : PySem.Str} {body : List Stmt} {scope : Scope} {kV doc pm cdv ct : Value} {an : Option Addr} {as : List Arg} {us : List Value} (nd : (as.map (·.arg)).Nodup) (hl : us.length = as.length) :
    bindArgs (PySem.W.fnOf name qual ⟨[], as, none, [], [], none, []⟩ body scope .none kV doc pm an cdv ct) ⟨us, []⟩ = pure ((as.map (·.arg)).zip us) := by
  have hl' : us.length = (as.map (·.arg)).length := by simpa using hl
  have e1 := zip_lookup nd hl'
  have e2 : ((as.map (·.arg)).take as.length).filter (fun n => (((as.map (·.arg)).zip us).lookup n).isNone) = [] := by
    rw [List.filter_eq_nil_iff]
    intro n hn
    have := lookup_isSome (us := us) hl' (List.mem_of_mem_take hn)
    cases e : ((as.map (·.arg)).zip us).lookup n with
    | none => rw [e] at this; cases this
    | some v => simp
  have h0 : seqItems? Value.none = pure none := rfl
  unfold bindArgs
  rw [show (PySem.W.fnOf name qual ⟨[], as, none, [], [], none, []⟩ body scope .none kV doc pm an cdv ct).defaults = .none from rfl, h0]
  simp only [PySem.W.fnOf, List.map_nil, List.nil_append, List.append_nil, pure_bind, Option.getD_none, hl, List.length_map]
  simp only [List.filterMap_map] at e1
  simp [hl, e1, e2]

/-- a def of the text -/
structure DT where
  f : Nat
  d : He.DefD
  fd : FD
  N : List PySem.Str
  ps : List PySem.Str
  clo : Option (PySem.Str × Nat)
def argsB (ps : List PySem.Str) : Arguments → Bool
  | ⟨[], as, none, [], [], none, []⟩ => decide (as.map (·.arg) = ps)
  | _ => false
def scopeB (N ps : List PySem.Str) (sc : Scope) : Bool :=
  decide (sc.kind = .function) && !sc.isCoroutine && !sc.isGenerator && decide N.Nodup && decide (N.take ps.length = ps) && (ps.all fun x => decide (sc.names.lookup x = some .local) || decide (sc.names.lookup x = some .cell)) && sc.names.all fun y => !decide (y.2 = .free)
theorem scopeB_ok {N ps : List PySem.Str} {sc : Scope} (h : scopeB N ps sc = true) : FnScope N ps sc := by
  unfold scopeB at h
  simp only [Bool.and_eq_true, Bool.or_eq_true, Bool.not_eq_true', decide_eq_true_eq, decide_eq_false_iff_not, List.all_eq_true] at h
  obtain ⟨⟨⟨⟨⟨⟨h1, h2⟩, h3⟩, h4⟩, h5⟩, h6⟩, h7⟩ := h
  exact ⟨h1, h2, h3, h4, h5, h6, h7⟩
def cloB (t : DT) : Bool := match t.clo with
  | none => true
  | some (a, i) => decide (t.fd.np = i + 1) && decide (t.N[i]? = some a) && visB t.d.scope a && !t.fd.lam
abbrev CC.at (cc : CC) (t : DT) : CC := { cc with N := t.N, clo := t.clo, lam := t.fd.lam }
def DT.ok (cc : CC) (t : DT) : Bool :=
  argsB t.ps t.d.params && t.d.dfl.isEmpty && t.d.kwd.isEmpty && scopeB t.N t.ps t.d.scope && decide (t.fd.np = t.ps.length) && decide (t.fd.ns = t.N.length) && decide (t.fd.np ≤ t.fd.ns) && cloB t &&
    chkD (cc.at t) (cc.fresh.contains t.f) t.d.scope t.fd.body t.d.body
structure DT.Ok (cc : CC) (t : DT) : Prop where
  args : argsB t.ps t.d.params = true
  dfl : t.d.dfl = []
  kwd : t.d.kwd = []
  sc : FnScope t.N t.ps t.d.scope
  np : t.fd.np = t.ps.length
  ns : t.fd.ns = t.N.length
  le : t.fd.np ≤ t.fd.ns
  clo : cloB t = true
  body : chkD (cc.at t) (cc.fresh.contains t.f) t.d.scope t.fd.body t.d.body = true
theorem DT.ok_of {cc : CC} {t : DT} (h : t.ok cc = true) : t.Ok cc := by
  unfold DT.ok at h
  simp only [Bool.and_eq_true, decide_eq_true_eq, List.isEmpty_iff] at h
  obtain ⟨⟨⟨⟨⟨⟨⟨⟨h1, h2⟩, h3⟩, h4⟩, h5⟩, h6⟩, h7⟩, h8⟩, h9⟩ := h
  exact ⟨h1, h2, h3, scopeB_ok h4, h5, h6, h7, h8, h9⟩
theorem binds_of {K : PySem.W.Frag} {x qual : PySem.Str} {params : Arguments} {body : List Stmt} {scope : Scope} {kws : List (PySem.Str × V)} {f : Addr} {fd : FuncData} {ps : List PySem.Str} (F : FunD K x qual params body scope [] kws f fd) (h : argsB ps params = true) (nd : ps.Nodup) : Binds K fd ps [] :=
  F.bindsN fun kV doc pm an cdv ct us hl => by
    unfold argsB at h
    split at h
    · rename_i as
      have e := of_decide_eq_true h
      rw [← e] at hl nd ⊢
      exact bind_gen nd (by simpa using hl)
    · cases h
/-- what the text's top has left, by names -/
structure Base (W : Wd) (cc : CC) (ts : List DT) (P : Program) (w : World) (K : PySem.W.Frag) (mg : PySem.Str → Option Value) (base : Heap) : Prop where
  prg : ∀ t ∈ ts, W.prg t.f = some t.fd
  dom : ∀ f, (W.prg f).isSome = true → ∃ t ∈ ts, t.f = f
  fun_ : ∀ t ∈ ts, FunD K t.d.name t.d.qual t.d.params t.d.body t.d.scope [] [] (W.fA t.f) (W.fD t.f)
  ps : ∀ t ∈ ts, W.ps t.f = t.ps
  fresh : ∀ g, W.fresh g = cc.fresh.contains g
  ok : ∀ t ∈ ts, t.Ok cc
  tbl : TblOk W K
  made : L2.Mk K W.tC W.tI
  init : ∃ fd ps, FnOk P w K mg base (L2.CX P w) 2 W.tI fd ps (SpI W K) ∧ Binds K fd ps []
  gf : ∀ y g, cc.gf.lookup y = some g → mg y = some (.ref (W.fA g)) ∧ (W.prg g).isSome = true
  gc : ∀ y g d, cc.gc.lookup y = some (g, d) → ∃ v u, mg y = some u ∧ RelV v u ∧ ∀ G m, VRep W K G m d v
  tn : mg cc.tbl = some (.ref W.tC)
  ms : ∀ y g, cc.ms.lookup y = some g → Meth K W.tC y (W.fA g) ∧ (W.prg g).isSome = true ∧ y ∉ [sN, sRanks, sAll, sRank]
  nob : ∀ y, y ∈ cc.nob → mg y = none
  ex : ∀ y j, cc.ex.lookup y = some j → j < 5 ∧ ∃ bmB B newId initId, ExcBaseFacts B newId initId bmB ∧ PySem.W.excIn K (W.cls j) bmB newId = true ∧ mg y = some (.ref (W.cls j)) ∧ PySem.W.keepIn K (.ref (W.cls j)) = true ∧ PySem.W.subIn K (.ref (W.cls j)) (.type "BaseException") = some true ∧ PySem.W.typeIn K (.ref (W.cls j)) = some (.type "type")
  cb : ClsBelow W K
  lf : ∀ g ∈ cc.lf, cc.fresh.contains g = false ∧ ∃ t ∈ ts, t.f = g ∧ t.clo.isSome = true
  tabs : ∀ t ∈ ts, t.fd.lam = true → ∃ c T q, TabB base mg c T ∧ (W.fD t.f).code = .ref c ∧ (T, q) ∈ W.T ∧ (∀ p ∈ W.T, p.1 = T → p.2 = q) ∧ ∀ L f cd, (envOfC t.d.qual t.d.scope L f cd).qual ++ ("<lambda>" : PySem.Str) = q
section
variable {W : Wd} {cc : CC} {ts : List DT} {P : Program} {w : World} {K : PySem.W.Frag} {mg : PySem.Str → Option Value} {base : Heap}
theorem run_gone {p : Prg} {f : Nat} (h : p f = none) : ∀ (n : Nat) (ds : List D) (cl : Option (List D → M D)) (Z : Sto), run p n f ds cl Z = .stuck
  | 0, _, _, _ => by simp only [run]; rfl
  | 1, _, _, _ => by simp only [run, h]
  | 2, _, _, _ => by simp only [run, mkF, h]
  | n + 3, _, _, _ => by simp only [run, mkF, h]
theorem mkF_len {p : Prg} {F F2 : FT} {f : Nat} {fd : FD} {ds : List D} {cl : Option (List D → M D)} {Z : Sto} (hf : p f = some fd) (h : mkF p F F2 f ds cl Z ≠ .stuck) : ds.length = fd.np := by
  simp only [mkF, hf] at h
  by_cases e : ds.length = fd.np
  · exact e
  · rw [if_neg e] at h; exact absurd rfl h
theorem run_len {p : Prg} {f : Nat} {fd : FD} (hf : p f = some fd) : ∀ (n : Nat) (ds : List D) (cl : Option (List D → M D)) (Z : Sto), run p n f ds cl Z ≠ .stuck → ds.length = fd.np
  | 0, _, _, _, h => by simp only [run] at h; exact absurd rfl h
  | 1, ds, cl, Z, h => by
    simp only [run, hf] at h
    split at h
    · exact absurd rfl h
    · exact mkF_len hf h
  | 2, _, _, _, h => by simp only [run] at h; exact mkF_len hf h
  | n + 3, _, _, _, h => by simp only [run] at h; exact mkF_len hf h
/-- the defs, by F, where there is room -/
structure Fns (W : Wd) (P : Program) (w : World) (K : PySem.W.Frag) (mg : PySem.Str → Option Value) (base : Heap) (F : FT) (r : Nat) : Prop where
  run : ∀ f, (W.prg f).isSome = true → FnOk P w K mg base (L2.CX P w) r (W.fA f) (W.fD f) (W.ps f) (SpF W K F f)
  gone : ∀ f ds cl Z, W.prg f = none → F f ds cl Z = .stuck
  len : ∀ f ds cl Z, F f ds cl Z ≠ .stuck → ds.length = (W.ps f).length
theorem Base.fnsOk (B : Base W cc ts P w K mg base) {F : FT} {r : Nat} (h : Fns W P w K mg base F r) {X : Cx} (h1 : X.prog = P) (h2 : X.w = w) (h3 : X.K = K) (h4 : X.mg = mg) (h5 : X.base = base) (hr : Room r X.A) : FnsOk W X F := by
  subst h1 h2 h3 h4 h5
  refine ⟨fun f hf => ⟨r, h.run f hf, hr⟩, fun f hf => ?_, fun f hf => ?_, h.gone, h.len⟩
  · obtain ⟨t, ht, rfl⟩ := B.dom f hf
    exact (B.fun_ t ht).kp
  · obtain ⟨t, ht, rfl⟩ := B.dom f hf
    rw [B.ps t ht]
    have o := B.ok t ht
    refine binds_of (B.fun_ t ht) o.args ?_
    rw [← o.sc.pre]
    exact o.sc.nd.sublist (List.take_sublist _ _)
theorem Base.mkOk (B : Base W cc ts P w K mg base) {X : Cx} (h1 : X.prog = P) (h2 : X.w = w) (h3 : X.K = K) (h4 : X.mg = mg) (h5 : X.base = base) (hr : Room 3 X.A) : MkOk W X := by
  subst h1 h2 h3 h4 h5
  obtain ⟨fd, ps, q1, q2⟩ := B.init
  exact ⟨B.made, 2, fd, ps, q1, hr, q2⟩
/-- a def's body, where lambdas are not made -/
theorem Base.body (B : Base W cc ts P w K mg base) {t : DT} (ht : t ∈ ts) {A : Around} {outer : List PySem.Env} {s : Shared} {H : Hp} {E : XK} {F F2 : FT} {r n : Nat} {cl : Option (List D → M D)} {fc : Addr} {kn : List (Addr × HO)} {env0 : Env} {st0 : L2.St} {fc0 : Addr} {cdv : Value}
    (hr : Room (r + 3) (A.deeper (envOfC t.d.qual t.d.scope s.heap.objs.size (W.fA t.f) cdv))) (hF : Fns W P w K mg base F (r + 3))
    (hlam : t.fd.lam = true → (W.fD t.f).code = cdv ∧ Fns W P w K mg base F2 (r + 3 - 2) ∧ 5 ≤ r + 3 ∧ ∀ g ∈ cc.lf, ∀ (X : Cx), X.prog = P → X.w = w → X.K = K → X.mg = mg → X.base = base → Room (r + 3) X.A → GetsLam W X F g (r + 3 - 2))
    (hclo : ∀ a i, t.clo = some (a, i) → CloOk (Cf.dfn W n E F F2 cl fc (cc.fresh.contains t.f) kn env0 st0 fc0) (cxOf (L2.CX P w) P w K mg base t.N t.d.qual t.d.scope (W.fA t.f) cdv A outer s H E) a i) :
    PSs (cxOf (L2.CX P w) P w K mg base t.N t.d.qual t.d.scope (W.fA t.f) cdv A outer s H E) t.d.body (tSs (Cf.dfn W n E F F2 cl fc (cc.fresh.contains t.f) kn env0 st0 fc0) K t.fd.body) := by
  have o := B.ok t ht
  have O : OkS (cc.at t) (Cf.dfn W n E F F2 cl fc (cc.fresh.contains t.f) kn env0 st0 fc0) (cxOf (L2.CX P w) P w K mg base t.N t.d.qual t.d.scope (W.fA t.f) cdv A outer s H E) (r + 3 - 2) :=
    { hu := hr.units, calm := rfl, N := rfl, nd := o.sc.nd, fns := B.fnsOk hF rfl rfl rfl rfl rfl hr, tk := takes_of rfl rfl rfl rfl, tbl := B.tbl, mkk := B.mkOk rfl rfl rfl rfl rfl (hr.mono (by omega)), gf := B.gf, gc := B.gc, tn := B.tn, ms := B.ms, nob := B.nob, fresh := B.fresh, clo := hclo,
      lam := fun hl => by
        obtain ⟨h1, h2, h3, h4⟩ := hlam hl
        obtain ⟨c, T, q, q1, q2, q3, q4, q5⟩ := B.tabs t ht hl
        refine ⟨⟨c, T, q1, ?_, ?_, ?_⟩, fun g hg => h4 g hg _ rfl rfl rfl rfl rfl hr, fun X' e1 e2 e3 e4 e5 hr' => ⟨B.fnsOk h2 e1 e2 e3 e4 e5 hr', B.mkOk e1 e2 e3 e4 e5 (hr'.mono (by omega))⟩⟩
        · show cdv = _
          rw [← h1, q2]
        · show (T, (envOfC t.d.qual t.d.scope s.heap.objs.size (W.fA t.f) cdv).qual ++ ("<lambda>" : PySem.Str)) ∈ W.T
          rw [q5]; exact q3
        · intro p hp e
          show p.2 = (envOfC t.d.qual t.d.scope s.heap.objs.size (W.fA t.f) cdv).qual ++ ("<lambda>" : PySem.Str)
          rw [q5]; exact q4 p hp e
      own := passes_of rfl, kind := o.sc.kind, fn := fun _ => rfl, stk := rfl, frm := rfl, cb := B.cb,
      ex := fun y j h => by
        obtain ⟨q0, bmB, B0, newId, initId, q1, q2, q3, q4, q5, q6⟩ := B.ex y j h
        exact ⟨q0, bmB, B0, newId, initId, q1, q2, q3, q4, raises_own q5 q6⟩ }
  exact okD _ O _ rfl _ o.body
/-- from what is wanted of a call to what is wanted of the body -/
theorem body_end {c : Cf} {t : DT} {E : XK} {vs : List V} {H : Hp} {Q : VK} {F F2 : FT} {pv m : List Addr} {Z : Sto} {G : Hp} {ds : List D} (R : Rel W K pv m Z H G) (rv : VReps W K G m ds vs) (hl : ds.length = t.fd.np) (hns : t.fd.ns = t.N.length) (hle : t.fd.np ≤ t.fd.ns)
    (h : match goOut Z.length (exs F F2 none t.fd.body Z.length (ds.map some ++ List.replicate (t.fd.ns - t.fd.np) none) Z) with
      | .ok d Z' => ∀ v H' G', Rel W K pv m Z' H' G' → Stp Z.length pv m Z H G m Z' H' G' → (if W.fresh t.f then FRep W K pv m Z' H' G' v d else VRep W K G' m d v) → Q v H'
      | .exc k Z' => ∀ H' G', Rel W K pv m Z' H' G' → Stp Z.length pv m Z H G m Z' H' G' → E (.ref (W.cls k)) none H'
      | .stuck => False) (hc : c = Cf.dfn W Z.length E F F2 none 0 (W.fresh t.f) [] [] [] 0) :
    tSs c K t.fd.body { nx := fun _ H' => Q .non H', rt := Q } (L2.start t.N vs) H := by
  subst hc
  have hlv := rv.length
  refine ⟨pv, m, Z, G, ds.map some ++ List.replicate (t.fd.ns - t.fd.np) none, R, ?_, ?_⟩
  · have e1 : L2.start t.N vs = vs.map some ++ List.replicate (t.N.length - vs.length) none := rfl
    rw [e1]
    refine ⟨by simp; omega, fun i d h => ?_, fun p hp => absurd hp (by simp), fun i d h => by simp at h, rfl⟩
    by_cases hi : i < ds.length
    · rw [List.getElem?_append_left (by simpa using hi), List.getElem?_map] at h
      rw [List.getElem?_append_left (by simp; omega), List.getElem?_map]
      cases e : ds[i]? with
      | none => rw [e] at h; simp at h
      | some x =>
        rw [e] at h
        simp at h
        subst h
        obtain ⟨v, h1, h2⟩ := rv.get e
        exact .inr ⟨v, by rw [h1]; rfl, h2⟩
    · rw [List.getElem?_append_right (by simp; omega), List.getElem?_replicate] at h
      split at h <;> cases h
  · show PstS _ K pv m Z H G (exs F F2 none t.fd.body Z.length _ Z) _
    cases e : exs F F2 none t.fd.body Z.length (ds.map some ++ List.replicate (t.fd.ns - t.fd.np) none) Z with
    | stuck => rw [e] at h; exact h
    | exc k Z' =>
      rw [e] at h
      intro σ' m' H' G' R' s'
      have R2 := R.leave R' s'
      exact h H' G' R2 (Stp.leave R s')
    | ok fl Z' =>
      rw [e] at h
      have key : ∀ (d : D), (match leave Z.length d Z' with
        | .ok d Z' => ∀ v H' G', Rel W K pv m Z' H' G' → Stp Z.length pv m Z H G m Z' H' G' → (if W.fresh t.f then FRep W K pv m Z' H' G' v d else VRep W K G' m d v) → Q v H'
        | .exc k Z' => ∀ H' G', Rel W K pv m Z' H' G' → Stp Z.length pv m Z H G m Z' H' G' → E (.ref (W.cls k)) none H'
        | .stuck => False) → ∀ v m' H' G', Rel W K pv m' Z' H' G' → Stp Z.length pv m Z H G m' Z' H' G' → (if W.fresh t.f then FRep W K pv m' Z' H' G' v d else VRep W K G' m' d v) → Q v H' := fun d h v m' H' G' R' s' rp => by
        simp only [leave] at h
        by_cases hz : Z'.length = Z.length
        · rw [if_pos hz] at h
          have hm : m' = m := by
            obtain ⟨u, hu⟩ := s'.pre
            have l1 := R.len
            have l2 := R'.len
            have : u = [] := List.eq_nil_of_length_eq_zero (by rw [hu] at l2; simp at l2; omega)
            rw [hu, this, List.append_nil]
          subst hm
          exact h v H' G' R' s' rp
        · rw [if_neg hz] at h
          by_cases hn : D.noref d = true
          · rw [if_pos hn] at h
            have R2 := R.leave R' s'
            refine h v H' G' R2 (Stp.leave R s') ?_
            split at rp
            · rename_i hf
              rw [if_pos hf]
              exact FRep.leave R R' s' hn rp
            · rename_i hf
              rw [if_neg hf]
              exact VRep.leave s' hn rp
          · rw [if_neg hn] at h; exact h.elim
      cases fl with
      | bk ρ' => exact h.elim
      | rt d => exact fun v m' H' G' R' s' rp => key d h v m' H' G' R' s' rp
      | nx ρ' =>
        refine fun σ' m' H' G' R' s' _ => key .non h .non m' H' G' R' s' ?_
        split
        · show VRep W K G' m' .non .non
          simp only [VRep]
        · simp only [VRep]
theorem clo_none {c : Cf} {X : Cx} {a : PySem.Str} {i : Nat} (h : c.cl = none) : CloOk c X a i := fun W pn xe p pos es as tk hs hl ha => ⟨fun pins s σ H Q I ⟨pv, m, Z, G, ρ, R, E, q⟩ => by
  simp only [ev, h] at q
  exact q.elim⟩
/-- a def's call, by the depth of what it calls -/
theorem Base.fn1 (B : Base W cc ts P w K mg base) {F F2 : FT} {r : Nat} (hF : Fns W P w K mg base F (r + 3))
    {t : DT} (ht : t ∈ ts) (hlam : t.fd.lam = true → Fns W P w K mg base F2 (r + 3 - 2) ∧ 5 ≤ r + 3 ∧ ∀ g ∈ cc.lf, ∀ (X : Cx), X.prog = P → X.w = w → X.K = K → X.mg = mg → X.base = base → Room (r + 3) X.A → GetsLam W X F g (r + 3 - 2))
    : FnOk P w K mg base (L2.CX P w) (r + 3 + 1) (W.fA t.f) (W.fD t.f) (W.ps t.f) (SpF W K (mkF W.prg F F2) t.f) := by
  have o := B.ok t ht
  obtain ⟨oc, od, dV, kV, doc, pm, an, cdv, ct, osl, hfd, lk, hcd, _, _⟩ := (B.fun_ t ht).ex
  rw [hfd] at lk
  rw [hfd, B.ps t ht]
  refine fn_of lk hcd o.sc (fun vs H Q E h => ?_) fun A outer s H vs Q E hr h => ?_
  · obtain ⟨pv, m, Z, G, ds, R, rv, hl, _⟩ := h
    rw [B.ps t ht] at hl
    rw [← hl, rv.length]
  · obtain ⟨pv, m, Z, G, ds, R, rv, hl, h⟩ := h
    have b := B.body (n := Z.length) (cl := none) (fc := 0) (kn := []) (env0 := []) (st0 := []) (fc0 := 0) (outer := outer) (H := H) (E := E) ht hr hF (fun hl => by
      obtain ⟨q2, q3, q4⟩ := hlam hl
      exact ⟨by rw [hfd], q2, q3, q4⟩) (fun a i _ => clo_none rfl)
    refine ⟨_, b, ?_⟩
    have hfr : cc.fresh.contains t.f = W.fresh t.f := (B.fresh t.f).symm
    rw [hfr]
    rw [B.ps t ht, ← o.np] at hl
    simp only [mkF, B.prg t ht, if_pos hl] at h
    exact body_end R rv hl o.ns o.le h rfl
end
end Fw
end
section
set_option Elab.async false
set_option linter.all false
set_option maxRecDepth 100000
set_option maxHeartbeats 4000000
/-! Fw.Level: by the depth of calls; a law's end -/
namespace Fw
open PySem PySem.Spec PyProof.Rows L2 LamX
section
variable {W : Wd} {cc : CC} {ts : List DT} {P : Program} {w : World} {K : PySem.W.Frag} {mg : PySem.Str → Option Value} {base : Heap}
theorem Base.getsLam (B : Base W cc ts P w K mg base) {F Fl Fl2 : FT} {n : Nat} (hF : Fns W P w K mg base Fl (n + 2 + 3)) (hpt : ∀ g fd ds cl Z, W.prg g = some fd → fd.lam = false → F g ds cl Z = mkF W.prg Fl Fl2 g ds cl Z) {g : Nat} (hg : g ∈ cc.lf)
    {X : Cx} (h1 : X.prog = P) (h2 : X.w = w) (h3 : X.K = K) (h4 : X.mg = mg) (h5 : X.base = base) (hr : Room (n + 6) X.A) : GetsLam W X F g (n + 4) := by
  subst h1 h2 h3 h4 h5
  obtain ⟨hfr, t, ht, rfl, hc⟩ := B.lf g hg
  have o := B.ok t ht
  have hp := B.prg t ht
  have F1 := B.fun_ t ht
  obtain ⟨oc, od, dV, kV, doc, pm, an, cdv, ct, osl, hfd, lk, hcd, _, _⟩ := F1.ex
  cases hcl : t.clo with
  | none => rw [hcl] at hc; cases hc
  | some p =>
    obtain ⟨a, i⟩ := p
    have hcb := o.clo
    unfold cloB at hcb
    rw [hcl] at hcb
    simp only [Bool.and_eq_true, decide_eq_true_eq, Bool.not_eq_true'] at hcb
    obtain ⟨⟨⟨c1, c2⟩, c3⟩, c4⟩ := hcb
    simp only [visB, locB, dbg, Bool.and_eq_true, Bool.or_eq_true, decide_eq_true_eq, Bool.not_eq_true'] at c3
    have nd : t.ps.Nodup := by
      rw [← o.sc.pre]
      exact o.sc.nd.sublist (List.take_sublist _ _)
    have hb := binds_of F1 o.args nd
    have lk' := lk
    rw [hfd] at lk' hb
    have hvis : Vis t.d.scope a := by
      rcases c3.1 with (h | h) | h
      · exact .inl h
      · exact .inr (.inl h)
      · exact .inr (.inr h)
    refine ⟨t.fd, Fl, Fl2, i, a, t.d.name, t.d.qual, t.d.params, t.d.body, t.d.scope, dV, kV, doc, pm, cdv, ct, oc, an, od, osl, t.N, hp, fun ds cl Z => hpt _ _ ds cl Z hp c4, lk', hcd, (by rw [B.ps t ht]; exact o.sc), hr, (by rw [B.ps t ht]; exact hb), F1.kp, o.ns.symm, (by rw [B.ps t ht]; exact o.np.symm), c1, o.le, c2, hvis, c3.2.1, c3.2.2, fun A outer s H E m cl fc kn env0 st0 fc0 hr2 hclo => ?_⟩
    have b := B.body (F := Fl) (F2 := Fl2) (r := n + 2) (n := m) (cl := cl) (fc := fc) (kn := kn) (env0 := env0) (st0 := st0) (fc0 := fc0) (A := A) (outer := outer) (s := s) (H := H) (E := E) (cdv := cdv) ht hr2 hF (fun hl => by rw [c4] at hl; cases hl) (fun a' i' hc' => by
      rw [hcl] at hc'
      cases hc'
      rw [hfr]
      exact hclo)
    rw [hfr] at b
    exact b
theorem fns_none {r : Nat} : Fns W P w K mg base FT.none r :=
  ⟨fun f _ => ⟨fun vs H Q E h => by obtain ⟨_, _, _, _, _, _, _, _, h⟩ := h; exact h.elim, fun _ _ _ _ _ _ _ _ _ _ _ _ _ h => by obtain ⟨_, _, _, _, _, _, _, _, h⟩ := h; exact h.elim⟩, fun _ _ _ _ _ => rfl, fun _ _ _ _ h => absurd rfl h⟩
theorem Fns.mono {F : FT} {r r' : Nat} (h : Fns W P w K mg base F r) (hr : r ≤ r') : Fns W P w K mg base F r' := ⟨fun f hf => (h.run f hf).mono hr, h.gone, h.len⟩
theorem Base.len (B : Base W cc ts P w K mg base) (n : Nat) (f : Nat) (ds : List D) (cl : Option (List D → M D)) (Z : Sto) (h : run W.prg n f ds cl Z ≠ .stuck) : ds.length = (W.ps f).length := by
  cases hp : W.prg f with
  | none => exact absurd (run_gone hp n ds cl Z) h
  | some fd =>
    obtain ⟨t, ht, rfl⟩ := B.dom f (by rw [hp]; rfl)
    rw [run_len hp n ds cl Z h, B.ps t ht]
    have := B.prg t ht
    rw [hp] at this
    cases this
    exact (B.ok t ht).np
theorem Base.fns (B : Base W cc ts P w K mg base) : ∀ n, Fns W P w K mg base (run W.prg n) (n + 6)
  | 0 => by
    have e : run W.prg 0 = FT.none := by simp only [run]
    rw [e]
    exact fns_none
  | 1 => by
    refine ⟨fun f hf => ?_, fun f ds cl Z h => run_gone h 1 ds cl Z, B.len 1⟩
    obtain ⟨t, ht, rfl⟩ := B.dom f hf
    have hp := B.prg t ht
    cases hl : t.fd.lam with
    | true =>
      refine ⟨fun vs H Q E h => ?_, fun _ _ _ _ _ _ _ _ _ _ _ _ _ h => ?_⟩ <;>
      · obtain ⟨_, _, _, _, _, _, _, _, h⟩ := h
        simp only [run, hp, hl, if_true] at h
    | false =>
      refine (B.fn1 (F := .none) (F2 := .none) (r := 3) fns_none ht (fun h => by rw [hl] at h; cases h)).imp fun vs H Q E h => ?_
      obtain ⟨pv, m, Z, G, ds, R, rv, hn, h⟩ := h
      refine ⟨pv, m, Z, G, ds, R, rv, hn, ?_⟩
      simp only [run, hp, hl] at h
      exact h
  | 2 => by
    refine ⟨fun f hf => ?_, fun f ds cl Z h => run_gone h 2 ds cl Z, B.len 2⟩
    obtain ⟨t, ht, rfl⟩ := B.dom f hf
    have ih := B.fns 1
    have e : run W.prg 2 = mkF W.prg (run W.prg 1) .none := by simp only [run]
    rw [e]
    exact B.fn1 (r := 4) ih ht fun _ => ⟨fns_none, by omega, fun g hg X h1 h2 h3 h4 h5 hr => B.getsLam (Fl := .none) (Fl2 := .none) (n := 1) fns_none (fun g fd ds cl Z hp hl => by simp only [run, hp, hl]; rfl) hg h1 h2 h3 h4 h5 hr⟩
  | n + 3 => by
    refine ⟨fun f hf => ?_, fun f ds cl Z h => run_gone h (n + 3) ds cl Z, B.len (n + 3)⟩
    obtain ⟨t, ht, rfl⟩ := B.dom f hf
    have ih := B.fns (n + 2)
    have ih0 := B.fns n
    have e : run W.prg (n + 3) = mkF W.prg (run W.prg (n + 2)) (run W.prg n) := by simp only [run]
    rw [e]
    refine B.fn1 (r := n + 5) ih ht fun _ => ⟨ih0, by omega, fun g hg X h1 h2 h3 h4 h5 hr => ?_⟩
    cases n with
    | zero => exact B.getsLam (Fl := run W.prg 1) (Fl2 := .none) (n := 2) (B.fns 1) (fun g fd ds cl Z hp hl => by simp only [run]) hg h1 h2 h3 h4 h5 hr
    | succ n => exact B.getsLam (Fl := run W.prg (n + 2)) (Fl2 := run W.prg n) (n := n + 3) (B.fns (n + 2)) (fun g fd ds cl Z hp hl => by simp only [run]) hg h1 h2 h3 h4 h5 hr
/-- a law: a list of ints comes in, True goes out -/
def spLaw (W : Wd) (K : PySem.W.Frag) : Sp := fun vs H Q _ => ∃ (a : Addr) (ns : List Int), vs = [.ref a] ∧ SqL K H a (ns.map V.int) ∧ ns.length ≤ 63 ∧ (∀ z ∈ ns, Builtin.Int.intBits z ≤ 1048576) ∧ Tabs W.T H ∧ ∀ H', Q (.bl true) H'
theorem Base.law (B : Base W cc ts P w K mg base) {n l : Nat} (hl : (W.prg l).isSome = true) (hf : W.fresh l = false) (hps : (W.ps l).length = 1) (h : ∀ ns : List Int, ns.length ≤ 63 → (∀ z ∈ ns, Builtin.Int.intBits z ≤ 1048576) → ∃ Z, run W.prg n l [.scr ns] none [] = .ok (.bl true) Z) :
    FnOk P w K mg base (L2.CX P w) (n + 6) (W.fA l) (W.fD l) (W.ps l) (spLaw W K) :=
  ((B.fns n).run l hl).imp fun vs H Q E ⟨a, ns, hv, hS, hlen, hb, hT, q⟩ => by
    subst hv
    obtain ⟨Z, e⟩ := h ns hlen hb
    refine ⟨[], [], [], fun b => match H b with
      | some (.tbl _) => none
      | o => o, [.scr ns], ⟨rfl, fun i j a d e h1 => by simp at h1, fun b o hb => ?_, fun i d b h1 => by simp at h1, fun b ⟨i, d, h1, _⟩ => by simp at h1, fun b hb => absurd hb (by simp), hT⟩, ?_, (by rw [hps]; rfl), ?_⟩
    · split at hb
      · cases hb
      · rename_i hne
        refine ⟨hb, by simp, fun ⟨i, d, h1, _⟩ => by simp at h1, fun ps z => ?_⟩
        subst z
        exact hne ps hb
    · simp only [VReps, VRep]
      refine ⟨_, [], rfl, ⟨a, rfl, ?_⟩, rfl⟩
      rcases hS with (h | ⟨o, h⟩) | h
      · refine .inl (.inl ?_)
        show (match H a with | some (.tbl _) => none | o => o) = _
        rw [h]
      · refine .inl (.inr ⟨o, ?_⟩)
        show (match H a with | some (.tbl _) => none | o => o) = _
        rw [h]
      · exact .inr h
    · rw [e]
      intro v H' G' R' s' r
      rw [hf] at r
      simp only [Bool.false_eq_true, if_false, VRep] at r
      subst r
      exact q H'
end
end Fw
end
section
set_option Elab.async false
set_option linter.all false
set_option maxRecDepth 100000
set_option maxHeartbeats 4000000
/-! Fw.Head: from what the head tells to Base -/
namespace Fw
open PySem PySem.Spec PyProof.Rows L2 LamX
def toDv : D → He.Dv
  | .int i => .int i
  | .str s => .str s
  | _ => .non
def flatD : D → Bool
  | .int _ | .str _ => true
  | _ => false
/-- the constants that are tuples -/
def gcB (gc : List (PySem.Str × Nat × D)) (K : PySem.W.Frag) : Bool := gc.all fun p => match p.2.2 with
  | .ctup ds => ds.all flatD && He.tupB K p.1 (ds.map toDv)
  | _ => true
end Fw
end
section
set_option Elab.async false
set_option linter.all false
set_option maxRecDepth 100000
set_option maxHeartbeats 4000000
/-! Fw.Head: Table's __init__; from what the head tells to Base -/
namespace Fw
open PySem PySem.Spec PyProof.Rows L2 LamX
/-- the text of Table's __init__ -/
def initB : List Stmt → Bool
  | [.Assign [.Attribute (.Name s1 _) n1 _] (.Name a1 _) _, .Assign [.Attribute (.Name s2 _) n2 _] (.Name a2 _) _, .Assign [.Attribute (.Name s3 _) n3 _] (.BinOp (.BinOp (.Constant (.int i3) _ _) .LShift (.Name a3 _) _) .Sub (.Constant (.int j3) _ _) _) _,
      .Assign [.Attribute (.Name s4 _) n4 _] (.Subscript (.Name a4 _) (.Attribute (.Name s5 _) n5 _) _) _] =>
    decide (s1 = "self") && decide (n1 = sN) && decide (a1 = "n") && decide (s2 = "self") && decide (n2 = sRanks) && decide (a2 = "ranks") && decide (s3 = "self") && decide (n3 = sAll) && decide (i3 = 1) && decide (a3 = "n") && decide (j3 = 1) && decide (s4 = "self") && decide (n4 = sRank) && decide (a4 = "ranks") && decide (s5 = "self") && decide (n5 = sAll)
  | _ => false
def iNs : List PySem.Str := ["self", "n", "ranks"]
theorem upd_upd {H : Hp} {a : Addr} {o o' : HO} : upd (upd H a o) a o' = upd H a o' := by
  funext b
  by_cases h : b = a
  · subst h; rw [upd_same, upd_same]
  · rw [upd_ne h, upd_ne h, upd_ne h]
section
variable {P : Program} {w : World} {K : PySem.W.Frag} {mg : PySem.Str → Option Value} {base : Heap} {W : Wd} {f : Addr} {fd : FuncData} {d : He.DefD}
theorem fs_eq {n : Int} {r : Addr} {k : Int} {v : V} : putF sRank v (putF sAll (.int k) (putF sRanks (.ref r) (putF sN (.int n) []))) = tFs [.int n, .ref r, .int k, v] := by
  rfl
theorem fs_all {n : Int} {r : Addr} {k : Int} : (putF sAll (.int k) (putF sRanks (V.ref r) (putF sN (.int n) []))).lookup sAll = some (.int k) := by
  rfl
theorem ok_init (F : FunD K d.name d.qual d.params d.body d.scope [] [] f fd) (hs : scopeB iNs iNs d.scope = true) (hb : initB d.body = true) (T : TblOk W K) (hf : f = W.tI) : FnOk P w K mg base (L2.CX P w) 2 f fd iNs (SpI W K) := by
  have S := scopeB_ok hs
  have vis : ∀ x ∈ iNs, Vis d.scope x := fun x hx => (S.par x hx).elim .inl fun h => .inr (.inl h)
  refine FnOk.mono ?_ (show 1 ≤ 2 by decide)
  refine F.ok S (fun vs H Q E h => ?_) (fun cdv A outer s H vs Q E hr h => ?_)
  · obtain ⟨x, dx, n, r, rs, v, rfl, _⟩ := h
    rfl
  · obtain ⟨x, dx, n, r, rs, v, rfl, hx, h0, h1, hS, hne, hv, q⟩ := h
    obtain ⟨dat, dn, dq, dp, db, ds, dd, dk⟩ := d
    dsimp only at hb
    unfold initB at hb
    split at hb
    · simp only [Bool.and_eq_true, decide_eq_true_eq] at hb
      obtain ⟨⟨⟨⟨⟨⟨⟨⟨⟨⟨⟨⟨⟨⟨⟨rfl, rfl⟩, rfl⟩, rfl⟩, rfl⟩, rfl⟩, rfl⟩, rfl⟩, rfl⟩, rfl⟩, rfl⟩, rfl⟩, rfl⟩, rfl⟩, rfl⟩, rfl⟩ := hb
      have v0 : Vis ds "self" := vis "self" (by decide +kernel)
      have v1 : Vis ds "n" := vis "n" (by decide +kernel)
      have v2 : Vis ds "ranks" := vis "ranks" (by decide +kernel)
      refine ⟨_, pss_cons (ps_fld (pe_var (i := 0) rfl v0) (pe_var (i := 1) rfl v1) rfl) (pss_cons (ps_fld (pe_var (i := 0) rfl v0) (pe_var (i := 2) rfl v2) rfl) (pss_cons (ps_fld (pe_var (i := 0) rfl v0) (pe_op op_sub (pe_op op_shl pe_int (pe_var (i := 1) rfl v1)) pe_int) rfl) (pss_one (ps_fld (pe_var (i := 0) rfl v0) (pe_ix ix_list (pe_var (i := 2) rfl v2) (pe_fld (pe_var (i := 0) rfl v0) rfl) (fun _ _ => rfl)) rfl)))), ?_⟩
      have na : ∀ g ∈ [sN, sRanks, sAll, sRank], NoAttr K W.tC g := T.na
      -- self.n = n
      refine ⟨_, rfl, _, rfl, x, W.tC, dx, [], rfl, hx, T.cls, na _ (by simp), by decide, ?_⟩
      -- self.ranks = ranks
      refine ⟨_, rfl, _, rfl, x, W.tC, dx, _, rfl, upd_same, T.cls, na _ (by simp), (show 1 < 1000 by decide), ?_⟩
      -- self.all = (1 << n) - 1
      refine ⟨_, rfl, 1, n, rfl, rfl, ⟨h0, by omega, by decide⟩, _, _, rfl, rfl, _, rfl, x, W.tC, dx, _, rfl, upd_same, T.cls, na _ (by simp), (show 2 < 1000 by decide), ?_⟩
      -- self.rank = ranks[self.all]
      have eall : (1 : Int) * 2 ^ n.toNat - 1 = ((2 ^ n.toNat - 1 : Nat) : Int) := by
        have : 1 ≤ 2 ^ n.toNat := Nat.one_le_two_pow
        rw [Int.one_mul, Int.natCast_sub this]
        simp
      have hS' : ∀ {o : HO}, SqL K (upd H x o) r rs := fun {o} => by
        rcases hS with (h | ⟨u, h⟩) | h
        · exact .inl (.inl (by rw [upd_ne hne]; exact h))
        · exact .inl (.inr ⟨u, by rw [upd_ne hne]; exact h⟩)
        · exact .inr h
      have hat : atI rs ((2 ^ n.toNat - 1 : Nat) : Int) = some v := by
        unfold atI
        have hlt : 2 ^ n.toNat - 1 < rs.length := (List.getElem?_eq_some_iff.mp hv).1
        have : ixN rs.length ((2 ^ n.toNat - 1 : Nat) : Int) = some (2 ^ n.toNat - 1) := by
          unfold ixN
          rw [if_pos (by omega), if_pos (by omega)]
          simp
        rw [this]; exact hv
      rw [← eall] at hat q
      refine ⟨_, rfl, _, rfl, x, W.tC, dx, _, _, rfl, upd_same, T.cls, na _ (by simp), fs_all, r, rs, _, v, rfl, rfl, ?_, hat, _, rfl, x, W.tC, dx, _, rfl, upd_same, T.cls, na _ (by simp), (show 3 < 1000 by decide), ?_⟩
      · rw [upd_upd, upd_upd]; exact hS'
      · have e := fs_eq (n := n) (r := r) (k := 1 * 2 ^ n.toNat - 1) (v := v)
        rw [← e] at q
        have q2 := q
        rw [← upd_upd (o := .ins W.tC dx (putF sAll (.int (1 * 2 ^ n.toNat - 1)) (putF sRanks (.ref r) (putF sN (.int n) []))))] at q2
        rw [upd_upd, upd_upd, upd_upd]
        exact q
    · cases hb
end
end Fw
end
section
set_option Elab.async false
set_option linter.all false
set_option maxRecDepth 100000
set_option maxHeartbeats 4000000
/-! Fw.Head: from what the head tells to a law's end -/
namespace Fw
open PySem PySem.Spec PyProof.Rows L2 LamX
/-- what a law brings -/
structure LD where
  ts : List DT
  cc : CC
  tr : Tr
  dI : He.DefD
  /-- the classes of errors, in order -/
  exN : List PySem.Str
  law : Nat
def faOf (cc : CC) (exN : List PySem.Str) : List He.Fa :=
  cc.gf.map (fun p => .glo p.1) ++ ([.glo cc.tbl, .cls cc.tbl, .mkr cc.tbl] ++ ([sN, sRanks, sAll, sRank].map (fun f => He.Fa.noat cc.tbl f) ++ (cc.ms.map (fun p => He.Fa.meth cc.tbl p.1) ++
    (cc.gc.map (fun p => match p.2.2 with | .int i => He.Fa.int p.1 i | _ => .glo p.1) ++ (cc.nob.map He.Fa.free ++ (cc.ex.map (fun p => He.Fa.glo p.1) ++ (cc.ex.map (fun p => He.Fa.exc p.1) ++
      (List.range 5).flatMap fun a => (List.range 5).map fun b => He.Fa.exm (exN.getD a "") (exN.getD b "") (isBelow a b))))))))
def atOf (ts : List DT) (f : Nat) : He.Defn := match ts.find? (fun t => t.f == f) with
  | some t => t.d.at_
  | none => ("", none)
def psOf (ts : List DT) (f : Nat) : List PySem.Str := match ts.find? (fun t => t.f == f) with
  | some t => t.ps
  | none => []
def LD.lams (l : LD) : List DT := l.ts.filter fun t => t.fd.lam
def LD.tf (l : LD) : List He.Defn := l.lams.map fun t => t.d.at_
def LD.exb (l : LD) (K : PySem.W.Frag) : Bool := gcB l.cc.gc K && decide ((l.tf.map fun p => (He.cT K p).2).Nodup)
def LD.fn (l : LD) : List He.DefD := l.dI :: l.ts.map (·.d)
def LD.fa (l : LD) : List He.Fa := faOf l.cc l.exN
def lamQ (q : PySem.Str) : PySem.Str := (envOfC q default 0 0 .none).qual ++ ("<lambda>" : PySem.Str)
def gcOk (ts : List DT) (p : PySem.Str × Nat × D) : Bool := match p.2.2 with
  | .int _ => true
  | .ctup _ => true
  | .fn i => decide (atOf ts i = (p.1, none)) && ts.any (fun t => t.f == i)
  | _ => false
/-- what is checked of a law's texts -/
def LD.ok1 (l : LD) : Bool := l.ts.all (fun t => t.ok l.cc)
def LD.ok2 (l : LD) : Bool :=
  (l.tr.keys.all fun i => l.ts.any (fun t => t.f == i)) && decide ((l.ts.map (·.f)).Nodup) &&
    scopeB iNs iNs l.dI.scope && initB l.dI.body && argsB iNs l.dI.params && decide (l.dI.at_ = ((l.cc.tbl, some ("__init__" : PySem.Str)) : He.Defn)) && l.dI.dfl.isEmpty && l.dI.kwd.isEmpty &&
    (l.cc.gf.all fun p => decide (atOf l.ts p.2 = (p.1, none)) && l.ts.any (fun t => t.f == p.2)) && (l.cc.gc.all fun p => gcOk l.ts p) &&
    (l.cc.ms.all fun p => decide (atOf l.ts p.2 = (l.cc.tbl, some p.1)) && l.ts.any (fun t => t.f == p.2) && decide (p.1 ∉ [sN, sRanks, sAll, sRank])) &&
    (l.cc.ex.all fun p => decide (p.2 < 5) && decide (l.exN.getD p.2 "" = p.1)) && (l.cc.lf.all fun g => !l.cc.fresh.contains g && l.ts.any fun t => t.f == g && t.clo.isSome) &&
    decide (atOf l.ts l.law = ((("law" : PySem.Str), none) : He.Defn)) && l.ts.any (fun t => t.f == l.law && decide (t.ps = [("script" : PySem.Str)])) && !l.cc.fresh.contains l.law
section
variable {l : LD} {P : Program} {w : World} {K : PySem.W.Frag} {h : Heap} {mg : PySem.Str → Option Value} {base : Heap}
theorem find_of {ts : List DT} {t : DT} (nd : (ts.map (·.f)).Nodup) (ht : t ∈ ts) : ts.find? (fun u => u.f == t.f) = some t := by
  induction ts with
  | nil => cases ht
  | cons u us ih =>
    rw [List.map_cons, List.nodup_cons] at nd
    rw [List.find?_cons]
    rcases List.mem_cons.mp ht with e | e
    · subst e; simp
    · have : (u.f == t.f) = false := by
        simp only [beq_eq_false_iff_ne, ne_eq]
        intro z
        exact nd.1 (List.mem_map.mpr ⟨t, e, z.symm⟩)
      rw [this]
      exact ih nd.2 e
theorem at_of {ts : List DT} {t : DT} (nd : (ts.map (·.f)).Nodup) (ht : t ∈ ts) : atOf ts t.f = t.d.at_ ∧ psOf ts t.f = t.ps := by
  unfold atOf psOf
  rw [find_of nd ht]
  exact ⟨rfl, rfl⟩
theorem any_at {ts : List DT} {g : Nat} (h : ts.any (fun t => t.f == g) = true) : ∃ t ∈ ts, t.f = g := by
  obtain ⟨t, ht, e⟩ := List.any_eq_true.mp h
  exact ⟨t, ht, by simpa using e⟩
/-- the written part's text -/
noncomputable def mkW (l : LD) (K : PySem.W.Frag) (fD : Nat → FuncData) : Wd :=
  { prg := l.tr.get, fA := fun f => He.fAd K (atOf l.ts f), fD := fD, ps := psOf l.ts, tC := He.ga K l.cc.tbl, tI := He.ma K (He.ga K l.cc.tbl) "__init__", cls := fun k => He.ga K (l.exN.getD k ""), fresh := fun g => l.cc.fresh.contains g,
    T := l.lams.map fun t => ((He.cT K t.d.at_).2, lamQ t.d.qual) }
theorem nodup_inj {α β : Type} {f : α → β} : ∀ {xs : List α}, (xs.map f).Nodup → ∀ x ∈ xs, ∀ y ∈ xs, f x = f y → x = y
  | [], _, x, hx, _, _, _ => by cases hx
  | a :: xs, nd, x, hx, y, hy, e => by
    rw [List.map_cons, List.nodup_cons] at nd
    rcases List.mem_cons.mp hx with h1 | h1
    · rcases List.mem_cons.mp hy with h2 | h2
      · rw [h1, h2]
      · exact (nd.1 (List.mem_map.mpr ⟨y, h2, by rw [← e, h1]⟩)).elim
    · rcases List.mem_cons.mp hy with h2 | h2
      · exact (nd.1 (List.mem_map.mpr ⟨x, h1, by rw [e, h2]⟩)).elim
      · exact nodup_inj nd.2 x h1 y h2 e
theorem flat_reps {W : Wd} : ∀ {ds : List D}, ds.all flatD = true → ∀ (G : Hp) (m : List Addr), VReps W K G m ds ((ds.map toDv).map (He.Dv.v K))
  | [], _, G, m => VReps.nil
  | d :: ds, h, G, m => by
    rw [List.all_cons, Bool.and_eq_true] at h
    refine VReps.cons ?_ (flat_reps h.2 G m)
    have h := h.1
    cases d <;> simp only [flatD, Bool.false_eq_true] at h <;> simp only [toDv, He.Dv.v, VRep]
theorem base_of (KX : K.In h) (G : h.Ns mainGlobals mg) (c : He.SaysD l.fa l.fn K) (more : l.exb K = true) (h1 : l.ok1 = true) (h2 : l.ok2 = true) (hprg : ∀ t ∈ l.ts, l.tr.get t.f = some t.fd) (hgc : ∀ y g d, l.cc.gc.lookup y = some (g, d) → (y, g, d) ∈ l.cc.gc)
    (hT : ∀ t ∈ l.lams, TabB base mg (He.cT K t.d.at_).1 (He.cT K t.d.at_).2) : ∃ fD, Base (mkW l K fD) l.cc l.ts P w K mg base := by
  unfold LD.ok2 at h2
  simp only [Bool.and_eq_true, decide_eq_true_eq, List.all_eq_true, List.isEmpty_iff, Bool.not_eq_true'] at h2
  obtain ⟨⟨⟨⟨⟨⟨⟨⟨⟨⟨⟨⟨⟨⟨⟨a1, a2⟩, a3⟩, a4⟩, a5⟩, a6⟩, a7⟩, a8⟩, a9⟩, a10⟩, a11⟩, a12⟩, a13⟩, a14⟩, a15⟩, a16⟩ := h2
  unfold LD.ok1 at h1
  rw [List.all_eq_true] at h1
  have fac : ∀ f ∈ l.fa, f.ok K = true := fun f hf => c.facts hf
  have fa_gf : ∀ p ∈ l.cc.gf, He.Fa.glo p.1 ∈ l.fa := fun p hp => by
    unfold LD.fa faOf
    exact List.mem_append_left _ (List.mem_map.mpr ⟨p, hp, rfl⟩)
  have fa_2 : ∀ f ∈ ([He.Fa.glo l.cc.tbl, .cls l.cc.tbl, .mkr l.cc.tbl] : List He.Fa), f ∈ l.fa := fun f hf => by
    unfold LD.fa faOf
    exact List.mem_append_right _ (List.mem_append_left _ hf)
  have fa_3 : ∀ f ∈ [sN, sRanks, sAll, sRank], He.Fa.noat l.cc.tbl f ∈ l.fa := fun f hf => by
    unfold LD.fa faOf
    exact List.mem_append_right _ (List.mem_append_right _ (List.mem_append_left _ (List.mem_map.mpr ⟨f, hf, rfl⟩)))
  have fa_4 : ∀ p ∈ l.cc.ms, He.Fa.meth l.cc.tbl p.1 ∈ l.fa := fun p hp => by
    unfold LD.fa faOf
    exact List.mem_append_right _ (List.mem_append_right _ (List.mem_append_right _ (List.mem_append_left _ (List.mem_map.mpr ⟨p, hp, rfl⟩))))
  have fa_5 : ∀ p ∈ l.cc.gc, (match p.2.2 with | .int i => He.Fa.int p.1 i | _ => .glo p.1) ∈ l.fa := fun p hp => by
    unfold LD.fa faOf
    exact List.mem_append_right _ (List.mem_append_right _ (List.mem_append_right _ (List.mem_append_right _ (List.mem_append_left _ (List.mem_map.mpr ⟨p, hp, rfl⟩)))))
  have fa_6 : ∀ p ∈ l.cc.nob, He.Fa.free p ∈ l.fa := fun p hp => by
    unfold LD.fa faOf
    exact List.mem_append_right _ (List.mem_append_right _ (List.mem_append_right _ (List.mem_append_right _ (List.mem_append_right _ (List.mem_append_left _ (List.mem_map.mpr ⟨p, hp, rfl⟩))))))
  have fa_7 : ∀ p ∈ l.cc.ex, He.Fa.glo p.1 ∈ l.fa := fun p hp => by
    unfold LD.fa faOf
    exact List.mem_append_right _ (List.mem_append_right _ (List.mem_append_right _ (List.mem_append_right _ (List.mem_append_right _ (List.mem_append_right _ (List.mem_append_left _ (List.mem_map.mpr ⟨p, hp, rfl⟩)))))))
  have fa_8 : ∀ p ∈ l.cc.ex, He.Fa.exc p.1 ∈ l.fa := fun p hp => by
    unfold LD.fa faOf
    exact List.mem_append_right _ (List.mem_append_right _ (List.mem_append_right _ (List.mem_append_right _ (List.mem_append_right _ (List.mem_append_right _ (List.mem_append_right _ (List.mem_append_left _ (List.mem_map.mpr ⟨p, hp, rfl⟩))))))))
  have fa_9 : ∀ a b, a < 5 → b < 5 → He.Fa.exm (l.exN.getD a "") (l.exN.getD b "") (isBelow a b) ∈ l.fa := fun a b ha hb => by
    unfold LD.fa faOf
    exact List.mem_append_right _ (List.mem_append_right _ (List.mem_append_right _ (List.mem_append_right _ (List.mem_append_right _ (List.mem_append_right _ (List.mem_append_right _ (List.mem_append_right _ (List.mem_flatMap.mpr ⟨a, List.mem_range.mpr ha, List.mem_map.mpr ⟨b, List.mem_range.mpr hb, rfl⟩⟩))))))))
  have okt : ∀ t ∈ l.ts, t.Ok l.cc := fun t ht => DT.ok_of (h1 t ht)
  -- the function objects
  have ex1 : ∀ t ∈ l.ts, ∃ fd, FunD K t.d.name t.d.qual t.d.params t.d.body t.d.scope [] [] (He.fAd K t.d.at_) fd := fun t ht => by
    obtain ⟨fd, F⟩ := c.defs (d := t.d) (by unfold LD.fn; exact List.mem_cons_of_mem _ (List.mem_map.mpr ⟨t, ht, rfl⟩))
    have o := okt t ht
    refine ⟨fd, ?_⟩
    have e1 : t.d.dvs K = [] := by unfold He.DefD.dvs; rw [o.dfl]; rfl
    have e2 : t.d.kws K = [] := by unfold He.DefD.kws; rw [o.kwd]; rfl
    rw [e1, e2] at F
    exact F
  obtain ⟨fdI, FI⟩ := c.defs (d := l.dI) (by unfold LD.fn; exact List.mem_cons_self)
  have e1 : l.dI.dvs K = [] := by unfold He.DefD.dvs; rw [a7]; rfl
  have e2 : l.dI.kws K = [] := by unfold He.DefD.kws; rw [a8]; rfl
  rw [e1, e2] at FI
  have ch : ∀ f, ∃ fd, ∀ t ∈ l.ts, t.f = f → FunD K t.d.name t.d.qual t.d.params t.d.body t.d.scope [] [] (He.fAd K t.d.at_) fd := fun f => by
    by_cases hf : ∃ t ∈ l.ts, t.f = f
    · obtain ⟨t, ht, rfl⟩ := hf
      obtain ⟨fd, F⟩ := ex1 t ht
      refine ⟨fd, fun u hu e => ?_⟩
      have : u = t := nodup_inj a2 u hu t ht e
      subst this
      exact F
    · exact ⟨fdI, fun t ht e => absurd ⟨t, ht, e⟩ hf⟩
  obtain ⟨fD, hfD⟩ := Classical.axiomOfChoice ch
  have tbl : TblOk (mkW l K fD) K := ⟨He.cls_ok (fac _ (fa_2 _ (by simp))), fun f hf => He.noat_ok (fac _ (fa_3 f hf))⟩
  have fAt : ∀ t ∈ l.ts, (mkW l K fD).fA t.f = He.fAd K t.d.at_ := fun t ht => by
    show He.fAd K (atOf l.ts t.f) = _
    rw [(at_of a2 ht).1]
  have hI : He.fAd K l.dI.at_ = (mkW l K fD).tI := by
    show He.fAd K l.dI.at_ = He.ma K (He.ga K l.cc.tbl) "__init__"
    rw [a6]; rfl
  rw [hI] at FI
  refine ⟨fD, hprg, fun f hf => any_at (a1 f (Tr.get_mem hf)), fun t ht => ?_, fun t ht => (at_of a2 ht).2, fun g => rfl, okt, tbl, He.mkr_ok (fac _ (fa_2 _ (by simp))), ⟨fdI, iNs, ok_init FI a3 a4 tbl rfl, binds_of FI a5 (by decide +kernel)⟩,
    fun y g hy => ?_, fun y g d hy => ?_, He.glo_ok KX G (fac _ (fa_2 _ (by simp))), fun y g hy => ?_, fun y hy => He.free_ok KX G (fac _ (fa_6 y hy)), fun y j hy => ?_, fun k d hk hd => ?_, fun g hg => ?_, fun t ht hl => ?_⟩
  · rw [fAt t ht]
    exact hfD t.f t ht rfl
  · have hm := PySem.mem_of_lookup hy
    obtain ⟨q1, q2⟩ := a9 _ hm
    refine ⟨?_, ?_⟩
    · show _ = some (Value.ref (He.fAd K (atOf l.ts g)))
      rw [q1]
      exact He.glo_ok KX G (fac _ (fa_gf _ hm))
    · obtain ⟨t, ht, rfl⟩ := any_at q2
      show (l.tr.get t.f).isSome = true
      rw [hprg t ht]; rfl
  · have hm := hgc y g d hy
    have q := a10 _ hm
    have f5 := fac _ (fa_5 _ hm)
    unfold gcOk at q
    dsimp only at q f5
    split at q
    · rename_i i
      obtain ⟨t, e⟩ := He.int_ok KX G f5
      exact ⟨.int i, _, e, ⟨t, rfl⟩, fun _ _ => by simp only [VRep]⟩
    · rename_i ds
      have q2 := more
      unfold LD.exb at q2
      rw [Bool.and_eq_true] at q2
      have q3 := q2.1
      unfold gcB at q3
      rw [List.all_eq_true] at q3
      have q4 := q3 _ hm
      dsimp only at q4
      rw [Bool.and_eq_true] at q4
      refine ⟨.ref (He.ga K y), _, He.glo_ok KX G f5, rfl, fun G' m => ?_⟩
      simp only [VRep]
      exact ⟨_, _, rfl, He.tupB_ok q4.2 G', flat_reps q4.1 G' m⟩
    · rename_i i
      simp only [Bool.and_eq_true, decide_eq_true_eq] at q
      refine ⟨.ref (He.ga K y), _, He.glo_ok KX G f5, rfl, fun G' m => ?_⟩
      obtain ⟨t, ht, rfl⟩ := any_at q.2
      simp only [VRep]
      refine ⟨?_, ?_⟩
      · show _ = V.ref (He.fAd K (atOf l.ts t.f))
        rw [q.1]; rfl
      · show (l.tr.get t.f).isSome = true
        rw [hprg t ht]; rfl
    · cases q
  · have hm := PySem.mem_of_lookup hy
    obtain ⟨⟨q1, q2⟩, q3⟩ := a11 _ hm
    refine ⟨?_, ?_, q3⟩
    · show Meth K (He.ga K l.cc.tbl) y (He.fAd K (atOf l.ts g))
      rw [q1]
      exact He.meth_ok (fac _ (fa_4 _ hm))
    · obtain ⟨t, ht, rfl⟩ := any_at q2
      show (l.tr.get t.f).isSome = true
      rw [hprg t ht]; rfl
  · have hm := PySem.mem_of_lookup hy
    obtain ⟨q1, q2⟩ := a12 _ hm
    dsimp only at q1 q2
    obtain ⟨x1, x2, x3, x4⟩ := He.exc_ok (fac _ (fa_8 _ hm))
    dsimp only at x1 x2 x3 x4
    have g1 := He.glo_ok KX G (fac _ (fa_7 _ hm))
    dsimp only at g1
    refine ⟨q1, He.veBase, "ValueError", "ValueError.__new__", "ValueError.__init__", F.excBase_ValueError, ?_⟩
    show PySem.W.excIn K (He.ga K (l.exN.getD j "")) He.veBase "ValueError.__new__" = true ∧ mg y = some (.ref (He.ga K (l.exN.getD j ""))) ∧ PySem.W.keepIn K (.ref (He.ga K (l.exN.getD j ""))) = true ∧ PySem.W.subIn K (.ref (He.ga K (l.exN.getD j ""))) (.type "BaseException") = some true ∧ PySem.W.typeIn K (.ref (He.ga K (l.exN.getD j ""))) = some (.type "type")
    rw [q2]
    exact ⟨x1, g1, x2, x3, x4⟩
  · exact He.exm_ok (fac _ (fa_9 k d hk hd))
  · obtain ⟨q1, q2⟩ := a13 g hg
    refine ⟨q1, ?_⟩
    obtain ⟨t, ht, e⟩ := List.any_eq_true.mp q2
    rw [Bool.and_eq_true] at e
    exact ⟨t, ht, by simpa using e.1, e.2⟩
  · have htl : t ∈ l.lams := List.mem_filter.mpr ⟨ht, hl⟩
    obtain ⟨oc, od, dV, kV, doc, pm, an, cdv, ct, osl, hfd, lk, hcd, _, _⟩ := (hfD t.f t ht rfl).ex
    obtain ⟨cd, hcd2⟩ := He.codeIn_ref hcd
    have hc : He.codeOf K t.d.at_ = cd := He.codeOf_eq lk (by rw [hfd]; exact hcd2)
    refine ⟨(He.cT K t.d.at_).1, (He.cT K t.d.at_).2, lamQ t.d.qual, hT t htl, ?_, List.mem_map.mpr ⟨t, htl, rfl⟩, fun p hp e => ?_, fun L f cd' => rfl⟩
    · show (fD t.f).code = .ref (He.codeOf K t.d.at_)
      rw [hc, hfd]; exact hcd2
    · obtain ⟨u, hu, rfl⟩ := List.mem_map.mp hp
      dsimp only at e ⊢
      have q2 := more
      unfold LD.exb at q2
      rw [Bool.and_eq_true, decide_eq_true_eq] at q2
      have q3 := q2.2
      unfold LD.tf at q3
      rw [List.map_map] at q3
      have : u = t := nodup_inj q3 u hu t htl e
      rw [this]
end
end Fw
end
section
set_option Elab.async false
set_option linter.all false
set_option maxRecDepth 100000
set_option maxHeartbeats 4000000
/-! Fw.Head: a law's end -/
namespace Fw
open PySem PySem.Spec PyProof.Rows L2 LamX
theorem hasTs {h : Heap} {l : LD} {m : Nat} {w : World} {K : PySem.W.Frag} (c : He.SaysX l.fa l.fn [] l.tf l.exb w h K) : He.SaysD l.fa l.fn K := He.SaysT.d c.t
theorem law_end {l : LD} {ol : PySem.W.OpenLaw} {q : Program} {loose : List PySem.Str} {XP : (PySem.Str → Option Value) → Heap → Prop} {d : DefRec} {m n : Nat} (hn : ol.most = some 63) (hdf : d.params.defaults = []) (hname : d.name = ("law" : PySem.Str)) (hr : Room (n + 6) callerA)
    (h1 : l.ok1 = true) (h2 : l.ok2 = true) (hprg : ∀ t ∈ l.ts, l.tr.get t.f = some t.fd)
    (hlaw : He.Fa.glo ("law" : PySem.Str) ∈ l.fa) (hgc : ∀ y g d, l.cc.gc.lookup y = some (g, d) → (y, g, d) ∈ l.cc.gc)
    (hrun : ∀ ns : List Int, ns.length ≤ 63 → (∀ z ∈ ns, Builtin.Int.intBits z ≤ 1048576) → ∃ Z, run l.tr.get n l.law [.scr ns] none [] = .ok (.bl true) Z) :
    PySem.W.WalkO q loose XP (He.hookX m l.fa l.fn [] l.tf l.exb).says ol.row.toRowW d [] (fun f vs => PySem.call f vs) := by
  refine LamX.walk_ofTsE (n := 63) (k := n + 6) (x := "script") (CX := fun w => L2.CX ol.prog w) hn (by decide) hdf hr (fun w mg fa h Y G hmg => ?_) (fun w H s e s' z => ?_)
  · obtain ⟨K, KX, c⟩ := Y
    have cd : He.SaysD l.fa l.fn K := He.SaysT.d c.t
    have h2' := h2
    unfold LD.ok2 at h2'
    simp only [Bool.and_eq_true, decide_eq_true_eq, List.all_eq_true, List.isEmpty_iff, Bool.not_eq_true'] at h2'
    obtain ⟨⟨⟨⟨⟨⟨⟨⟨⟨⟨⟨⟨⟨⟨⟨a1, a2⟩, a3⟩, a4⟩, a5⟩, a6⟩, a7⟩, a8⟩, a9⟩, a10⟩, a11⟩, a12⟩, a13⟩, a14⟩, a15⟩, a16⟩ := h2'
    obtain ⟨t, ht, e⟩ := List.any_eq_true.mp a15
    simp only [Bool.and_eq_true, decide_eq_true_eq, beq_iff_eq] at e
    obtain ⟨el, eps⟩ := e
    have o := DT.ok_of (List.all_eq_true.mp h1 t ht)
    obtain ⟨fd, F1⟩ := cd.defs (d := t.d) (by unfold LD.fn; exact List.mem_cons_of_mem _ (List.mem_map.mpr ⟨t, ht, rfl⟩))
    have hat : t.d.at_ = ((("law" : PySem.Str), none) : He.Defn) := by rw [← (at_of a2 ht).1, el]; exact a14
    rw [hat] at F1
    have F1 : FunD K t.d.name t.d.qual t.d.params t.d.body t.d.scope (t.d.dvs K) (t.d.kws K) (He.ga K "law") fd := F1
    have e1 : t.d.dvs K = [] := by unfold He.DefD.dvs; rw [o.dfl]; rfl
    have e2 : t.d.kws K = [] := by unfold He.DefD.kws; rw [o.kwd]; rfl
    rw [e1, e2] at F1
    -- the law's name
    have hgl : He.Fa.glo ("law" : PySem.Str) ∈ l.fa := hlaw
    have hg := He.glo_ok KX G (cd.facts hgl)
    have hfa : fa = He.ga K "law" := by
      rw [hname] at hmg
      rw [hg] at hmg
      exact (Value.ref.inj (Option.some.inj hmg)).symm
    subst hfa
    refine ⟨K, KX, fd, l.lams.map fun t => He.cT K t.d.at_, spLaw (mkW l K fun _ => fd) K, fun p hp => ?_, fun p hp => ?_, fun p hp => ?_, fun s u => ?_, fun H a ns hl hb hH hS => ?_, fun base hKb hGb hTB => ?_⟩
    · obtain ⟨t, ht, rfl⟩ := List.mem_map.mp hp
      exact c.empty _ (List.mem_map.mpr ⟨t, ht, rfl⟩)
    · obtain ⟨t, ht, rfl⟩ := List.mem_map.mp hp
      exact c.out _ (List.mem_map.mpr ⟨t, ht, rfl⟩)
    · obtain ⟨t, ht, rfl⟩ := List.mem_map.mp hp
      exact PySem.W.codeHd_of_K KX (c.hd _ (List.mem_map.mpr ⟨t, ht, rfl⟩))
    · refine FunD.bindsA F1 (ps := [("script" : PySem.Str)]) (fun kV doc pm an cdv ct us hl => ?_) s [u] rfl
      have ha := o.args
      unfold argsB at ha
      split at ha
      · rename_i as hp
        have e := of_decide_eq_true ha
        rw [eps] at e
        rw [← e] at hl ⊢
        rw [hp]
        exact bind_gen (by rw [e]; simp) (by simpa using hl)
      · cases ha
    · refine ⟨a, ns, rfl, hS, hl, hb, fun p hp => ?_, fun H' => rfl⟩
      obtain ⟨t, ht, rfl⟩ := List.mem_map.mp hp
      refine ⟨#[], hH _ (List.mem_map.mpr ⟨t, ht, rfl⟩), trivial, fun pos cv z => ?_⟩
      simp [codeAmong] at z
    · obtain ⟨fD, B⟩ := base_of (P := ol.prog) (w := w) (base := base) KX G cd c.more h1 h2 hprg hgc (fun t ht => hTB _ (List.mem_map.mpr ⟨t, ht, rfl⟩))
      have B1 := B.fun_ t ht
      have hA : (mkW l K fD).fA t.f = He.ga K "law" := by
        show He.fAd K (atOf l.ts t.f) = _
        rw [(at_of a2 ht).1, hat]; rfl
      rw [hA] at B1
      obtain ⟨oc, od, _, _, _, _, _, _, _, osl, _, lk, _⟩ := F1.ex
      obtain ⟨oc', od', _, _, _, _, _, _, _, osl', _, lk', _⟩ := B1.ex
      have efd : (mkW l K fD).fD t.f = fd := by
        rw [lk] at lk'
        cases lk'
        rfl
      have hlw := B.law (n := n) (l := l.law) (by show (l.tr.get l.law).isSome = true; rw [← el, hprg t ht]; rfl) (by show l.cc.fresh.contains l.law = false; exact a16) (by show (psOf l.ts l.law).length = 1; rw [← el, (at_of a2 ht).2, eps]; rfl) hrun
      have hps : (mkW l K fD).ps l.law = [("script" : PySem.Str)] := by
        show psOf l.ts l.law = _
        rw [← el, (at_of a2 ht).2, eps]
      rw [← el] at hlw
      rw [hA, efd] at hlw
      rw [← el] at hps
      rw [hps] at hlw
      exact hlw
  · obtain ⟨_, _, _, _, _, _, _, _, _, _, _, _, z⟩ := z
    exact z
end Fw
end
section
set_option Elab.async false
set_option linter.all false
set_option maxRecDepth 100000
set_option maxHeartbeats 4000000
/-! Fw.Head: the Hook once more, whose part of the heap is found quickly -/
namespace Fw
open PySem PySem.Spec PyProof.Rows L2 LamX
/-- new addresses, each once: seen holds a bit for each -/
def addsF {β : Type} : List Addr → Nat → List Addr → List Addr → (List Addr → List Addr → Nat → β) → β
  | [], seen, new, all, k => k new all seen
  | a :: r, seen, new, all, k => HandSHeadRun.frNat a fun a => match Nat.beq (Nat.land (Nat.shiftRight seen a) 1) 0 with
    | true => HandSHeadRun.frNat (Nat.lor seen (Nat.shiftLeft 1 a)) fun seen => addsF r seen (a :: new) (a :: all) k
    | false => addsF r seen new all k
def lvF (g : Addr → Option Obj) : Nat → List Addr → Nat → List Addr → List Addr
  | 0, _, _, all => all
  | n + 1, fr, seen, all => addsF (fr.flatMap fun a => match g a with | some o => He.refsD o | none => []) seen [] all fun new all seen => lvF g n new seen all
def asF (g : Addr → Option Obj) (n : Nat) : List Addr := lvF g n [mainGlobals] (Nat.shiftLeft 1 mainGlobals) [mainGlobals]
def frF {β : Type} (g : Addr → Option Obj) : List Addr → (PySem.W.Frag → β) → β
  | [], k => k []
  | a :: r, k => HandSHeadRun.frNat a fun a => match g a with
    | none => frF g r k
    | some o => match He.emptyTab o with
      | true => frF g r k
      | false => frF g r fun K => k ((a, o) :: K)
theorem frF_eq {β : Type} (g : Addr → Option Obj) : ∀ (as : List Addr) (k : PySem.W.Frag → β), frF g as k = k (He.frT g as)
  | [], k => rfl
  | a :: r, k => by
    rw [frF, HandSHeadRun.frNat_eq]
    have e : He.frT g (a :: r) = (match g a with
      | none => He.frT g r
      | some o => match He.emptyTab o with
        | true => He.frT g r
        | false => (a, o) :: He.frT g r) := by
      unfold He.frT He.frG
      rw [List.filterMap_cons]
      cases g a with
      | none => rfl
      | some o =>
        simp only [Option.map_some, List.filter_cons]
        cases He.emptyTab o <;> rfl
    rw [e]
    cases g a with
    | none => exact frF_eq g r k
    | some o =>
      dsimp only
      cases He.emptyTab o with
      | true => exact frF_eq g r k
      | false => exact frF_eq g r _
def obsF (n : Nat) (fa : List He.Fa) (fn : List He.DefD) (ts : List He.Tab) (tf : List He.Defn) (ex : PySem.W.Frag → Bool) (g : Addr → Option Obj) : He.AlX := frF g (asF g n) fun K => (He.obsT fa fn ts K, ex K && He.tabsB g tf K)
theorem saysF_of {n : Nat} {fa : List He.Fa} {fn : List He.DefD} {ts : List He.Tab} {tf : List He.Defn} {ex : PySem.W.Frag → Bool} {w : World} {h : Heap} (e : obsF n fa fn ts tf ex h.get? = He.valX fn ts w) : He.SaysX fa fn ts tf ex w h (He.frT h.get? (asF h.get? n)) := by
  unfold obsF at e
  rw [frF_eq] at e
  generalize hK : asF h.get? n = as at e ⊢
  have e1 : He.obsT fa fn ts (He.frT h.get? as) = He.valT fn ts w := congrArg Prod.fst e
  have e2 : (ex (He.frT h.get? as) && He.tabsB h.get? tf (He.frT h.get? as)) = true := congrArg Prod.snd e
  rw [Bool.and_eq_true] at e2
  have at_ : ∀ p ∈ tf, PySem.W.codeHdIn (He.frT h.get? as) (He.cT (He.frT h.get? as) p).1 (He.cT (He.frT h.get? as) p).2 = true ∧ ∃ o, h.get? (He.cT (He.frT h.get? as) p).2 = some o ∧ He.emptyTab o = true := fun p hp => by
    have z := List.all_eq_true.mp e2.2 p hp
    rw [Bool.and_eq_true] at z
    refine ⟨z.1, ?_⟩
    have z2 := z.2
    split at z2
    · rename_i o q
      exact ⟨o, q, z2⟩
    · cases z2
  refine ⟨e1, e2.1, fun p hp => (at_ p hp).1, fun p hp => ?_, fun p hp => ?_⟩
  · obtain ⟨_, o, q, z⟩ := at_ p hp
    exact He.frT_none q z
  · obtain ⟨_, o, q, z⟩ := at_ p hp
    rw [q, He.emptyTab_eq z]
def hookF (n : Nat) (fa : List He.Fa) (fn : List He.DefD) (ts : List He.Tab) (tf : List He.Defn) (ex : PySem.W.Frag → Bool) : PySem.W.Hook where
  α := He.AlX
  obs := fun s => obsF n fa fn ts tf ex s.heap.get?
  val := fun w => He.valX fn ts w
  says := (He.hookX n fa fn ts tf ex).says
  of := fun _ _ e => ⟨_, He.frT_in, saysF_of e⟩
  keeps := (He.hookX n fa fn ts tf ex).keeps
theorem obsF_eq {n : Nat} {fa : List He.Fa} {fn : List He.DefD} {ts : List He.Tab} {tf : List He.Defn} {ex : PySem.W.Frag → Bool} {g : Addr → Option Obj} {s : Shared} (h : ∀ a, g a = s.heap.get? a) : obsF n fa fn ts tf ex g = (hookF n fa fn ts tf ex).obs s := by
  have e : g = s.heap.get? := funext h
  rw [e]; rfl
/-- the head's run from its three looks -/
theorem run_parts {r : PySem.W.OpenRow} {q : Program} {H : PySem.W.Hook} {ob : PySem.W.SharedT → H.α} {M : Nat} {loose : List PySem.Str} {w : World}
    (h1 : ∀ os : OsState, ((HandSHeadRun.endF (HandSHeadRun.stepQ (HandSHeadRun.denQ HandSHeadRun.tabQ) r.prog w) M r.prog w os).map fun s => HandSHeadRun.looksF r.prog (PySem.W.boot_heap w.params) s.abs) = some true)
    (h2 : ∀ os : OsState, ((HandSHeadRun.endF (HandSHeadRun.stepQ (HandSHeadRun.denQ HandSHeadRun.tabQ) r.prog w) M r.prog w os).map fun s => HandSHeadRun.seenQ q loose (importedModules r.prog.main.body) (fun s => PySem.W.xlAt q [] s && PySem.W.recOk r.toRowW.records s) s.abs) = some (PySem.W.openGood q loose))
    (h3 : ∀ os : OsState, ((HandSHeadRun.endF (HandSHeadRun.stepQ (HandSHeadRun.denQ HandSHeadRun.tabQ) r.prog w) M r.prog w os).map ob) = some (H.val w)) : HandSHeadRun.RunEq r q H ob M loose w := fun os => by
  have a := h1 os
  have b := h2 os
  have d := h3 os
  cases e : HandSHeadRun.endF (HandSHeadRun.stepQ (HandSHeadRun.denQ HandSHeadRun.tabQ) r.prog w) M r.prog w os with
  | none => rw [e] at a; cases a
  | some s =>
    rw [e] at a b d
    simp only [Option.map_some, Option.some.injEq] at a b d ⊢
    rw [a, b, d]
end Fw
end
section
namespace Fw.K01
open Fw
open PySem (Str)
/-- 0 -/
def f_checks_is_integer : FD := ⟨1, 1, false, [.retn (.and (.bi .isInt [.var 0]) (.not (.bi .isBool [.var 0])))]⟩
def f_checks_is_integer_N : List Str := ["thing"]
/-- 1 -/
def f_checks_is_below : FD := ⟨2, 2, false, [.retn (.and (.call 0 [.var 0]) (.chain .le .lt (.lit (.int 0)) (.var 0) (.var 1)))]⟩
def f_checks_is_below_N : List Str := ["thing", "bound"]
/-- 2 -/
def f_checks_is_between : FD := ⟨3, 3, false, [.retn (.and (.call 0 [.var 0]) (.chain .le .le (.var 1) (.var 0) (.var 2)))]⟩
def f_checks_is_between_N : List Str := ["thing", "low", "high"]
/-- 3 -/
def f_checks_is_set : FD := ⟨2, 4, false, [.ifs (.or (.not (.bi .isTuple [.var 0])) (.not (.bi .all [.comp (.nm 3) .seq [.var 0] [] (.call 1 [.var 3, .var 1])]))) [.retn (.lit (.bl false))] [], .retn (.bi .all [.comp (.nm 2) .rng [.lit (.int 1), .bi .len [.var 0]] [] (.cmp .lt (.sub (.var 0) (.bin .sub (.var 2) (.lit (.int 1)))) (.sub (.var 0) (.var 2)))])]⟩
def f_checks_is_set_N : List Str := ["thing", "bound", "at", "item"]
/-- 4 -/
def f_checks_is_family : FD := ⟨2, 4, false, [.ifs (.or (.not (.bi .isTuple [.var 0])) (.not (.bi .all [.comp (.nm 3) .seq [.var 0] [] (.call 3 [.var 3, .var 1])]))) [.retn (.lit (.bl false))] [], .retn (.bi .all [.comp (.nm 2) .rng [.lit (.int 1), .bi .len [.var 0]] [] (.cmp .lt (.sub (.var 0) (.bin .sub (.var 2) (.lit (.int 1)))) (.sub (.var 0) (.var 2)))])]⟩
def f_checks_is_family_N : List Str := ["thing", "bound", "at", "item"]
/-- 5 -/
def f_checks_is_net : FD := ⟨2, 6, false, [.ifs (.or (.not (.call 2 [.var 0, .lit (.int 1), .gl 0 (.int 8)])) (.or (.not (.bi .isTuple [.var 1])) (.cmp .gt (.bi .len [.var 1]) (.gl 1 (.int 10))))) [.retn (.lit (.bl false))] [], .for (.nm 2) .seq [.var 1] [.ifs (.or (.not (.bi .isTuple [.var 2])) (.or (.cmp .ne (.bi .len [.var 2]) (.lit (.int 2))) (.not (.bi .all [.comp (.nm 5) .seq [.var 2] [] (.call 1 [.var 5, .var 0])])))) [.retn (.lit (.bl false))] []], .retn (.bi .all [.comp (.tp [.nm 3, .nm 4]) .seq [.var 1] [] (.cmp .le (.var 3) (.var 4))])]⟩
def f_checks_is_net_N : List Str := ["v", "lines", "line", "first", "second", "place"]
/-- 6 -/
def f_checks_are_vectors : FD := ⟨2, 6, false, [.ifs (.or (.not (.call 0 [.var 0])) (.or (.cmp .nin (.var 0) (.gl 2 (.ctup [.int 0, .int 2, .int 3, .int 5]))) (.or (.not (.bi .isTuple [.var 1])) (.not (.chain .le .le (.lit (.int 1)) (.bi .len [.var 1]) (.gl 1 (.int 10))))))) [.retn (.lit (.bl false))] [], .for (.nm 2) .seq [.var 1] [.ifs (.or (.not (.bi .isTuple [.var 2])) (.or (.not (.chain .le .le (.lit (.int 1)) (.bi .len [.var 2]) (.gl 3 (.int 6)))) (.cmp .ne (.bi .len [.var 2]) (.bi .len [.sub (.var 1) (.lit (.int 0))])))) [.retn (.lit (.bl false))] [], .asg (.tp [.nm 3, .nm 4]) (.ite (.cmp .eq (.var 0) (.lit (.int 0))) (.tup [.neg (.gl 4 (.int 9)), .gl 4 (.int 9)]) (.tup [.lit (.int 0), .bin .sub (.var 0) (.lit (.int 1))])), .ifs (.not (.bi .all [.comp (.nm 5) .seq [.var 2] [] (.call 2 [.var 5, .var 3, .var 4])])) [.retn (.lit (.bl false))] []], .retn (.lit (.bl true))]⟩
def f_checks_are_vectors_N : List Str := ["q", "rows", "row", "low", "high", "number"]
/-- 7 -/
def f_checks_are_bounds : FD := ⟨2, 8, false, [.ifs (.or (.not (.call 2 [.var 0, .lit (.int 1), .gl 1 (.int 10)])) (.or (.not (.bi .isTuple [.var 1])) (.cmp .gt (.bi .len [.var 1]) (.gl 5 (.int 10))))) [.retn (.lit (.bl false))] [], .for (.nm 2) .seq [.var 1] [.ifs (.or (.not (.bi .isTuple [.var 2])) (.or (.cmp .ne (.bi .len [.var 2]) (.lit (.int 2))) (.not (.call 3 [.sub (.var 2) (.lit (.int 0)), .var 0])))) [.retn (.lit (.bl false))] [], .ifs (.not (.call 2 [.sub (.var 2) (.lit (.int 1)), .lit (.int 0), .gl 6 (.int 20)])) [.retn (.lit (.bl false))] []], .for (.tp [.nm 3, .nm 4]) .seq [.var 1] [.for (.tp [.nm 5, .nm 4]) .seq [.var 1] [.asg (.nm 6) (.bi .len [.comp (.nm 7) .seq [.var 3] [.cmp .inn (.var 7) (.var 5)] (.var 7)]), .ifs (.cmp .nin (.var 6) (.tup [.lit (.int 0), .bi .len [.var 3], .bi .len [.var 5]])) [.retn (.lit (.bl false))] []]], .retn (.lit (.bl true))]⟩
def f_checks_are_bounds_N : List Str := ["n", "rows", "row", "first", "_", "second", "many", "item"]
/-- 8 -/
def f_checks_are_choices : FD := ⟨2, 3, false, [.ifs (.or (.not (.call 2 [.var 0, .lit (.int 1), .gl 1 (.int 10)])) (.or (.not (.bi .isTuple [.var 1])) (.cmp .gt (.bi .len [.var 1]) (.gl 5 (.int 10))))) [.retn (.lit (.bl false))] [], .retn (.bi .all [.comp (.nm 2) .seq [.var 1] [] (.call 3 [.var 2, .var 0])])]⟩
def f_checks_are_choices_N : List Str := ["n", "sets", "some"]
/-- 9 -/
def f_checks_check_set : FD := ⟨2, 2, false, [.ifs (.not (.call 3 [.var 1, .var 0])) [.raise 2] []]⟩
def f_checks_check_set_N : List Str := ["n", "some"]
/-- 10 -/
def f_checks_check_weights : FD := ⟨2, 3, false, [.ifs (.or (.not (.bi .isTuple [.var 1])) (.cmp .ne (.bi .len [.var 1]) (.var 0))) [.raise 3] [], .ifs (.not (.bi .all [.comp (.nm 2) .seq [.var 1] [] (.call 2 [.var 2, .neg (.gl 7 (.int 1000)), .gl 7 (.int 1000)])])) [.raise 3] []]⟩
def f_checks_check_weights_N : List Str := ["n", "weights", "weight"]
/-- 11 -/
def f_checks_check_few : FD := ⟨2, 2, false, [.ifs (.cmp .gt (.fld (.var 0) 0) (.var 1)) [.raise 1] []]⟩
def f_checks_check_few_N : List Str := ["table", "most"]
/-- 12 -/
def f_tables_mask_of : FD := ⟨1, 2, false, [.retn (.bi .sum [.comp (.nm 1) .seq [.var 0] [] (.bin .shl (.lit (.int 1)) (.var 1))])]⟩
def f_tables_mask_of_N : List Str := ["some", "item"]
/-- 13 -/
def f_tables_set_of : FD := ⟨1, 2, false, [.retn (.bi .tuple [.comp (.nm 1) .rng [.bi .bitLen [.var 0]] [.cmp .eq (.bin .and (.bin .shr (.var 0) (.var 1)) (.lit (.int 1))) (.lit (.int 1))] (.var 1)])]⟩
def f_tables_set_of_N : List Str := ["mask", "item"]
/-- 14 -/
def f_tables_many_of : FD := ⟨1, 1, false, [.retn (.bi .len [.call 13 [.var 0]])]⟩
def f_tables_many_of_N : List Str := ["mask"]
/-- 15 -/
def f_tables_by_free : FD := ⟨2, 6, false, [.asg (.nm 2) (.newr (.lst [.lit (.int 0)])), .for (.nm 3) .rng [.lit (.int 1), .bin .shl (.lit (.int 1)) (.var 0)] [.asg (.nm 4) (.bi .max [.comp (.nm 5) .seq [.call 13 [.var 3]] [] (.sub (.var 2) (.bin .xor (.var 3) (.bin .shl (.lit (.int 1)) (.var 5))))]), .app (.var 2) (.ite (.and (.cmp .eq (.var 4) (.bin .sub (.call 14 [.var 3]) (.lit (.int 1)))) (.clo 1 [.call 13 [.var 3]])) (.bin .add (.var 4) (.lit (.int 1))) (.var 4))], .retn (.mk [.var 0, .frz 2])]⟩
def f_tables_by_free_N : List Str := ["n", "is_free", "ranks", "mask", "best", "item"]
/-- 67 -/
def f_tables_has_no_ring : FD := ⟨3, 8, false, [.never]⟩
def f_tables_has_no_ring_N : List Str := ["v", "lines", "some", "names", "item", "first", "second", "name"]
/-- 17 -/
def f_tables_is_exchange : FD := ⟨1, 1, false, [.retn (.and (.cmp .gt (.bi .len [.var 0]) (.lit (.int 0))) (.cmp .is (.call 16 [.var 0]) (.lit (.non))))]⟩
def f_tables_is_exchange_N : List Str := ["rows"]
/-- 16 -/
def f_tables_first_break : FD := ⟨1, 10, false, [.asg (.nm 1) (.dcomp true (.nm 5) .seq [.var 0] (.var 5) (.call 12 [.var 5])), .asg (.nm 2) (.dcomp false (.nm 5) .seq [.var 0] (.sub (.var 1) (.var 5)) (.lit (.bl true))), .for (.nm 3) .seq [.var 0] [.for (.nm 4) .seq [.var 0] [.asg (.nm 6) (.comp (.nm 9) .seq [.var 4] [.not (.bin .and (.bin .shr (.sub (.var 1) (.var 3)) (.var 9)) (.lit (.int 1)))] (.bin .shl (.lit (.int 1)) (.var 9))), .for (.nm 7) .seq [.var 3] [.asg (.nm 8) (.bin .xor (.sub (.var 1) (.var 3)) (.bin .shl (.lit (.int 1)) (.var 7))), .ifs (.not (.bin .and (.bin .shr (.sub (.var 1) (.var 4)) (.var 7)) (.lit (.int 1)))) [.ifs (.not (.bi .any [.comp (.nm 9) .seq [.var 6] [] (.cmp .inn (.bin .or (.var 8) (.var 9)) (.var 2))])) [.retn (.tup [.var 3, .var 4, .var 7])] []] []]]], .retn (.lit (.non))]⟩
def f_tables_first_break_N : List Str := ["rows", "masks", "there", "one", "other", "row", "new", "item", "left", "thing"]
/-- 20 -/
def f_tables_table_of : FD := ⟨1, 1, false, [.ifs (.cmp .gt (.call 18 [.var 0, .lit (.int 0)]) (.gl 8 (.int 20))) [.raise 1] [], .retn (.call 19 [.var 0])]⟩
def f_tables_table_of_N : List Str := ["told"]
/-- 18 -/
def f_tables_heads_of : FD := ⟨2, 2, false, [.ifs (.or (.cmp .gt (.var 1) (.gl 8 (.int 20))) (.or (.not (.bi .isTuple [.var 0])) (.or (.cmp .eq (.bi .len [.var 0]) (.lit (.int 0))) (.not (.bi .isStr [.sub (.var 0) (.lit (.int 0))]))))) [.raise 1] [], .ifs (.cmp .ne (.bi .len [.var 0]) (.ite (.cmp .eq (.sub (.var 0) (.lit (.int 0))) (.lit (.str ⟨#[100, 117, 97, 108]⟩))) (.lit (.int 2)) (.lit (.int 3)))) [.raise 1] [], .ifs (.cmp .inn (.sub (.var 0) (.lit (.int 0))) (.gl 9 (.ctup [.str ⟨#[98, 97, 115, 101, 115]⟩, .str ⟨#[110, 101, 116]⟩, .str ⟨#[118, 101, 99, 116, 111, 114, 115]⟩, .str ⟨#[99, 104, 111, 105, 99, 101, 115]⟩, .str ⟨#[98, 111, 117, 110, 100, 115]⟩, .str ⟨#[117, 110, 105, 102, 111, 114, 109]⟩]))) [.retn (.bin .add (.var 1) (.lit (.int 1)))] [], .ifs (.cmp .nin (.sub (.var 0) (.lit (.int 0))) (.tup [.lit (.str ⟨#[100, 117, 97, 108]⟩), .lit (.str ⟨#[119, 105, 116, 104, 111, 117, 116]⟩), .lit (.str ⟨#[111, 110, 116, 111]⟩), .lit (.str ⟨#[115, 117, 109]⟩), .lit (.str ⟨#[99, 117, 116]⟩), .lit (.str ⟨#[98, 111, 116, 104]⟩)])) [.raise 1] [], .asg (.nm 1) (.call 18 [.sub (.var 0) (.lit (.int 1)), .bin .add (.var 1) (.lit (.int 1))]), .retn (.ite (.cmp .inn (.sub (.var 0) (.lit (.int 0))) (.tup [.lit (.str ⟨#[115, 117, 109]⟩), .lit (.str ⟨#[98, 111, 116, 104]⟩)])) (.call 18 [.sub (.var 0) (.lit (.int 2)), .var 1]) (.var 1))]⟩
def f_tables_heads_of_N : List Str := ["told", "many"]
/-- 19 -/
def f_tables_made : FD := ⟨1, 2, false, [.asg (.nm 1) (.ite (.cmp .inn (.sub (.var 0) (.lit (.int 0))) (.gl 9 (.ctup [.str ⟨#[98, 97, 115, 101, 115]⟩, .str ⟨#[110, 101, 116]⟩, .str ⟨#[118, 101, 99, 116, 111, 114, 115]⟩, .str ⟨#[99, 104, 111, 105, 99, 101, 115]⟩, .str ⟨#[98, 111, 117, 110, 100, 115]⟩, .str ⟨#[117, 110, 105, 102, 111, 114, 109]⟩]))) (.call 21 [.var 0]) (.call 22 [.var 0, .call 19 [.sub (.var 0) (.lit (.int 1))]])), .ifs (.cmp .eq (.fld (.var 1) 0) (.lit (.int 0))) [.raise 1] [], .retn (.var 1)]⟩
def f_tables_made_N : List Str := ["told", "table"]
/-- 21 -/
def f_tables_plain_table : FD := ⟨1, 10, true, [.asg (.tp [.nm 1, .nm 2, .nm 3]) (.var 0), .ifs (.and (.cmp .eq (.var 1) (.lit (.str ⟨#[98, 97, 115, 101, 115]⟩))) (.and (.call 2 [.var 2, .lit (.int 1), .gl 1 (.int 10)]) (.and (.call 4 [.var 3, .var 2]) (.call 17 [.var 3])))) [.asg (.nm 4) (.comp (.nm 6) .seq [.var 3] [] (.call 12 [.var 6])), .retn (.mk [.var 2, .comp (.nm 7) .rng [.bin .shl (.lit (.int 1)) (.var 2)] [] (.bi .max [.comp (.nm 8) .seq [.var 4] [] (.call 14 [.bin .and (.var 7) (.var 8)])])])] [], .ifs (.and (.cmp .eq (.var 1) (.lit (.str ⟨#[110, 101, 116]⟩))) (.call 5 [.var 2, .var 3])) [.retn (.lam 15 [.bi .len [.var 3]] [5] (.call 67 [.var 2, .var 3, .var 5]))] [], .ifs (.and (.cmp .eq (.var 1) (.lit (.str ⟨#[118, 101, 99, 116, 111, 114, 115]⟩))) (.call 6 [.var 2, .var 3])) [.never] [], .ifs (.and (.cmp .eq (.var 1) (.lit (.str ⟨#[99, 104, 111, 105, 99, 101, 115]⟩))) (.call 8 [.var 2, .var 3])) [.never] [], .ifs (.and (.cmp .eq (.var 1) (.lit (.str ⟨#[98, 111, 117, 110, 100, 115]⟩))) (.call 7 [.var 2, .var 3])) [.never] [], .ifs (.and (.cmp .eq (.var 1) (.lit (.str ⟨#[117, 110, 105, 102, 111, 114, 109]⟩))) (.and (.call 2 [.var 3, .lit (.int 1), .gl 1 (.int 10)]) (.call 1 [.var 2, .bin .add (.var 3) (.lit (.int 1))]))) [.retn (.mk [.var 3, .comp (.nm 7) .rng [.bin .shl (.lit (.int 1)) (.var 3)] [] (.bi .min2 [.var 2, .call 14 [.var 7]])])] [], .raise 1]⟩
def f_tables_plain_table_N : List Str := ["told", "word", "one", "two", "masks", "some", "row", "mask", "base", "item"]
/-- 22 -/
def f_tables_made_table : FD := ⟨2, 6, false, [.asg (.nm 2) (.sub (.var 0) (.lit (.int 0))), .ifs (.cmp .eq (.var 2) (.lit (.str ⟨#[100, 117, 97, 108]⟩))) [.retn (.meth 23 (.var 1) [])] [], .ifs (.cmp .inn (.var 2) (.tup [.lit (.str ⟨#[119, 105, 116, 104, 111, 117, 116]⟩), .lit (.str ⟨#[111, 110, 116, 111]⟩)])) [.ifs (.not (.call 3 [.sub (.var 0) (.lit (.int 2)), .fld (.var 1) 0])) [.raise 1] [], .asg (.nm 4) (.call 12 [.sub (.var 0) (.lit (.int 2))]), .retn (.ite (.cmp .eq (.var 2) (.lit (.str ⟨#[119, 105, 116, 104, 111, 117, 116]⟩))) (.meth 24 (.var 1) [.var 4, .lit (.int 0)]) (.meth 24 (.var 1) [.lit (.int 0), .var 4]))] [], .ifs (.cmp .eq (.var 2) (.lit (.str ⟨#[99, 117, 116]⟩))) [.ifs (.not (.call 2 [.sub (.var 0) (.lit (.int 2)), .lit (.int 0), .fld (.var 1) 0])) [.raise 1] [], .retn (.mk [.fld (.var 1) 0, .comp (.nm 5) .seq [.fld (.var 1) 1] [] (.bi .min2 [.sub (.var 0) (.lit (.int 2)), .var 5])])] [], .asg (.nm 3) (.call 19 [.sub (.var 0) (.lit (.int 2))]), .ifs (.cmp .eq (.var 2) (.lit (.str ⟨#[115, 117, 109]⟩))) [.ifs (.cmp .gt (.bin .add (.fld (.var 1) 0) (.fld (.var 3) 0)) (.gl 1 (.int 10))) [.raise 1] [], .retn (.mk [.bin .add (.fld (.var 1) 0) (.fld (.var 3) 0), .comp (.nm 4) .rng [.bin .shl (.lit (.int 1)) (.bin .add (.fld (.var 1) 0) (.fld (.var 3) 0))] [] (.bin .add (.sub (.fld (.var 1) 1) (.bin .and (.var 4) (.fld (.var 1) 2))) (.sub (.fld (.var 3) 1) (.bin .shr (.var 4) (.fld (.var 1) 0))))])] [], .ifs (.cmp .ne (.fld (.var 1) 0) (.fld (.var 3) 0)) [.raise 1] [], .never]⟩
def f_tables_made_table_N : List Str := ["told", "first", "word", "second", "mask", "rank"]
/-- 25 -/
def f_told_size : FD := ⟨1, 1, false, [.retn (.fld (.call 20 [.var 0]) 0)]⟩
def f_told_size_N : List Str := ["M"]
/-- 27 -/
def f_told_bases : FD := ⟨1, 1, false, [.retn (.meth 26 (.call 20 [.var 0]) [])]⟩
def f_told_bases_N : List Str := ["M"]
/-- 28 -/
def f_told_plain : FD := ⟨1, 2, false, [.asg (.nm 1) (.call 20 [.var 0]), .retn (.tup [.lit (.str ⟨#[98, 97, 115, 101, 115]⟩), .fld (.var 1) 0, .meth 26 (.var 1) []])]⟩
def f_told_plain_N : List Str := ["M", "table"]
/-- 29 -/
def f_parts_alike_tables : FD := ⟨2, 3, false, [.never]⟩
def f_parts_alike_tables_N : List Str := ["first", "second", "kinds"]
/-- 30 -/
def f_parts_part_of : FD := ⟨2, 10, false, [.never]⟩
def f_parts_part_of_N : List Str := ["table", "other", "sets", "taken", "drawn", "away", "together", "mask", "left", "item"]
/-- 31 -/
def f_fields_small : FD := ⟨1, 2, false, [.asg (.nm 1) (.call 20 [.var 0]), .expr (.call 11 [.var 1, .gl 10 (.int 8)]), .retn (.var 1)]⟩
def f_fields_small_N : List Str := ["M", "table"]
/-- 32 -/
def f_fields_over : FD := ⟨2, 6, false, [.asg (.nm 2) (.call 31 [.var 0]), .ifs (.or (.not (.call 0 [.var 1])) (.cmp .nin (.var 1) (.tup [.lit (.int 2), .lit (.int 3)]))) [.raise 4] [], .never]⟩
def f_fields_over_N : List Str := ["M", "q", "table", "told", "row", "number"]
/-- 34 -/
def f_fields_every : FD := ⟨1, 1, false, [.retn (.call 33 [.call 31 [.var 0]])]⟩
def f_fields_every_N : List Str := ["M"]
/-- 33 -/
def f_fields_every_of : FD := ⟨1, 2, false, [.never]⟩
def f_fields_every_of_N : List Str := ["table", "told"]
/-- 35 -/
def f_fields_net_of : FD := ⟨1, 7, false, [.asg (.nm 1) (.call 31 [.var 0]), .asg (.nm 2) (.call 33 [.var 1]), .ifs (.cmp .eq (.sub (.var 2) (.lit (.int 0))) (.lit (.str ⟨#[112, 97, 114, 116]⟩))) [.retn (.var 2)] [], .never]⟩
def f_fields_net_of_N : List Str := ["M", "table", "told", "base", "rows", "v", "lines"]
/-- 36 -/
def f_fields_alike : FD := ⟨2, 2, false, [.retn (.call 29 [.call 31 [.var 0], .call 31 [.var 1]])]⟩
def f_fields_alike_N : List Str := ["M", "N"]
/-- 37 -/
def f_fields_part_like : FD := ⟨2, 2, false, [.retn (.call 30 [.call 31 [.var 0], .call 31 [.var 1]])]⟩
def f_fields_part_like_N : List Str := ["M", "N"]
/-- 39 -/
def f_greedy_best : FD := ⟨2, 5, false, [.asg (.nm 2) (.call 20 [.var 0]), .expr (.call 10 [.fld (.var 2) 0, .var 1]), .asg (.nm 3) (.lit (.int 0)), .never]⟩
def f_greedy_best_N : List Str := ["M", "weights", "table", "mask", "item"]
/-- 41 -/
def f_hanging_parts : FD := ⟨1, 8, false, [.asg (.nm 1) (.call 20 [.var 0]), .asg (.nm 2) (.comp (.nm 6) .rng [.fld (.var 1) 0] [] (.tup [.var 6])), .for (.nm 3) .seq [.meth 40 (.var 1) []] [.asg (.nm 4) (.comp (.nm 7) .seq [.var 2] [.bi .any [.comp (.nm 6) .seq [.var 7] [] (.cmp .inn (.var 6) (.var 3))]] (.var 7)), .never], .retn (.bi .tuple [.bi .sorted [.var 2]])]⟩
def f_hanging_parts_N : List Str := ["M", "table", "found", "told", "met", "joined", "item", "part"]
/-- 42 -/
def f_hanging_parting : FD := ⟨1, 5, false, [.asg (.nm 1) (.call 20 [.var 0]), .expr (.call 11 [.var 1, .gl 11 (.int 8)]), .asg (.nm 2) (.newr (.lst [])), .for (.nm 3) .rng [.bin .add (.fld (.var 1) 2) (.lit (.int 1))] [.asg (.nm 4) (.bin .xor (.fld (.var 1) 2) (.var 3)), .ifs (.and (.cmp .gt (.call 14 [.var 3]) (.lit (.int 1))) (.cmp .gt (.call 14 [.var 4]) (.lit (.int 1)))) [.ifs (.cmp .le (.bin .sub (.bin .add (.sub (.fld (.var 1) 1) (.var 3)) (.sub (.fld (.var 1) 1) (.var 4))) (.fld (.var 1) 3)) (.lit (.int 1))) [.app (.var 2) (.tup [.call 14 [.var 3], .call 13 [.var 3]])] []] []], .retn (.ite (.cmp .gt (.bi .len [.var 2]) (.lit (.int 0))) (.sub (.bi .min [.var 2]) (.lit (.int 1))) (.lit (.non)))]⟩
def f_hanging_parting_N : List Str := ["M", "table", "found", "mask", "other"]
/-- 43 -/
def f_many_check_number : FD := ⟨1, 1, false, [.ifs (.not (.call 2 [.var 0, .lit (.int 1), .gl 12 (.int 10)])) [.raise 4] []]⟩
def f_many_check_number_N : List Str := ["k"]
/-- 44 -/
def f_many_bases_apart : FD := ⟨2, 5, false, [.asg (.nm 2) (.call 20 [.var 0]), .expr (.call 43 [.var 1]), .for (.nm 3) .rng [.bin .add (.fld (.var 2) 2) (.lit (.int 1))] [.ifs (.cmp .lt (.call 14 [.bin .xor (.fld (.var 2) 2) (.var 3)]) (.bin .mul (.var 1) (.bin .sub (.fld (.var 2) 3) (.sub (.fld (.var 2) 1) (.var 3))))) [.retn (.tup [.lit (.str ⟨#[115, 101, 116]⟩), .call 13 [.var 3]])] []], .never]⟩
def f_many_bases_apart_N : List Str := ["M", "k", "table", "mask", "base"]
/-- 45 -/
def f_many_parted : FD := ⟨2, 9, false, [.asg (.nm 2) (.call 20 [.var 0]), .expr (.call 43 [.var 1]), .for (.nm 3) .rng [.bin .add (.fld (.var 2) 2) (.lit (.int 1))] [.ifs (.cmp .gt (.call 14 [.var 3]) (.bin .mul (.var 1) (.sub (.fld (.var 2) 1) (.var 3)))) [.retn (.tup [.lit (.str ⟨#[115, 101, 116]⟩), .call 13 [.var 3]])] []], .never]⟩
def f_many_parted_N : List Str := ["M", "k", "table", "mask", "level", "_", "more", "told", "part"]
/-- 46 -/
def f_many_strength : FD := ⟨1, 5, false, [.asg (.nm 1) (.call 20 [.var 0]), .ifs (.cmp .eq (.fld (.var 1) 3) (.lit (.int 0))) [.raise 4] [], .asg (.nm 2) (.lit (.non)), .for (.nm 3) .rng [.bin .add (.fld (.var 1) 2) (.lit (.int 1))] [.ifs (.cmp .lt (.sub (.fld (.var 1) 1) (.var 3)) (.fld (.var 1) 3)) [.never] []], .retn (.var 2)]⟩
def f_many_strength_N : List Str := ["M", "table", "found", "mask", "told"]
/-- 47 -/
def f_pairs_tables_of : FD := ⟨2, 4, false, [.asg (.tp [.nm 2, .nm 3]) (.tup [.call 20 [.var 0], .call 20 [.var 1]]), .ifs (.cmp .ne (.fld (.var 2) 0) (.fld (.var 3) 0)) [.raise 4] [], .retn (.tup [.var 2, .var 3])]⟩
def f_pairs_tables_of_N : List Str := ["M", "N", "first", "second"]
/-- 48 -/
def f_pairs_common : FD := ⟨2, 6, false, [.asg (.tp [.nm 4, .nm 5]) (.call 47 [.var 0, .var 1]), .never]⟩
def f_pairs_common_N : List Str := ["M", "N", "greatest", "mask", "first", "second"]
/-- 49 -/
def f_pairs_heaviest : FD := ⟨3, 11, false, [.asg (.tp [.nm 5, .nm 6]) (.call 47 [.var 0, .var 1]), .expr (.call 10 [.fld (.var 5) 0, .var 2]), .asg (.nm 3) (.newr (.dct false [] [])), .never]⟩
def f_pairs_heaviest_N : List Str := ["M", "N", "weights", "best", "mask", "first", "second", "some", "total", "size", "item"]
/-- 50 -/
def f_pairs_free_choice : FD := ⟨2, 7, false, [.asg (.nm 2) (.call 20 [.var 0]), .ifs (.or (.not (.bi .isTuple [.var 1])) (.or (.cmp .gt (.bi .len [.var 1]) (.gl 5 (.int 10))) (.not (.bi .all [.comp (.nm 6) .seq [.var 1] [] (.call 3 [.var 6, .fld (.var 2) 0])])))) [.raise 2] [], .for (.nm 3) .rng [.bin .shl (.lit (.int 1)) (.bi .len [.var 1])] [.asg (.nm 4) (.lit (.int 0)), .for (.nm 5) .seq [.call 13 [.var 3]] [.aug 4 .or (.call 12 [.sub (.var 1) (.var 5)])], .ifs (.cmp .lt (.sub (.fld (.var 2) 1) (.var 4)) (.call 14 [.var 3])) [.retn (.tup [.lit (.str ⟨#[108, 97, 99, 107]⟩), .call 13 [.var 3]])] []], .never]⟩
def f_pairs_free_choice_N : List Str := ["M", "sets", "table", "numbers", "joined", "at", "some"]
/-- 51 -/
def f_ranks_rank : FD := ⟨2, 3, false, [.asg (.nm 2) (.call 20 [.var 0]), .expr (.call 9 [.fld (.var 2) 0, .var 1]), .retn (.sub (.fld (.var 2) 1) (.call 12 [.var 1]))]⟩
def f_ranks_rank_N : List Str := ["M", "S", "table"]
/-- 52 -/
def f_ranks_is_free : FD := ⟨2, 3, false, [.asg (.nm 2) (.call 20 [.var 0]), .expr (.call 9 [.fld (.var 2) 0, .var 1]), .retn (.meth 38 (.var 2) [.call 12 [.var 1]])]⟩
def f_ranks_is_free_N : List Str := ["M", "S", "table"]
/-- 53 -/
def f_ranks_closure : FD := ⟨2, 3, false, [.asg (.nm 2) (.call 20 [.var 0]), .expr (.call 9 [.fld (.var 2) 0, .var 1]), .never]⟩
def f_ranks_closure_N : List Str := ["M", "S", "table"]
/-- 54 -/
def f_ranks_rounds : FD := ⟨1, 1, false, [.retn (.meth 40 (.call 20 [.var 0]) [])]⟩
def f_ranks_rounds_N : List Str := ["M"]
/-- 55 -/
def f_ranks_cuts : FD := ⟨1, 1, false, [.retn (.meth 40 (.meth 23 (.call 20 [.var 0]) []) [])]⟩
def f_ranks_cuts_N : List Str := ["M"]
/-- 56 -/
def f_ranks_closed_sets : FD := ⟨1, 6, false, [.asg (.nm 1) (.call 20 [.var 0]), .asg (.nm 2) (.comp (.nm 4) .rng [.bin .add (.fld (.var 1) 3) (.lit (.int 1))] [] (.newr (.lst []))), .for (.nm 3) .rng [.bin .add (.fld (.var 1) 2) (.lit (.int 1))] [.never], .retn (.bi .tuple [.comp (.nm 5) .seq [.var 2] [] (.bi .tuple [.bi .sorted [.var 5]])])]⟩
def f_ranks_closed_sets_N : List Str := ["M", "table", "found", "mask", "_", "row"]
/-- 57 -/
def f_tutte_polynomial : FD := ⟨1, 12, false, [.never]⟩
def f_tutte_polynomial_N : List Str := ["table", "many", "mask", "found", "count", "high", "wide", "i", "first", "j", "second", "c"]
/-- 58 -/
def f_tutte_tutte : FD := ⟨1, 1, false, [.retn (.call 57 [.call 20 [.var 0]])]⟩
def f_tutte_tutte_N : List Str := ["M"]
/-- 59 -/
def f_tutte_busy : FD := ⟨2, 9, false, [.asg (.nm 2) (.call 20 [.var 0]), .ifs (.or (.not (.bi .isTuple [.var 1])) (.cmp .nin (.var 1) (.meth 26 (.var 2) []))) [.raise 2] [], .asg (.nm 3) (.call 12 [.var 1]), .asg (.tp [.nm 7, .nm 8]) (.tup [.lit (.int 0), .lit (.int 0)]), .asg (.nm 4) (.comp (.nm 5) .rng [.fld (.var 2) 0] [.cmp .nin (.var 5) (.var 1)] (.var 5)), .for (.nm 5) .seq [.var 1] [.ifs (.not (.bi .any [.comp (.nm 6) .seq [.var 4] [.cmp .lt (.var 6) (.var 5)] (.meth 38 (.var 2) [.bin .xor (.bin .xor (.var 3) (.bin .shl (.lit (.int 1)) (.var 5))) (.bin .shl (.lit (.int 1)) (.var 6))])])) [.aug 7 .add (.lit (.int 1))] []], .for (.nm 6) .seq [.var 4] [.ifs (.not (.bi .any [.comp (.nm 5) .seq [.var 1] [.cmp .lt (.var 5) (.var 6)] (.meth 38 (.var 2) [.bin .xor (.bin .xor (.var 3) (.bin .shl (.lit (.int 1)) (.var 5))) (.bin .shl (.lit (.int 1)) (.var 6))])])) [.aug 8 .add (.lit (.int 1))] []], .retn (.tup [.var 7, .var 8])]⟩
def f_tutte_busy_N : List Str := ["M", "B", "table", "mask", "others", "item", "other", "inside", "outside"]
/-- 60 -/
def f_law__law_cell : FD := ⟨2, 2, false, [.retn (.ite (.cmp .lt (.var 1) (.bi .len [.var 0])) (.bi .abs [.bi .int [.sub (.var 0) (.var 1)]]) (.lit (.int 0)))]⟩
def f_law__law_cell_N : List Str := ["script", "k"]
/-- 61 -/
def f_law__law_stream : FD := ⟨2, 2, false, [.retn (.lst [.call 60 [.var 0, .var 1], .bin .add (.lit (.int 1)) (.bin .mod (.bin .mul (.lit (.int 48271)) (.call 60 [.var 0, .var 1])) (.lit (.int 2147483647)))])]⟩
def f_law__law_stream_N : List Str := ["script", "k"]
/-- 62 -/
def f_law__law_draw : FD := ⟨2, 3, false, [.ifs (.cmp .gt (.sub (.var 0) (.lit (.int 0))) (.lit (.int 0))) [.asg (.nm 2) (.sub (.var 0) (.lit (.int 0))), .seti (.var 0) (.lit (.int 0)) (.bi .int [.bin .fdiv (.var 2) (.var 1)]), .retn (.bi .int [.bin .mod (.var 2) (.var 1)])] [], .seti (.var 0) (.lit (.int 1)) (.bin .mod (.bin .mul (.lit (.int 69621)) (.sub (.var 0) (.lit (.int 1)))) (.lit (.int 2147483647))), .retn (.bi .int [.bin .mod (.bin .fdiv (.sub (.var 0) (.lit (.int 1))) (.lit (.int 7))) (.var 1)])]⟩
def f_law__law_draw_N : List Str := ["box", "high", "cell"]
/-- 63 -/
def f_law__law_bad_matroids : FD := ⟨0, 1, false, [.asg (.nm 0) (.lst [.lit (.int 3), .lit (.str ⟨#[110, 101, 116]⟩), .tup [], .tup [.lit (.str ⟨#[110, 101, 116]⟩)], .tup [.lit (.str ⟨#[117, 110, 105, 102, 111, 114, 109]⟩), .lit (.int 1)], .tup [.lit (.str ⟨#[117, 110, 105, 102, 111, 114, 109]⟩), .lit (.int 3), .lit (.int 2)], .tup [.lit (.str ⟨#[117, 110, 105, 102, 111, 114, 109]⟩), .neg (.lit (.int 1)), .lit (.int 2)], .tup [.lit (.str ⟨#[117, 110, 105, 102, 111, 114, 109]⟩), .lit (.int 1), .lit (.int 11)], .tup [.lit (.str ⟨#[117, 110, 105, 102, 111, 114, 109]⟩), .lit (.bl true), .lit (.int 2)], .tup [.lit (.str ⟨#[117, 110, 105, 102, 111, 114, 109]⟩), .lit (.str ⟨#[49]⟩), .lit (.int 2)]]), .asg (.nm 0) (.bin .add (.var 0) (.lst [.tup [.lit (.str ⟨#[110, 101, 116]⟩), .lit (.int 2), .tup [.tup [.lit (.int 1), .lit (.int 0)]]], .tup [.lit (.str ⟨#[110, 101, 116]⟩), .lit (.int 2), .tup [.tup [.lit (.int 0), .lit (.int 2)]]], .tup [.lit (.str ⟨#[110, 101, 116]⟩), .lit (.int 9), .tup []], .tup [.lit (.str ⟨#[110, 101, 116]⟩), .lit (.int 2), .lst [.tup [.lit (.int 0), .lit (.int 1)]]], .tup [.lit (.str ⟨#[110, 101, 116]⟩), .lit (.int 2), .bin .mul (.tup [.tup [.lit (.int 0), .lit (.int 1)]]) (.lit (.int 11))], .tup [.lit (.str ⟨#[110, 101, 116]⟩), .lit (.int 2), .tup [.tup [.lit (.int 0), .lit (.int 1), .lit (.int 1)]]]])), .asg (.nm 0) (.bin .add (.var 0) (.lst [.tup [.lit (.str ⟨#[118, 101, 99, 116, 111, 114, 115]⟩), .lit (.int 4), .tup [.tup [.lit (.int 1)]]], .tup [.lit (.str ⟨#[118, 101, 99, 116, 111, 114, 115]⟩), .lit (.int 2), .tup [.tup [.lit (.int 2)]]], .tup [.lit (.str ⟨#[118, 101, 99, 116, 111, 114, 115]⟩), .lit (.int 3), .tup [.tup [.neg (.lit (.int 1))]]], .tup [.lit (.str ⟨#[118, 101, 99, 116, 111, 114, 115]⟩), .lit (.int 0), .tup [.tup [.lit (.int 10)]]], .tup [.lit (.str ⟨#[118, 101, 99, 116, 111, 114, 115]⟩), .lit (.int 0), .tup [.tup [.lit (.int 1)], .tup [.lit (.int 1), .lit (.int 2)]]]])), .asg (.nm 0) (.bin .add (.var 0) (.lst [.tup [.lit (.str ⟨#[118, 101, 99, 116, 111, 114, 115]⟩), .lit (.int 0), .tup [.bin .mul (.tup [.lit (.int 1)]) (.lit (.int 7))]], .tup [.lit (.str ⟨#[118, 101, 99, 116, 111, 114, 115]⟩), .lit (.int 0), .tup [.tup [.lit (.str ⟨#[49]⟩)]]], .tup [.lit (.str ⟨#[99, 104, 111, 105, 99, 101, 115]⟩), .lit (.int 2), .tup [.tup [.lit (.int 0), .lit (.int 2)]]], .tup [.lit (.str ⟨#[99, 104, 111, 105, 99, 101, 115]⟩), .lit (.int 2), .tup [.tup [.lit (.int 1), .lit (.int 0)]]], .tup [.lit (.str ⟨#[99, 104, 111, 105, 99, 101, 115]⟩), .lit (.int 2), .tup [.lit (.int 0)]]])), .asg (.nm 0) (.bin .add (.var 0) (.lst [.tup [.lit (.str ⟨#[98, 111, 117, 110, 100, 115]⟩), .lit (.int 3), .tup [.tup [.tup [.lit (.int 0), .lit (.int 1)], .lit (.int 1)], .tup [.tup [.lit (.int 1), .lit (.int 2)], .lit (.int 1)]]], .tup [.lit (.str ⟨#[98, 111, 117, 110, 100, 115]⟩), .lit (.int 2), .tup [.tup [.tup [.lit (.int 0), .lit (.int 1)], .neg (.lit (.int 1))]]], .tup [.lit (.str ⟨#[98, 111, 117, 110, 100, 115]⟩), .lit (.int 2), .tup [.tup [.tup [.lit (.int 0), .lit (.int 0)], .lit (.int 1)]]], .tup [.lit (.str ⟨#[98, 97, 115, 101, 115]⟩), .lit (.int 2), .tup []], .tup [.lit (.str ⟨#[98, 97, 115, 101, 115]⟩), .lit (.int 2), .tup [.tup [.lit (.int 1)], .tup [.lit (.int 0)]]]])), .asg (.nm 0) (.bin .add (.var 0) (.lst [.tup [.lit (.str ⟨#[98, 97, 115, 101, 115]⟩), .lit (.int 4), .tup [.tup [.lit (.int 0), .lit (.int 1)], .tup [.lit (.int 2), .lit (.int 3)]]], .tup [.lit (.str ⟨#[98, 97, 115, 101, 115]⟩), .lit (.int 2), .tup [.tup [.lit (.int 0)], .tup [.lit (.int 0), .lit (.int 1)]]], .tup [.lit (.str ⟨#[98, 97, 115, 101, 115]⟩), .lit (.int 2), .tup [.tup [.lit (.int 0), .lit (.int 2)]]], .tup [.lit (.str ⟨#[100, 117, 97, 108]⟩)], .tup [.lit (.str ⟨#[100, 117, 97, 108]⟩), .lit (.int 3)], .tup [.lit (.str ⟨#[100, 117, 97, 108]⟩), .tup [.lit (.str ⟨#[117, 110, 105, 102, 111, 114, 109]⟩), .lit (.int 1), .lit (.int 2)], .lit (.int 1)]])), .asg (.nm 0) (.bin .add (.var 0) (.lst [.tup [.lit (.str ⟨#[117, 110, 105, 102, 111, 114, 109]⟩), .lit (.int 0), .lit (.int 0)], .tup [.lit (.str ⟨#[110, 101, 116]⟩), .lit (.int 2), .tup []], .tup [.lit (.str ⟨#[110, 101, 116]⟩), .lit (.int 0), .tup []], .tup [.lit (.str ⟨#[118, 101, 99, 116, 111, 114, 115]⟩), .lit (.int 2), .tup []], .tup [.lit (.str ⟨#[118, 101, 99, 116, 111, 114, 115]⟩), .lit (.int 0), .tup [.tup [], .tup []]], .tup [.lit (.str ⟨#[99, 104, 111, 105, 99, 101, 115]⟩), .lit (.int 0), .tup []], .tup [.lit (.str ⟨#[98, 97, 115, 101, 115]⟩), .lit (.int 0), .tup [.tup []]]])), .asg (.nm 0) (.bin .add (.var 0) (.lst [.tup [.lit (.str ⟨#[98, 111, 117, 110, 100, 115]⟩), .lit (.int 2), .tup [.tup [.tup [.lit (.int 0), .lit (.int 1)], .lit (.int 21)]]], .tup [.lit (.str ⟨#[119, 105, 116, 104, 111, 117, 116]⟩), .tup [.lit (.str ⟨#[117, 110, 105, 102, 111, 114, 109]⟩), .lit (.int 1), .lit (.int 2)], .tup [.lit (.int 0), .lit (.int 1)]], .tup [.lit (.str ⟨#[99, 104, 111, 105, 99, 101, 115]⟩), .lit (.int 2), .bin .mul (.tup [.tup [.lit (.int 0)]]) (.lit (.int 11))], .tup [.lit (.str ⟨#[98, 111, 117, 110, 100, 115]⟩), .lit (.int 2), .bin .mul (.tup [.tup [.tup [.lit (.int 0)], .lit (.int 1)]]) (.lit (.int 11))]])), .asg (.nm 0) (.bin .add (.var 0) (.lst [.tup [.lit (.str ⟨#[119, 105, 116, 104, 111, 117, 116]⟩), .tup [.lit (.str ⟨#[117, 110, 105, 102, 111, 114, 109]⟩), .lit (.int 1), .lit (.int 2)], .tup [.lit (.int 2)]], .tup [.lit (.str ⟨#[111, 110, 116, 111]⟩), .tup [.lit (.str ⟨#[117, 110, 105, 102, 111, 114, 109]⟩), .lit (.int 1), .lit (.int 2)], .tup [.lit (.int 1), .lit (.int 0)]], .tup [.lit (.str ⟨#[99, 117, 116]⟩), .tup [.lit (.str ⟨#[117, 110, 105, 102, 111, 114, 109]⟩), .lit (.int 1), .lit (.int 2)], .neg (.lit (.int 1))], .tup [.lit (.str ⟨#[99, 117, 116]⟩), .tup [.lit (.str ⟨#[117, 110, 105, 102, 111, 114, 109]⟩), .lit (.int 1), .lit (.int 2)], .lit (.str ⟨#[49]⟩)]])), .retn (.bin .add (.var 0) (.lst [.tup [.lit (.str ⟨#[115, 117, 109]⟩), .tup [.lit (.str ⟨#[117, 110, 105, 102, 111, 114, 109]⟩), .lit (.int 1), .lit (.int 6)], .tup [.lit (.str ⟨#[117, 110, 105, 102, 111, 114, 109]⟩), .lit (.int 1), .lit (.int 5)]], .tup [.lit (.str ⟨#[98, 111, 116, 104]⟩), .tup [.lit (.str ⟨#[117, 110, 105, 102, 111, 114, 109]⟩), .lit (.int 1), .lit (.int 2)], .tup [.lit (.str ⟨#[117, 110, 105, 102, 111, 114, 109]⟩), .lit (.int 1), .lit (.int 3)]], .tup [.lit (.str ⟨#[115, 117, 109]⟩), .tup [.lit (.str ⟨#[117, 110, 105, 102, 111, 114, 109]⟩), .lit (.int 1), .lit (.int 2)], .lit (.int 3)], .tup [.lit (.str ⟨#[111, 116, 104, 101, 114]⟩), .lit (.int 1), .lit (.int 2)]]))]⟩
def f_law__law_bad_matroids_N : List Str := ["rows"]
/-- 64 -/
def f_law__law_bad_sets : FD := ⟨0, 0, false, [.retn (.lst [.lit (.int 3), .tup [.lit (.int 3)], .tup [.lit (.int 1), .lit (.int 0)], .tup [.lit (.int 0), .lit (.int 0)], .lst [.lit (.int 0)], .tup [.lit (.str ⟨#[48]⟩)], .tup [.neg (.lit (.int 1))], .tup [.lit (.bl true)]])]⟩
def f_law__law_bad_sets_N : List Str := []
/-- 65 -/
def f_law__law_error : FD := ⟨1, 1, false, [.try [.expr (.clo 0 [])] [(1, .str ⟨#[109, 97, 116, 114, 111, 105, 100]⟩), (2, .str ⟨#[115, 101, 116]⟩), (3, .str ⟨#[119, 101, 105, 103, 104, 116, 115]⟩), (4, .str ⟨#[114, 97, 110, 103, 101]⟩), (0, .str ⟨#[102, 114, 101, 101]⟩)], .retn (.lit (.str ⟨#[]⟩))]⟩
def f_law__law_error_N : List Str := ["call"]
/-- 66 -/
def f_law_law_k01 : FD := ⟨1, 14, true, [.asg (.nm 1) (.newr (.call 61 [.var 0, .lit (.int 0)])), .asg (.nm 2) (.newr (.call 63 [])), .asg (.nm 3) (.tup [.lit (.str ⟨#[117, 110, 105, 102, 111, 114, 109]⟩), .lit (.int 2), .lit (.int 3)]), .asg (.nm 4) (.var 3), .for (.nm 5) .rng [.lit (.int 25)] [.asg (.nm 4) (.tup [.lit (.str ⟨#[100, 117, 97, 108]⟩), .var 4])], .app (.var 2) (.var 4), .for (.nm 5) .rng [.lit (.int 6)] [.asg (.nm 12) (.sub (.var 2) (.call 62 [.var 1, .bi .len [.var 2]])), .ifs (.cmp .eq (.call 62 [.var 1, .lit (.int 3)]) (.lit (.int 0))) [.asg (.nm 12) (.sub (.lst [.tup [.lit (.str ⟨#[100, 117, 97, 108]⟩), .var 12], .tup [.lit (.str ⟨#[115, 117, 109]⟩), .var 3, .var 12], .tup [.lit (.str ⟨#[119, 105, 116, 104, 111, 117, 116]⟩), .var 12, .tup []], .tup [.lit (.str ⟨#[98, 111, 116, 104]⟩), .var 12, .var 3]]) (.call 62 [.var 1, .lit (.int 4)]))] [], .asg (.nm 13) (.sub (.call 64 []) (.call 62 [.var 1, .lit (.int 8)])), .for (.nm 11) .seq [.lst [.gl 13 (.fn 27), .gl 14 (.fn 28), .gl 15 (.fn 25), .gl 16 (.fn 54), .gl 17 (.fn 55), .gl 18 (.fn 56), .gl 19 (.fn 46), .gl 20 (.fn 58), .gl 21 (.fn 41), .gl 22 (.fn 42), .gl 23 (.fn 34), .gl 24 (.fn 35)]] [.ifs (.cmp .ne (.lam 65 [] [] (.callv (.var 11) [.var 12])) (.lit (.str ⟨#[109, 97, 116, 114, 111, 105, 100]⟩))) [.retn (.lit (.bl false))] []], .for (.nm 11) .seq [.lst [.gl 25 (.fn 51), .gl 26 (.fn 52), .gl 27 (.fn 53), .gl 28 (.fn 39), .gl 29 (.fn 44), .gl 30 (.fn 45), .gl 31 (.fn 32), .gl 32 (.fn 50), .gl 33 (.fn 59)]] [.ifs (.cmp .ne (.lam 65 [] [] (.callv (.var 11) [.var 12, .var 13])) (.lit (.str ⟨#[109, 97, 116, 114, 111, 105, 100]⟩))) [.retn (.lit (.bl false))] []], .for (.nm 11) .seq [.lst [.gl 34 (.fn 48), .gl 35 (.fn 36), .gl 36 (.fn 37)]] [.ifs (.cmp .ne (.lam 65 [] [] (.callv (.var 11) [.var 12, .var 3])) (.lit (.str ⟨#[109, 97, 116, 114, 111, 105, 100]⟩))) [.retn (.lit (.bl false))] [], .ifs (.cmp .ne (.lam 65 [] [] (.callv (.var 11) [.var 3, .var 12])) (.lit (.str ⟨#[109, 97, 116, 114, 111, 105, 100]⟩))) [.retn (.lit (.bl false))] []], .ifs (.cmp .ne (.lam 65 [] [] (.call 49 [.var 3, .var 12, .lit (.int 3)])) (.lit (.str ⟨#[109, 97, 116, 114, 111, 105, 100]⟩))) [.retn (.lit (.bl false))] [], .for (.nm 11) .seq [.lst [.gl 25 (.fn 51), .gl 26 (.fn 52), .gl 27 (.fn 53), .gl 33 (.fn 59)]] [.ifs (.cmp .ne (.lam 65 [] [] (.callv (.var 11) [.var 3, .var 13])) (.lit (.str ⟨#[115, 101, 116]⟩))) [.retn (.lit (.bl false))] []]], .for (.nm 6) .seq [.lst [.lit (.int 3), .tup [.lit (.int 1), .lit (.int 2)], .tup [.lit (.int 1), .lit (.int 2), .lit (.int 3), .lit (.int 4)], .tup [.lit (.int 1), .lit (.int 2), .lit (.str ⟨#[51]⟩)], .lst [.lit (.int 1), .lit (.int 2), .lit (.int 3)], .tup [.lit (.int 1), .lit (.int 2), .lit (.int 1001)], .tup [.lit (.int 1), .lit (.int 2), .neg (.lit (.int 1001))], .tup [.lit (.int 1), .lit (.int 2), .lit (.bl true)]]] [.ifs (.cmp .ne (.lam 65 [] [] (.call 39 [.var 3, .var 6])) (.lit (.str ⟨#[119, 101, 105, 103, 104, 116, 115]⟩))) [.retn (.lit (.bl false))] [], .ifs (.cmp .ne (.lam 65 [] [] (.call 49 [.var 3, .var 3, .var 6])) (.lit (.str ⟨#[119, 101, 105, 103, 104, 116, 115]⟩))) [.retn (.lit (.bl false))] []], .for (.nm 7) .seq [.lst [.lit (.int 0), .lit (.int 11), .lit (.str ⟨#[49]⟩), .lit (.bl true), .neg (.lit (.int 1))]] [.ifs (.cmp .ne (.lam 65 [] [] (.call 44 [.var 3, .var 7])) (.lit (.str ⟨#[114, 97, 110, 103, 101]⟩))) [.retn (.lit (.bl false))] [], .ifs (.cmp .ne (.lam 65 [] [] (.call 45 [.var 3, .var 7])) (.lit (.str ⟨#[114, 97, 110, 103, 101]⟩))) [.retn (.lit (.bl false))] []], .for (.nm 8) .seq [.lst [.lit (.int 1), .lit (.int 5), .lit (.int 0), .lit (.str ⟨#[50]⟩), .lit (.int 4)]] [.ifs (.cmp .ne (.lam 65 [] [] (.call 32 [.var 3, .var 8])) (.lit (.str ⟨#[114, 97, 110, 103, 101]⟩))) [.retn (.lit (.bl false))] []], .for (.nm 9) .seq [.lst [.lit (.int 3), .tup [.lit (.int 3)], .tup [.tup [.lit (.int 3)]], .tup [.tup [.lit (.int 1), .lit (.int 0)]], .lst [.tup [.lit (.int 0)]]]] [.ifs (.cmp .ne (.lam 65 [] [] (.call 50 [.var 3, .var 9])) (.lit (.str ⟨#[115, 101, 116]⟩))) [.retn (.lit (.bl false))] []], .asg (.nm 10) (.tup [.lit (.str ⟨#[117, 110, 105, 102, 111, 114, 109]⟩), .lit (.int 1), .lit (.int 9)]), .for (.nm 11) .seq [.lst [.gl 23 (.fn 34), .gl 24 (.fn 35), .gl 22 (.fn 42)]] [.ifs (.cmp .ne (.lam 65 [] [] (.callv (.var 11) [.var 10])) (.lit (.str ⟨#[109, 97, 116, 114, 111, 105, 100]⟩))) [.retn (.lit (.bl false))] []], .ifs (.cmp .ne (.lam 65 [] [] (.call 46 [.tup [.lit (.str ⟨#[117, 110, 105, 102, 111, 114, 109]⟩), .lit (.int 0), .lit (.int 2)]])) (.lit (.str ⟨#[114, 97, 110, 103, 101]⟩))) [.retn (.lit (.bl false))] [], .retn (.cmp .eq (.lam 65 [] [] (.call 48 [.var 3, .tup [.lit (.str ⟨#[117, 110, 105, 102, 111, 114, 109]⟩), .lit (.int 1), .lit (.int 2)]])) (.lit (.str ⟨#[114, 97, 110, 103, 101]⟩)))]⟩
def f_law_law_k01_N : List Str := ["script", "box", "rows", "good", "deep", "turn", "weights", "k", "q", "sets", "wide", "call", "bad", "some"]
/-- 38 -/
def f_Table_is_free : FD := ⟨2, 2, false, [.retn (.cmp .eq (.sub (.fld (.var 0) 1) (.var 1)) (.call 14 [.var 1]))]⟩
def f_Table_is_free_N : List Str := ["self", "mask"]
/-- 26 -/
def f_Table_bases : FD := ⟨1, 2, false, [.retn (.bi .tuple [.bi .sorted [.comp (.nm 1) .rng [.bin .add (.fld (.var 0) 2) (.lit (.int 1))] [.and (.cmp .eq (.sub (.fld (.var 0) 1) (.var 1)) (.fld (.var 0) 3)) (.meth 38 (.var 0) [.var 1])] (.call 13 [.var 1])]])]⟩
def f_Table_bases_N : List Str := ["self", "mask"]
/-- 40 -/
def f_Table_rounds : FD := ⟨1, 4, false, [.never]⟩
def f_Table_rounds_N : List Str := ["self", "found", "mask", "item"]
/-- 23 -/
def f_Table_dual : FD := ⟨1, 2, false, [.never]⟩
def f_Table_dual_N : List Str := ["self", "mask"]
/-- 24 -/
def f_Table_onto : FD := ⟨3, 8, false, [.asg (.nm 3) (.comp (.nm 7) .rng [.fld (.var 0) 0] [.not (.bin .and (.bin .shr (.bin .or (.var 1) (.var 2)) (.var 7)) (.lit (.int 1)))] (.var 7)), .asg (.nm 4) (.newr (.lst [])), .for (.nm 5) .rng [.bin .shl (.lit (.int 1)) (.bi .len [.var 3])] [.asg (.nm 6) (.bi .sum [.comp (.nm 7) .seq [.call 13 [.var 5]] [] (.bin .shl (.lit (.int 1)) (.sub (.var 3) (.var 7)))]), .app (.var 4) (.bin .sub (.sub (.fld (.var 0) 1) (.bin .or (.var 6) (.var 2))) (.sub (.fld (.var 0) 1) (.var 2)))], .retn (.mk [.bi .len [.var 3], .frz 4])]⟩
def f_Table_onto_N : List Str := ["self", "taken", "drawn", "left", "ranks", "mask", "wide", "item"]
end Fw.K01
end
section
set_option maxRecDepth 100000
namespace Fw.K01
open Fw
def tr : Tr := .nd 34 f_fields_every (.nd 17 f_tables_is_exchange (.nd 8 f_checks_are_choices (.nd 4 f_checks_is_family (.nd 2 f_checks_is_between (.nd 1 f_checks_is_below (.nd 0 f_checks_is_integer (.lf) (.lf)) (.lf)) (.nd 3 f_checks_is_set (.lf) (.lf))) (.nd 6 f_checks_are_vectors (.nd 5 f_checks_is_net (.lf) (.lf)) (.nd 7 f_checks_are_bounds (.lf) (.lf)))) (.nd 13 f_tables_set_of (.nd 11 f_checks_check_few (.nd 10 f_checks_check_weights (.nd 9 f_checks_check_set (.lf) (.lf)) (.lf)) (.nd 12 f_tables_mask_of (.lf) (.lf))) (.nd 15 f_tables_by_free (.nd 14 f_tables_many_of (.lf) (.lf)) (.nd 16 f_tables_first_break (.lf) (.lf))))) (.nd 26 f_Table_bases (.nd 22 f_tables_made_table (.nd 20 f_tables_table_of (.nd 19 f_tables_made (.nd 18 f_tables_heads_of (.lf) (.lf)) (.lf)) (.nd 21 f_tables_plain_table (.lf) (.lf))) (.nd 24 f_Table_onto (.nd 23 f_Table_dual (.lf) (.lf)) (.nd 25 f_told_size (.lf) (.lf)))) (.nd 30 f_parts_part_of (.nd 28 f_told_plain (.nd 27 f_told_bases (.lf) (.lf)) (.nd 29 f_parts_alike_tables (.lf) (.lf))) (.nd 32 f_fields_over (.nd 31 f_fields_small (.lf) (.lf)) (.nd 33 f_fields_every_of (.lf) (.lf)))))) (.nd 51 f_ranks_rank (.nd 43 f_many_check_number (.nd 39 f_greedy_best (.nd 37 f_fields_part_like (.nd 36 f_fields_alike (.nd 35 f_fields_net_of (.lf) (.lf)) (.lf)) (.nd 38 f_Table_is_free (.lf) (.lf))) (.nd 41 f_hanging_parts (.nd 40 f_Table_rounds (.lf) (.lf)) (.nd 42 f_hanging_parting (.lf) (.lf)))) (.nd 47 f_pairs_tables_of (.nd 45 f_many_parted (.nd 44 f_many_bases_apart (.lf) (.lf)) (.nd 46 f_many_strength (.lf) (.lf))) (.nd 49 f_pairs_heaviest (.nd 48 f_pairs_common (.lf) (.lf)) (.nd 50 f_pairs_free_choice (.lf) (.lf))))) (.nd 60 f_law__law_cell (.nd 56 f_ranks_closed_sets (.nd 54 f_ranks_rounds (.nd 53 f_ranks_closure (.nd 52 f_ranks_is_free (.lf) (.lf)) (.lf)) (.nd 55 f_ranks_cuts (.lf) (.lf))) (.nd 58 f_tutte_tutte (.nd 57 f_tutte_polynomial (.lf) (.lf)) (.nd 59 f_tutte_busy (.lf) (.lf)))) (.nd 64 f_law__law_bad_sets (.nd 62 f_law__law_draw (.nd 61 f_law__law_stream (.lf) (.lf)) (.nd 63 f_law__law_bad_matroids (.lf) (.lf))) (.nd 66 f_law_law_k01 (.nd 65 f_law__law_error (.lf) (.lf)) (.nd 67 f_tables_has_no_ring (.lf) (.lf))))))
end Fw.K01
end
section
set_option autoImplicit false
set_option maxRecDepth 100000
set_option linter.all false
set_option maxHeartbeats 4000000
/-! k01: each function raises the told error -/
namespace Fw.K01
open Fw
def sNet : PySem.Str := ⟨#[110, 101, 116]⟩
def sUni : PySem.Str := ⟨#[117, 110, 105, 102, 111, 114, 109]⟩
def good : D := .tup [.str sUni, .int 2, .int 3]
/-- a call raises the error k, whatever stands -/
def sto (a b : Int) (r : List D) : Sto := [some (.lst [.int a, .int b]), some (.lst r)]
def Exc (F : FT) (f : Nat) (as : List D) (k : Nat) : Prop := ∀ a b r, F f as none (sto a b r) = .exc k (sto a b r)
def NC (d : D) : Prop := (∃ i, d = .int i) ∨ (∃ i, d = .str i) ∨ (∃ i, d = .tup i) ∨ ∃ i, d = .lst i
theorem mk_eq {P : Prg} {F F2 : FT} {f : Nat} {fd : FD} (h : P f = some fd) (as : List D) (cl : Option (List D → M D)) (s : Sto) (hl : as.length = fd.np) : kmkF P F F2 f as cl s = goOut s.length (kxs F F2 cl fd.body s.length (as.map some ++ List.replicate (fd.ns - fd.np) none) s) := by
  unfold kmkF
  rw [h]
  simp only [hl, if_true]
section
variable {F F2 : FT} {b c : D}
theorem e_size (hb : NC b) (h : Exc F 20 [b] 1) : Exc (kmkF tr.get F F2) 25 [b] 1 := by unfold Exc at *; intro x1 x2 x3; rw [mk_eq (fd := f_told_size) rfl _ _ _ rfl]; rcases hb with ⟨i, rfl⟩ | ⟨i, rfl⟩ | ⟨i, rfl⟩ | ⟨i, rfl⟩ <;> simp [f_told_size, kxs, kx, kv, kvs, kvO, nt, bnd, ret, goOut, opt, truth, asgT, *]
theorem e_bases (hb : NC b) (h : Exc F 20 [b] 1) : Exc (kmkF tr.get F F2) 27 [b] 1 := by unfold Exc at *; intro x1 x2 x3; rw [mk_eq (fd := f_told_bases) rfl _ _ _ rfl]; rcases hb with ⟨i, rfl⟩ | ⟨i, rfl⟩ | ⟨i, rfl⟩ | ⟨i, rfl⟩ <;> simp [f_told_bases, kxs, kx, kv, kvs, kvO, nt, bnd, ret, goOut, opt, truth, asgT, *]
theorem e_plain (hb : NC b) (h : Exc F 20 [b] 1) : Exc (kmkF tr.get F F2) 28 [b] 1 := by unfold Exc at *; intro x1 x2 x3; rw [mk_eq (fd := f_told_plain) rfl _ _ _ rfl]; rcases hb with ⟨i, rfl⟩ | ⟨i, rfl⟩ | ⟨i, rfl⟩ | ⟨i, rfl⟩ <;> simp [f_told_plain, kxs, kx, kv, kvs, kvO, nt, bnd, ret, goOut, opt, truth, asgT, *]
theorem e_small (hb : NC b) (h : Exc F 20 [b] 1) : Exc (kmkF tr.get F F2) 31 [b] 1 := by unfold Exc at *; intro x1 x2 x3; rw [mk_eq (fd := f_fields_small) rfl _ _ _ rfl]; rcases hb with ⟨i, rfl⟩ | ⟨i, rfl⟩ | ⟨i, rfl⟩ | ⟨i, rfl⟩ <;> simp [f_fields_small, kxs, kx, kv, kvs, kvO, nt, bnd, ret, goOut, opt, truth, asgT, *]
theorem e_over (hb : NC b) (h : Exc F 31 [b] 1) : Exc (kmkF tr.get F F2) 32 [b, c] 1 := by unfold Exc at *; intro x1 x2 x3; rw [mk_eq (fd := f_fields_over) rfl _ _ _ rfl]; rcases hb with ⟨i, rfl⟩ | ⟨i, rfl⟩ | ⟨i, rfl⟩ | ⟨i, rfl⟩ <;> simp [f_fields_over, kxs, kx, kv, kvs, kvO, nt, bnd, ret, goOut, opt, truth, asgT, *]
theorem e_every (hb : NC b) (h : Exc F 31 [b] 1) : Exc (kmkF tr.get F F2) 34 [b] 1 := by unfold Exc at *; intro x1 x2 x3; rw [mk_eq (fd := f_fields_every) rfl _ _ _ rfl]; rcases hb with ⟨i, rfl⟩ | ⟨i, rfl⟩ | ⟨i, rfl⟩ | ⟨i, rfl⟩ <;> simp [f_fields_every, kxs, kx, kv, kvs, kvO, nt, bnd, ret, goOut, opt, truth, asgT, *]
theorem e_net_of (hb : NC b) (h : Exc F 31 [b] 1) : Exc (kmkF tr.get F F2) 35 [b] 1 := by unfold Exc at *; intro x1 x2 x3; rw [mk_eq (fd := f_fields_net_of) rfl _ _ _ rfl]; rcases hb with ⟨i, rfl⟩ | ⟨i, rfl⟩ | ⟨i, rfl⟩ | ⟨i, rfl⟩ <;> simp [f_fields_net_of, kxs, kx, kv, kvs, kvO, nt, bnd, ret, goOut, opt, truth, asgT, *]
theorem e_alike (hb : NC b) (h : Exc F 31 [b] 1) : Exc (kmkF tr.get F F2) 36 [b, c] 1 := by unfold Exc at *; intro x1 x2 x3; rw [mk_eq (fd := f_fields_alike) rfl _ _ _ rfl]; rcases hb with ⟨i, rfl⟩ | ⟨i, rfl⟩ | ⟨i, rfl⟩ | ⟨i, rfl⟩ <;> simp [f_fields_alike, kxs, kx, kv, kvs, kvO, nt, bnd, ret, goOut, opt, truth, asgT, *]
theorem e_part_like (hb : NC b) (h : Exc F 31 [b] 1) : Exc (kmkF tr.get F F2) 37 [b, c] 1 := by unfold Exc at *; intro x1 x2 x3; rw [mk_eq (fd := f_fields_part_like) rfl _ _ _ rfl]; rcases hb with ⟨i, rfl⟩ | ⟨i, rfl⟩ | ⟨i, rfl⟩ | ⟨i, rfl⟩ <;> simp [f_fields_part_like, kxs, kx, kv, kvs, kvO, nt, bnd, ret, goOut, opt, truth, asgT, *]
theorem e_best (hb : NC b) (h : Exc F 20 [b] 1) : Exc (kmkF tr.get F F2) 39 [b, c] 1 := by unfold Exc at *; intro x1 x2 x3; rw [mk_eq (fd := f_greedy_best) rfl _ _ _ rfl]; rcases hb with ⟨i, rfl⟩ | ⟨i, rfl⟩ | ⟨i, rfl⟩ | ⟨i, rfl⟩ <;> simp [f_greedy_best, kxs, kx, kv, kvs, kvO, nt, bnd, ret, goOut, opt, truth, asgT, *]
theorem e_parts (hb : NC b) (h : Exc F 20 [b] 1) : Exc (kmkF tr.get F F2) 41 [b] 1 := by unfold Exc at *; intro x1 x2 x3; rw [mk_eq (fd := f_hanging_parts) rfl _ _ _ rfl]; rcases hb with ⟨i, rfl⟩ | ⟨i, rfl⟩ | ⟨i, rfl⟩ | ⟨i, rfl⟩ <;> simp [f_hanging_parts, kxs, kx, kv, kvs, kvO, nt, bnd, ret, goOut, opt, truth, asgT, *]
theorem e_parting (hb : NC b) (h : Exc F 20 [b] 1) : Exc (kmkF tr.get F F2) 42 [b] 1 := by unfold Exc at *; intro x1 x2 x3; rw [mk_eq (fd := f_hanging_parting) rfl _ _ _ rfl]; rcases hb with ⟨i, rfl⟩ | ⟨i, rfl⟩ | ⟨i, rfl⟩ | ⟨i, rfl⟩ <;> simp [f_hanging_parting, kxs, kx, kv, kvs, kvO, nt, bnd, ret, goOut, opt, truth, asgT, *]
theorem e_bases_apart (hb : NC b) (h : Exc F 20 [b] 1) : Exc (kmkF tr.get F F2) 44 [b, c] 1 := by unfold Exc at *; intro x1 x2 x3; rw [mk_eq (fd := f_many_bases_apart) rfl _ _ _ rfl]; rcases hb with ⟨i, rfl⟩ | ⟨i, rfl⟩ | ⟨i, rfl⟩ | ⟨i, rfl⟩ <;> simp [f_many_bases_apart, kxs, kx, kv, kvs, kvO, nt, bnd, ret, goOut, opt, truth, asgT, *]
theorem e_parted (hb : NC b) (h : Exc F 20 [b] 1) : Exc (kmkF tr.get F F2) 45 [b, c] 1 := by unfold Exc at *; intro x1 x2 x3; rw [mk_eq (fd := f_many_parted) rfl _ _ _ rfl]; rcases hb with ⟨i, rfl⟩ | ⟨i, rfl⟩ | ⟨i, rfl⟩ | ⟨i, rfl⟩ <;> simp [f_many_parted, kxs, kx, kv, kvs, kvO, nt, bnd, ret, goOut, opt, truth, asgT, *]
theorem e_strength (hb : NC b) (h : Exc F 20 [b] 1) : Exc (kmkF tr.get F F2) 46 [b] 1 := by unfold Exc at *; intro x1 x2 x3; rw [mk_eq (fd := f_many_strength) rfl _ _ _ rfl]; rcases hb with ⟨i, rfl⟩ | ⟨i, rfl⟩ | ⟨i, rfl⟩ | ⟨i, rfl⟩ <;> simp [f_many_strength, kxs, kx, kv, kvs, kvO, nt, bnd, ret, goOut, opt, truth, asgT, *]
theorem e_tables_of (hb : NC b) (h : Exc F 20 [b] 1) : Exc (kmkF tr.get F F2) 47 [b, c] 1 := by unfold Exc at *; intro x1 x2 x3; rw [mk_eq (fd := f_pairs_tables_of) rfl _ _ _ rfl]; rcases hb with ⟨i, rfl⟩ | ⟨i, rfl⟩ | ⟨i, rfl⟩ | ⟨i, rfl⟩ <;> simp [f_pairs_tables_of, kxs, kx, kv, kvs, kvO, nt, bnd, ret, goOut, opt, truth, asgT, *]
theorem e_free_choice (hb : NC b) (h : Exc F 20 [b] 1) : Exc (kmkF tr.get F F2) 50 [b, c] 1 := by unfold Exc at *; intro x1 x2 x3; rw [mk_eq (fd := f_pairs_free_choice) rfl _ _ _ rfl]; rcases hb with ⟨i, rfl⟩ | ⟨i, rfl⟩ | ⟨i, rfl⟩ | ⟨i, rfl⟩ <;> simp [f_pairs_free_choice, kxs, kx, kv, kvs, kvO, nt, bnd, ret, goOut, opt, truth, asgT, *]
theorem e_rank (hb : NC b) (h : Exc F 20 [b] 1) : Exc (kmkF tr.get F F2) 51 [b, c] 1 := by unfold Exc at *; intro x1 x2 x3; rw [mk_eq (fd := f_ranks_rank) rfl _ _ _ rfl]; rcases hb with ⟨i, rfl⟩ | ⟨i, rfl⟩ | ⟨i, rfl⟩ | ⟨i, rfl⟩ <;> simp [f_ranks_rank, kxs, kx, kv, kvs, kvO, nt, bnd, ret, goOut, opt, truth, asgT, *]
theorem e_is_free (hb : NC b) (h : Exc F 20 [b] 1) : Exc (kmkF tr.get F F2) 52 [b, c] 1 := by unfold Exc at *; intro x1 x2 x3; rw [mk_eq (fd := f_ranks_is_free) rfl _ _ _ rfl]; rcases hb with ⟨i, rfl⟩ | ⟨i, rfl⟩ | ⟨i, rfl⟩ | ⟨i, rfl⟩ <;> simp [f_ranks_is_free, kxs, kx, kv, kvs, kvO, nt, bnd, ret, goOut, opt, truth, asgT, *]
theorem e_closure (hb : NC b) (h : Exc F 20 [b] 1) : Exc (kmkF tr.get F F2) 53 [b, c] 1 := by unfold Exc at *; intro x1 x2 x3; rw [mk_eq (fd := f_ranks_closure) rfl _ _ _ rfl]; rcases hb with ⟨i, rfl⟩ | ⟨i, rfl⟩ | ⟨i, rfl⟩ | ⟨i, rfl⟩ <;> simp [f_ranks_closure, kxs, kx, kv, kvs, kvO, nt, bnd, ret, goOut, opt, truth, asgT, *]
theorem e_rounds (hb : NC b) (h : Exc F 20 [b] 1) : Exc (kmkF tr.get F F2) 54 [b] 1 := by unfold Exc at *; intro x1 x2 x3; rw [mk_eq (fd := f_ranks_rounds) rfl _ _ _ rfl]; rcases hb with ⟨i, rfl⟩ | ⟨i, rfl⟩ | ⟨i, rfl⟩ | ⟨i, rfl⟩ <;> simp [f_ranks_rounds, kxs, kx, kv, kvs, kvO, nt, bnd, ret, goOut, opt, truth, asgT, *]
theorem e_cuts (hb : NC b) (h : Exc F 20 [b] 1) : Exc (kmkF tr.get F F2) 55 [b] 1 := by unfold Exc at *; intro x1 x2 x3; rw [mk_eq (fd := f_ranks_cuts) rfl _ _ _ rfl]; rcases hb with ⟨i, rfl⟩ | ⟨i, rfl⟩ | ⟨i, rfl⟩ | ⟨i, rfl⟩ <;> simp [f_ranks_cuts, kxs, kx, kv, kvs, kvO, nt, bnd, ret, goOut, opt, truth, asgT, *]
theorem e_closed_sets (hb : NC b) (h : Exc F 20 [b] 1) : Exc (kmkF tr.get F F2) 56 [b] 1 := by unfold Exc at *; intro x1 x2 x3; rw [mk_eq (fd := f_ranks_closed_sets) rfl _ _ _ rfl]; rcases hb with ⟨i, rfl⟩ | ⟨i, rfl⟩ | ⟨i, rfl⟩ | ⟨i, rfl⟩ <;> simp [f_ranks_closed_sets, kxs, kx, kv, kvs, kvO, nt, bnd, ret, goOut, opt, truth, asgT, *]
theorem e_tutte (hb : NC b) (h : Exc F 20 [b] 1) : Exc (kmkF tr.get F F2) 58 [b] 1 := by unfold Exc at *; intro x1 x2 x3; rw [mk_eq (fd := f_tutte_tutte) rfl _ _ _ rfl]; rcases hb with ⟨i, rfl⟩ | ⟨i, rfl⟩ | ⟨i, rfl⟩ | ⟨i, rfl⟩ <;> simp [f_tutte_tutte, kxs, kx, kv, kvs, kvO, nt, bnd, ret, goOut, opt, truth, asgT, *]
theorem e_busy (hb : NC b) (h : Exc F 20 [b] 1) : Exc (kmkF tr.get F F2) 59 [b, c] 1 := by unfold Exc at *; intro x1 x2 x3; rw [mk_eq (fd := f_tutte_busy) rfl _ _ _ rfl]; rcases hb with ⟨i, rfl⟩ | ⟨i, rfl⟩ | ⟨i, rfl⟩ | ⟨i, rfl⟩ <;> simp [f_tutte_busy, kxs, kx, kv, kvs, kvO, nt, bnd, ret, goOut, opt, truth, asgT, *]
def tg : D := .obj [.int 3, .lst [.int 0, .int 1, .int 1, .int 2, .int 1, .int 2, .int 2, .int 2], .int 7, .int 2]
def Gives (F : FT) (f : Nat) (as : List D) (d : D) : Prop := ∀ a b r, F f as none (sto a b r) = .ok d (sto a b r)
theorem e_tables_of2 (hb : NC b) (hg : Gives F 20 [good] tg) (h : Exc F 20 [b] 1) : Exc (kmkF tr.get F F2) 47 [good, b] 1 := by unfold Exc Gives good tg at *; intro x1 x2 x3; rw [mk_eq (fd := f_pairs_tables_of) rfl _ _ _ rfl]; rcases hb with ⟨i, rfl⟩ | ⟨i, rfl⟩ | ⟨i, rfl⟩ | ⟨i, rfl⟩ <;> simp [f_pairs_tables_of, kxs, kx, kv, kvs, kvO, nt, bnd, ret, goOut, opt, truth, asgT, *]
theorem e_common (hb : NC b) (h : Exc F 47 [b, c] 1) (hc : NC c) : Exc (kmkF tr.get F F2) 48 [b, c] 1 := by
  unfold Exc at *
  rcases hc with ⟨j, rfl⟩ | ⟨j, rfl⟩ | ⟨j, rfl⟩ | ⟨j, rfl⟩ <;> (intro x1 x2 x3; rw [mk_eq (fd := f_pairs_common) rfl _ _ _ rfl]; rcases hb with ⟨i, rfl⟩ | ⟨i, rfl⟩ | ⟨i, rfl⟩ | ⟨i, rfl⟩ <;> simp [f_pairs_common, kxs, kx, kv, kvs, kvO, nt, bnd, ret, goOut, opt, truth, asgT, *])
theorem e_common2 (hb : NC b) (h : Exc F 47 [good, b] 1) : Exc (kmkF tr.get F F2) 48 [good, b] 1 := by unfold Exc good at *; intro x1 x2 x3; rw [mk_eq (fd := f_pairs_common) rfl _ _ _ rfl]; rcases hb with ⟨i, rfl⟩ | ⟨i, rfl⟩ | ⟨i, rfl⟩ | ⟨i, rfl⟩ <;> simp [f_pairs_common, kxs, kx, kv, kvs, kvO, nt, bnd, ret, goOut, opt, truth, asgT, *]
theorem e_heaviest2 (hb : NC b) (h : Exc F 47 [good, b] 1) : Exc (kmkF tr.get F F2) 49 [good, b, c] 1 := by unfold Exc good at *; intro x1 x2 x3; rw [mk_eq (fd := f_pairs_heaviest) rfl _ _ _ rfl]; rcases hb with ⟨i, rfl⟩ | ⟨i, rfl⟩ | ⟨i, rfl⟩ | ⟨i, rfl⟩ <;> simp [f_pairs_heaviest, kxs, kx, kv, kvs, kvO, nt, bnd, ret, goOut, opt, truth, asgT, *]
theorem e_alike2 (hb : NC b) (hg : Gives F 31 [good] tg) (h : Exc F 31 [b] 1) : Exc (kmkF tr.get F F2) 36 [good, b] 1 := by unfold Exc Gives good tg at *; intro x1 x2 x3; rw [mk_eq (fd := f_fields_alike) rfl _ _ _ rfl]; rcases hb with ⟨i, rfl⟩ | ⟨i, rfl⟩ | ⟨i, rfl⟩ | ⟨i, rfl⟩ <;> simp [f_fields_alike, kxs, kx, kv, kvs, kvO, nt, bnd, ret, goOut, opt, truth, asgT, *]
theorem e_part_like2 (hb : NC b) (hg : Gives F 31 [good] tg) (h : Exc F 31 [b] 1) : Exc (kmkF tr.get F F2) 37 [good, b] 1 := by unfold Exc Gives good tg at *; intro x1 x2 x3; rw [mk_eq (fd := f_fields_part_like) rfl _ _ _ rfl]; rcases hb with ⟨i, rfl⟩ | ⟨i, rfl⟩ | ⟨i, rfl⟩ | ⟨i, rfl⟩ <;> simp [f_fields_part_like, kxs, kx, kv, kvs, kvO, nt, bnd, ret, goOut, opt, truth, asgT, *]
end
theorem g20 : Gives (krun tr.get 76) 20 [good] tg := fun a b r => by kernel_rfl
theorem g20' : Gives (krun tr.get 75) 20 [good] tg := fun a b r => by kernel_rfl
theorem g31 : Gives (krun tr.get 76) 31 [good] tg := fun a b r => by kernel_rfl
end Fw.K01
end
section
set_option autoImplicit false
set_option maxRecDepth 100000
set_option linter.all false
set_option maxHeartbeats 4000000
/-! k01: the turn -/
namespace Fw.K01
open Fw
def rows61 : List D := match krun tr.get 79 63 [] none [] with
  | .ok (.lst xs) _ => xs
  | _ => []
def dualN : Nat → D
  | 0 => good
  | n + 1 => .tup [.str ⟨#[100, 117, 97, 108]⟩, dualN n]
def rows57 : List D := rows61 ++ [dualN 25]
def wraps (b : D) : List D := [.tup [.str ⟨#[100, 117, 97, 108]⟩, b], .tup [.str ⟨#[115, 117, 109]⟩, good, b], .tup [.str ⟨#[119, 105, 116, 104, 111, 117, 116]⟩, b, .tup []], .tup [.str ⟨#[98, 111, 116, 104]⟩, b, good]]
def allBad : List D := rows57 ++ rows57.flatMap wraps
def ncB : D → Bool
  | .int _ | .str _ | .tup _ | .lst _ => true
  | _ => false
theorem nc_of {d : D} (h : ncB d = true) : NC d := by
  cases d <;> simp only [ncB, Bool.false_eq_true] at h
  · exact .inl ⟨_, rfl⟩
  · exact .inr (.inl ⟨_, rfl⟩)
  · exact .inr (.inr (.inl ⟨_, rfl⟩))
  · exact .inr (.inr (.inr ⟨_, rfl⟩))
theorem len57 : rows57.length = 57 := by decide +kernel
theorem all_nc : allBad.all ncB = true := by decide +kernel
theorem map_const {α β : Type} {f : α → β} {v : β} : ∀ {l : List α}, l.map f = l.map (fun _ => v) → ∀ x ∈ l, f x = v
  | [], _, x, h => by cases h
  | y :: l, e, x, h => by
    rw [List.map_cons, List.map_cons] at e
    injection e with e1 e2
    rcases List.mem_cons.mp h with rfl | h
    · exact e1
    · exact map_const e2 x h
theorem bad76 (a b : Int) (r : List D) : (allBad.map fun d => krun tr.get 76 20 [d] none (sto a b r)) = allBad.map fun _ => .exc 1 (sto a b r) := by kernel_rfl
theorem bad75 (a b : Int) (r : List D) : (allBad.map fun d => krun tr.get 75 20 [d] none (sto a b r)) = allBad.map fun _ => .exc 1 (sto a b r) := by kernel_rfl
end Fw.K01
end
section
set_option autoImplicit false
set_option maxRecDepth 100000
set_option linter.all false
set_option maxHeartbeats 4000000
/-! k01: the law -/
namespace Fw.K01
open Fw
def s0 : MS := .asg (.nm 12) (.sub (.var 2) (.call 62 [.var 1, .bi .len [.var 2]]))
def s1 : MS := .ifs (.cmp .eq (.call 62 [.var 1, .lit (.int 3)]) (.lit (.int 0))) [.asg (.nm 12) (.sub (.lst [.tup [.lit (.str ⟨#[100, 117, 97, 108]⟩), .var 12], .tup [.lit (.str ⟨#[115, 117, 109]⟩), .var 3, .var 12], .tup [.lit (.str ⟨#[119, 105, 116, 104, 111, 117, 116]⟩), .var 12, .tup []], .tup [.lit (.str ⟨#[98, 111, 116, 104]⟩), .var 12, .var 3]]) (.call 62 [.var 1, .lit (.int 4)]))] []
def s2 : MS := .asg (.nm 13) (.sub (.call 64 []) (.call 62 [.var 1, .lit (.int 8)]))
def s3 : MS := .for (.nm 11) .seq [.lst [.gl 13 (.fn 27), .gl 14 (.fn 28), .gl 15 (.fn 25), .gl 16 (.fn 54), .gl 17 (.fn 55), .gl 18 (.fn 56), .gl 19 (.fn 46), .gl 20 (.fn 58), .gl 21 (.fn 41), .gl 22 (.fn 42), .gl 23 (.fn 34), .gl 24 (.fn 35)]] [.ifs (.cmp .ne (.lam 65 [] [] (.callv (.var 11) [.var 12])) (.lit (.str ⟨#[109, 97, 116, 114, 111, 105, 100]⟩))) [.retn (.lit (.bl false))] []]
def s4 : MS := .for (.nm 11) .seq [.lst [.gl 25 (.fn 51), .gl 26 (.fn 52), .gl 27 (.fn 53), .gl 28 (.fn 39), .gl 29 (.fn 44), .gl 30 (.fn 45), .gl 31 (.fn 32), .gl 32 (.fn 50), .gl 33 (.fn 59)]] [.ifs (.cmp .ne (.lam 65 [] [] (.callv (.var 11) [.var 12, .var 13])) (.lit (.str ⟨#[109, 97, 116, 114, 111, 105, 100]⟩))) [.retn (.lit (.bl false))] []]
def s5 : MS := .for (.nm 11) .seq [.lst [.gl 34 (.fn 48), .gl 35 (.fn 36), .gl 36 (.fn 37)]] [.ifs (.cmp .ne (.lam 65 [] [] (.callv (.var 11) [.var 12, .var 3])) (.lit (.str ⟨#[109, 97, 116, 114, 111, 105, 100]⟩))) [.retn (.lit (.bl false))] [], .ifs (.cmp .ne (.lam 65 [] [] (.callv (.var 11) [.var 3, .var 12])) (.lit (.str ⟨#[109, 97, 116, 114, 111, 105, 100]⟩))) [.retn (.lit (.bl false))] []]
def s6 : MS := .ifs (.cmp .ne (.lam 65 [] [] (.call 49 [.var 3, .var 12, .lit (.int 3)])) (.lit (.str ⟨#[109, 97, 116, 114, 111, 105, 100]⟩))) [.retn (.lit (.bl false))] []
def s7 : MS := .for (.nm 11) .seq [.lst [.gl 25 (.fn 51), .gl 26 (.fn 52), .gl 27 (.fn 53), .gl 33 (.fn 59)]] [.ifs (.cmp .ne (.lam 65 [] [] (.callv (.var 11) [.var 3, .var 13])) (.lit (.str ⟨#[115, 101, 116]⟩))) [.retn (.lit (.bl false))] []]
def b0 : MS := .asg (.nm 1) (.newr (.call 61 [.var 0, .lit (.int 0)]))
def b1 : MS := .asg (.nm 2) (.newr (.call 63 []))
def b2 : MS := .asg (.nm 3) (.tup [.lit (.str ⟨#[117, 110, 105, 102, 111, 114, 109]⟩), .lit (.int 2), .lit (.int 3)])
def b3 : MS := .asg (.nm 4) (.var 3)
def b4 : MS := .for (.nm 5) .rng [.lit (.int 25)] [.asg (.nm 4) (.tup [.lit (.str ⟨#[100, 117, 97, 108]⟩), .var 4])]
def b5 : MS := .app (.var 2) (.var 4)
def b7 : MS := .for (.nm 6) .seq [.lst [.lit (.int 3), .tup [.lit (.int 1), .lit (.int 2)], .tup [.lit (.int 1), .lit (.int 2), .lit (.int 3), .lit (.int 4)], .tup [.lit (.int 1), .lit (.int 2), .lit (.str ⟨#[51]⟩)], .lst [.lit (.int 1), .lit (.int 2), .lit (.int 3)], .tup [.lit (.int 1), .lit (.int 2), .lit (.int 1001)], .tup [.lit (.int 1), .lit (.int 2), .neg (.lit (.int 1001))], .tup [.lit (.int 1), .lit (.int 2), .lit (.bl true)]]] [.ifs (.cmp .ne (.lam 65 [] [] (.call 39 [.var 3, .var 6])) (.lit (.str ⟨#[119, 101, 105, 103, 104, 116, 115]⟩))) [.retn (.lit (.bl false))] [], .ifs (.cmp .ne (.lam 65 [] [] (.call 49 [.var 3, .var 3, .var 6])) (.lit (.str ⟨#[119, 101, 105, 103, 104, 116, 115]⟩))) [.retn (.lit (.bl false))] []]
def b8 : MS := .for (.nm 7) .seq [.lst [.lit (.int 0), .lit (.int 11), .lit (.str ⟨#[49]⟩), .lit (.bl true), .neg (.lit (.int 1))]] [.ifs (.cmp .ne (.lam 65 [] [] (.call 44 [.var 3, .var 7])) (.lit (.str ⟨#[114, 97, 110, 103, 101]⟩))) [.retn (.lit (.bl false))] [], .ifs (.cmp .ne (.lam 65 [] [] (.call 45 [.var 3, .var 7])) (.lit (.str ⟨#[114, 97, 110, 103, 101]⟩))) [.retn (.lit (.bl false))] []]
def b9 : MS := .for (.nm 8) .seq [.lst [.lit (.int 1), .lit (.int 5), .lit (.int 0), .lit (.str ⟨#[50]⟩), .lit (.int 4)]] [.ifs (.cmp .ne (.lam 65 [] [] (.call 32 [.var 3, .var 8])) (.lit (.str ⟨#[114, 97, 110, 103, 101]⟩))) [.retn (.lit (.bl false))] []]
def b10 : MS := .for (.nm 9) .seq [.lst [.lit (.int 3), .tup [.lit (.int 3)], .tup [.tup [.lit (.int 3)]], .tup [.tup [.lit (.int 1), .lit (.int 0)]], .lst [.tup [.lit (.int 0)]]]] [.ifs (.cmp .ne (.lam 65 [] [] (.call 50 [.var 3, .var 9])) (.lit (.str ⟨#[115, 101, 116]⟩))) [.retn (.lit (.bl false))] []]
def b11 : MS := .asg (.nm 10) (.tup [.lit (.str ⟨#[117, 110, 105, 102, 111, 114, 109]⟩), .lit (.int 1), .lit (.int 9)])
def b12 : MS := .for (.nm 11) .seq [.lst [.gl 23 (.fn 34), .gl 24 (.fn 35), .gl 22 (.fn 42)]] [.ifs (.cmp .ne (.lam 65 [] [] (.callv (.var 11) [.var 10])) (.lit (.str ⟨#[109, 97, 116, 114, 111, 105, 100]⟩))) [.retn (.lit (.bl false))] []]
def b13 : MS := .ifs (.cmp .ne (.lam 65 [] [] (.call 46 [.tup [.lit (.str ⟨#[117, 110, 105, 102, 111, 114, 109]⟩), .lit (.int 0), .lit (.int 2)]])) (.lit (.str ⟨#[114, 97, 110, 103, 101]⟩))) [.retn (.lit (.bl false))] []
def b14 : MS := .retn (.cmp .eq (.lam 65 [] [] (.call 48 [.var 3, .tup [.lit (.str ⟨#[117, 110, 105, 102, 111, 114, 109]⟩), .lit (.int 1), .lit (.int 2)]])) (.lit (.str ⟨#[114, 97, 110, 103, 101]⟩)))
def turnL : List MS := [s0, s1, s2, s3, s4, s5, s6, s7]
def b6 : MS := .for (.nm 5) .rng [.lit (.int 6)] turnL
def tailL : List MS := [b7, b8, b9, b10, b11, b12, b13, b14]
theorem body_eq : f_law_law_k01.body = [b0, b1, b2, b3, b4, b5, b6] ++ tailL := rfl
abbrev F79 : FT := krun tr.get 79
abbrev F77 : FT := krun tr.get 77
def env (x dp : D) (t c b s : Option D) : Env := [some x, some (.ref 0), some (.ref 1), some good, some dp, t, none, none, none, none, none, c, b, s]
theorem seq {F F2 : FT} {c : MS} {cs : List MS} {n : Nat} {ρ ρ' : Env} {s s' : Sto} {r : R Fl} (h : kx F F2 none c n ρ s = .ok (.nx ρ') s') (h2 : kxs F F2 none cs n ρ' s' = r) : kxs F F2 none (c :: cs) n ρ s = r := by
  simp only [kxs, bnd, h, h2]
theorem seqs {F F2 : FT} {cs es : List MS} {n : Nat} {ρ ρ' : Env} {s s' : Sto} {r : R Fl} (h : kxs F F2 none cs n ρ s = .ok (.nx ρ') s') (h2 : kxs F F2 none es n ρ' s' = r) : kxs F F2 none (cs ++ es) n ρ s = r := by
  induction cs generalizing ρ s with
  | nil =>
    simp only [kxs, ret] at h
    cases h
    exact h2
  | cons c cs ih =>
    simp only [kxs, bnd] at h
    rw [List.cons_append]
    simp only [kxs, bnd]
    cases e : kx F F2 none c n ρ s with
    | ok fl s1 =>
      rw [e] at h
      cases fl with
      | nx ρ1 => exact ih h
      | rt d => simp only [ret] at h; cases h
      | bk ρ1 => simp only [ret] at h; cases h
    | exc k s1 => rw [e] at h; cases h
    | stuck => rw [e] at h; cases h
/-! ### a draw -/
theorem draw (a b h : Int) (r : List D) (h0 : 0 < h) (h1 : h.natAbs < 1073741824) : ∃ k a' b', 0 ≤ k ∧ k < h ∧ F79 62 [.ref 0, .int h] none (sto a b r) = .ok (.int k) (sto a' b' r) := by
  have hne : h ≠ 0 := by omega
  by_cases ha : a > 0
  · refine ⟨a.fmod h, a.fdiv h, b, Int.fmod_nonneg_of_pos _ h0, Int.fmod_lt_of_pos _ h0, ?_⟩
    rw [show F79 = kmkF tr.get (krun tr.get 78) (krun tr.get 76) from rfl, mk_eq (fd := f_law__law_draw) rfl _ _ _ rfl]
    simp [f_law__law_draw, kxs, kx, kv, kvs, nt, bnd, ret, goOut, opt, truth, asgT, subOp, view, place, biOp, cmpOp, binOp, intOp, setOp, store, sto, D.noref, ha, h1, hne, leave]
  · refine ⟨(((69621 * b).fmod 2147483647).fdiv 7).fmod h, a, (69621 * b).fmod 2147483647, Int.fmod_nonneg_of_pos _ h0, Int.fmod_lt_of_pos _ h0, ?_⟩
    rw [show F79 = kmkF tr.get (krun tr.get 78) (krun tr.get 76) from rfl, mk_eq (fd := f_law__law_draw) rfl _ _ _ rfl]
    simp [f_law__law_draw, kxs, kx, kv, kvs, nt, bnd, ret, goOut, opt, truth, asgT, subOp, view, place, biOp, cmpOp, binOp, intOp, setOp, store, sto, D.noref, ha, h1, hne, leave]


/-! ### errors as words -/
def wd : Nat → PySem.Str
  | 1 => ⟨#[109, 97, 116, 114, 111, 105, 100]⟩
  | 2 => ⟨#[115, 101, 116]⟩
  | 3 => ⟨#[119, 101, 105, 103, 104, 116, 115]⟩
  | _ => ⟨#[114, 97, 110, 103, 101]⟩
theorem err_word {g : List D → M D} {a b : Int} {r : List D} {k : Nat} (hk : k = 1 ∨ k = 2) (h : g [] (sto a b r) = .exc k (sto a b r)) : F79 65 [.clo] (some g) (sto a b r) = .ok (.str (wd k)) (sto a b r) := by
  rw [show F79 = kmkF tr.get (krun tr.get 78) (krun tr.get 76) from rfl, mk_eq (fd := f_law__law_error) rfl _ _ _ rfl]
  rcases hk with rfl | rfl <;>
  simp [f_law__law_error, kxs, kx, kv, kvs, nt, bnd, ret, goOut, h, handle, isBelow, leave, wd]
def chkS (k : Nat) (e : ME) : MS := .ifs (.cmp .ne (.lam 65 [] [] e) (.lit (.str (wd k)))) [.retn (.lit (.bl false))] []
theorem eqv_str (x : PySem.Str) : D.eqv (.str x) (.str x) = true := by
  simp [D.eqv]
/-- a test that passes -/
theorem chk_ok {e : ME} {n k : Nat} {ρ : Env} {a b : Int} {r : List D} (hk : k = 1 ∨ k = 2) (h : (kv e F77 .none none).1 2 ρ (sto a b r) = .exc k (sto a b r)) : kx F79 F77 none (chkS k e) n ρ (sto a b r) = .ok (.nx ρ) (sto a b r) := by
  have hg : closure (kv e F77 .none none).1 [] ρ [] (sto a b r) = .exc k (sto a b r) := by
    simp only [closure, setAll]
    rw [show (sto a b r).length = 2 from rfl, h]
    rfl
  have hw := err_word hk hg
  unfold chkS
  simp only [kx, kv, nt, kvs, bnd, ret, List.nil_append, hw]
  simp [cmpOp, view, D.plain, D.plainN, eqv_str, opt, truth, ret, kxs]
/-- functions in a row -/
theorem loop_ok {e : ME} {k : Nat} (hk : k = 1 ∨ k = 2) {x dp : D} {t b s : Option D} {a1 a2 : Int} {r : List D} {st : Sto → Bool} (hst : ∀ Z, st Z = true) : ∀ (gs : List Nat) (c : Option D), (∀ g ∈ gs, (kv e F77 .none none).1 2 (env x dp t (some (.fn g)) b s) (sto a1 a2 r) = .exc k (sto a1 a2 r)) →
    ∃ c', forLoop st (.nm 11) (fun ρ => kxs F79 F77 none [chkS k e] 0 ρ) (gs.map D.fn) (env x dp t c b s) (sto a1 a2 r) = .ok (.nx (env x dp t c' b s)) (sto a1 a2 r)
  | [], c, _ => ⟨c, by simp only [List.map_nil, forLoop, hst, if_true]⟩
  | g :: gs, c, h => by
    obtain ⟨c', ih⟩ := loop_ok hk hst gs (some (.fn g)) fun g' hg => h g' (List.mem_cons_of_mem _ hg)
    refine ⟨c', ?_⟩
    have h1 := chk_ok (n := 0) hk (h g List.mem_cons_self)
    simp only [List.map_cons, forLoop, hst, if_true]
    rw [show asgT (.nm 11) (.fn g) (env x dp t c b s) (sto a1 a2 r) = some (env x dp t (some (.fn g)) b s) from rfl]
    have hbody : kxs F79 F77 none [chkS k e] 0 (env x dp t (some (.fn g)) b s) (sto a1 a2 r) = .ok (.nx (env x dp t (some (.fn g)) b s)) (sto a1 a2 r) := seq h1 rfl
    simp only [bnd]
    rw [hbody]
    exact ih
theorem loop_ok2 {e1 e2 : ME} {x dp : D} {t b s : Option D} {a1 a2 : Int} {r : List D} {st : Sto → Bool} (hst : ∀ Z, st Z = true) : ∀ (gs : List Nat) (c : Option D), (∀ g ∈ gs, (kv e1 F77 .none none).1 2 (env x dp t (some (.fn g)) b s) (sto a1 a2 r) = .exc 1 (sto a1 a2 r) ∧ (kv e2 F77 .none none).1 2 (env x dp t (some (.fn g)) b s) (sto a1 a2 r) = .exc 1 (sto a1 a2 r)) →
    ∃ c', forLoop st (.nm 11) (fun ρ => kxs F79 F77 none [chkS 1 e1, chkS 1 e2] 0 ρ) (gs.map D.fn) (env x dp t c b s) (sto a1 a2 r) = .ok (.nx (env x dp t c' b s)) (sto a1 a2 r)
  | [], c, _ => ⟨c, by simp only [List.map_nil, forLoop, hst, if_true]⟩
  | g :: gs, c, h => by
    obtain ⟨c', ih⟩ := loop_ok2 hst gs (some (.fn g)) fun g' hg => h g' (List.mem_cons_of_mem _ hg)
    refine ⟨c', ?_⟩
    obtain ⟨p1, p2⟩ := h g List.mem_cons_self
    have h1 := chk_ok (n := 0) (.inl rfl) p1
    have h2 := chk_ok (n := 0) (.inl rfl) p2
    simp only [List.map_cons, forLoop, hst, if_true]
    rw [show asgT (.nm 11) (.fn g) (env x dp t c b s) (sto a1 a2 r) = some (env x dp t (some (.fn g)) b s) from rfl]
    have hbody : kxs F79 F77 none [chkS 1 e1, chkS 1 e2] 0 (env x dp t (some (.fn g)) b s) (sto a1 a2 r) = .ok (.nx (env x dp t (some (.fn g)) b s)) (sto a1 a2 r) := seq h1 (seq h2 rfl)
    simp only [bnd]
    rw [hbody]
    exact ih
/-! ### the five groups of calls -/
section
variable {x dp bd sm : D} {t c : Option D} {a1 a2 : Int} {r : List D} (hb : NC bd) (hs : NC sm) (h76 : Exc (krun tr.get 76) 20 [bd] 1) (h75 : Exc (krun tr.get 75) 20 [bd] 1)
theorem nv {d : D} (h : NC d) {i n : Nat} {ρ : Env} {F F2 : FT} {cl : Option (List D → M D)} (hi : ρ[i]? = some (some d)) : (kv (.var i) F F2 cl).1 n ρ = ret d := by
  rcases h with ⟨i, rfl⟩ | ⟨i, rfl⟩ | ⟨i, rfl⟩ | ⟨i, rfl⟩ <;> simp only [kv, nt, hi]
theorem cv1 {g : Nat} {ρ : Env} {k : Nat} {i : Nat} {d : D} (hd : NC d) (h11 : ρ[11]? = some (some (.fn g))) (hi : ρ[i]? = some (some d)) (h : Exc F77 g [d] k) : (kv (.callv (.var 11) [.var i]) F77 .none none).1 2 ρ (sto a1 a2 r) = .exc k (sto a1 a2 r) := by
  have e := nv (n := 2) (F := F77) (F2 := .none) (cl := none) hd hi
  have e2 : (kv (.var 11) F77 .none none).1 2 ρ = ret (.fn g) := by simp only [kv, nt, h11]
  have h' := h a1 a2 r
  rw [kv]
  simp only [nt, bnd, kvs, e, e2, ret, h']
theorem cv2 {g : Nat} {ρ : Env} {k : Nat} {i j : Nat} {d d' : D} (hd : NC d) (hd' : NC d') (h11 : ρ[11]? = some (some (.fn g))) (hi : ρ[i]? = some (some d)) (hj : ρ[j]? = some (some d')) (h : Exc F77 g [d, d'] k) : (kv (.callv (.var 11) [.var i, .var j]) F77 .none none).1 2 ρ (sto a1 a2 r) = .exc k (sto a1 a2 r) := by
  have e := nv (n := 2) (F := F77) (F2 := .none) (cl := none) hd hi
  have e' := nv (n := 2) (F := F77) (F2 := .none) (cl := none) hd' hj
  have e2 : (kv (.var 11) F77 .none none).1 2 ρ = ret (.fn g) := by simp only [kv, nt, h11]
  have h' := h a1 a2 r
  rw [kv]
  simp only [nt, bnd, kvs, e, e', e2, ret, h']
/-- F77's calls -/
theorem up {g : Nat} {as : List D} {k : Nat} (h : Exc (kmkF tr.get (krun tr.get 76) (krun tr.get 74)) g as k) : Exc F77 g as k := h
theorem grp1 (hb : NC bd) (h76 : Exc (krun tr.get 76) 20 [bd] 1) (h75 : Exc (krun tr.get 75) 20 [bd] 1) : ∀ g ∈ [27, 28, 25, 54, 55, 56, 46, 58, 41, 42, 34, 35], Exc F77 g [bd] 1 := by
  have h31 : Exc (krun tr.get 76) 31 [bd] 1 := e_small (F2 := krun tr.get 73) hb h75
  intro g hg
  simp only [List.mem_cons, List.not_mem_nil, or_false] at hg
  rcases hg with rfl | rfl | rfl | rfl | rfl | rfl | rfl | rfl | rfl | rfl | rfl | rfl
  · exact up (e_bases hb h76)
  · exact up (e_plain hb h76)
  · exact up (e_size hb h76)
  · exact up (e_rounds hb h76)
  · exact up (e_cuts hb h76)
  · exact up (e_closed_sets hb h76)
  · exact up (e_strength hb h76)
  · exact up (e_tutte hb h76)
  · exact up (e_parts hb h76)
  · exact up (e_parting hb h76)
  · exact up (e_every hb h31)
  · exact up (e_net_of hb h31)
theorem grp2 (hb : NC bd) (h76 : Exc (krun tr.get 76) 20 [bd] 1) (h75 : Exc (krun tr.get 75) 20 [bd] 1) : ∀ g ∈ [51, 52, 53, 39, 44, 45, 32, 50, 59], Exc F77 g [bd, sm] 1 := by
  have h31 : Exc (krun tr.get 76) 31 [bd] 1 := e_small (F2 := krun tr.get 73) hb h75
  intro g hg
  simp only [List.mem_cons, List.not_mem_nil, or_false] at hg
  rcases hg with rfl | rfl | rfl | rfl | rfl | rfl | rfl | rfl | rfl
  · exact up (e_rank hb h76)
  · exact up (e_is_free hb h76)
  · exact up (e_closure hb h76)
  · exact up (e_best hb h76)
  · exact up (e_bases_apart hb h76)
  · exact up (e_parted hb h76)
  · exact up (e_over hb h31)
  · exact up (e_free_choice hb h76)
  · exact up (e_busy hb h76)
theorem ncGood : NC good := .inr (.inr (.inl ⟨_, rfl⟩))
theorem grp3 (hb : NC bd) (h76 : Exc (krun tr.get 76) 20 [bd] 1) (h75 : Exc (krun tr.get 75) 20 [bd] 1) : ∀ g ∈ [48, 36, 37], Exc F77 g [bd, good] 1 ∧ Exc F77 g [good, bd] 1 := by
  have h31 : Exc (krun tr.get 76) 31 [bd] 1 := e_small (F2 := krun tr.get 73) hb h75
  have h47 : Exc (krun tr.get 76) 47 [bd, good] 1 := e_tables_of (F2 := krun tr.get 73) hb h75
  have h47' : Exc (krun tr.get 76) 47 [good, bd] 1 := e_tables_of2 (F2 := krun tr.get 73) hb g20' h75
  intro g hg
  simp only [List.mem_cons, List.not_mem_nil, or_false] at hg
  rcases hg with rfl | rfl | rfl
  · exact ⟨up (e_common hb h47 ncGood), up (e_common2 hb h47')⟩
  · exact ⟨up (e_alike hb h31), up (e_alike2 hb g31 h31)⟩
  · exact ⟨up (e_part_like hb h31), up (e_part_like2 hb g31 h31)⟩
theorem grp4 (hb : NC bd) (h75 : Exc (krun tr.get 75) 20 [bd] 1) : Exc F77 49 [good, bd, .int 3] 1 := by
  have h47' : Exc (krun tr.get 76) 47 [good, bd] 1 := e_tables_of2 (F2 := krun tr.get 73) hb g20' h75
  exact up (e_heaviest2 hb h47')
def bads8 : List D := [.int 3, .tup [.int 3], .tup [.int 1, .int 0], .tup [.int 0, .int 0], .lst [.int 0], .tup [.str ⟨#[48]⟩], .tup [.int (-1)], .tup [.bl true]]
theorem bad8 (a b : Int) (r : List D) : ([51, 52, 53, 59].flatMap fun g => bads8.map fun d => F77 g [good, d] none (sto a b r)) = [51, 52, 53, 59].flatMap fun g => bads8.map fun _ => .exc 2 (sto a b r) := by kernel_rfl
theorem flat_const {α β γ : Type} {f : α → γ → β} {v : β} {ys : List γ} : ∀ {l : List α}, (l.flatMap fun x => ys.map (f x)) = (l.flatMap fun _ => ys.map fun _ => v) → ∀ x ∈ l, ∀ y ∈ ys, f x y = v
  | [], _, x, h => by cases h
  | z :: l, e, x, h => by
    rw [List.flatMap_cons, List.flatMap_cons] at e
    obtain ⟨e1, e2⟩ := List.append_inj e (by simp)
    intro y hy
    rcases List.mem_cons.mp h with rfl | h
    · exact map_const e1 y hy
    · exact flat_const e2 x h y hy
theorem grp5 : ∀ g ∈ [51, 52, 53, 59], ∀ d ∈ bads8, Exc F77 g [good, d] 2 := fun g hg d hd a b r => flat_const (bad8 a b r) g hg d hd
end
end Fw.K01
end
section
set_option autoImplicit false
set_option maxRecDepth 100000
set_option linter.all false
set_option maxHeartbeats 4000000
/-! k01: the law -/
namespace Fw.K01
open Fw
section
variable {x dp : D} {t c b s : Option D}
def g1 : List Nat := [27, 28, 25, 54, 55, 56, 46, 58, 41, 42, 34, 35]
def g2 : List Nat := [51, 52, 53, 39, 44, 45, 32, 50, 59]
def g3 : List Nat := [48, 36, 37]
def g4 : List Nat := [51, 52, 53, 59]
def stT : Sto → Bool := fun _ => true
theorem s3_eq (ρ : Env) (Z : Sto) : kx F79 F77 none s3 0 ρ Z = forLoop (stays .seq [.lst (g1.map D.fn)] (g1.map D.fn)) (.nm 11) (fun ρ => kxs F79 F77 none [chkS 1 (.callv (.var 11) [.var 12])] 0 ρ) (g1.map D.fn) ρ Z := rfl
theorem s4_eq (ρ : Env) (Z : Sto) : kx F79 F77 none s4 0 ρ Z = forLoop (stays .seq [.lst (g2.map D.fn)] (g2.map D.fn)) (.nm 11) (fun ρ => kxs F79 F77 none [chkS 1 (.callv (.var 11) [.var 12, .var 13])] 0 ρ) (g2.map D.fn) ρ Z := rfl
theorem s5_eq (ρ : Env) (Z : Sto) : kx F79 F77 none s5 0 ρ Z = forLoop (stays .seq [.lst (g3.map D.fn)] (g3.map D.fn)) (.nm 11) (fun ρ => kxs F79 F77 none [chkS 1 (.callv (.var 11) [.var 12, .var 3]), chkS 1 (.callv (.var 11) [.var 3, .var 12])] 0 ρ) (g3.map D.fn) ρ Z := rfl
theorem s6_eq : s6 = chkS 1 (.call 49 [.var 3, .var 12, .lit (.int 3)]) := rfl
theorem s7_eq (ρ : Env) (Z : Sto) : kx F79 F77 none s7 0 ρ Z = forLoop (stays .seq [.lst (g4.map D.fn)] (g4.map D.fn)) (.nm 11) (fun ρ => kxs F79 F77 none [chkS 2 (.callv (.var 11) [.var 3, .var 13])] 0 ρ) (g4.map D.fn) ρ Z := rfl
theorem st_true (gs : List Nat) (Z : Sto) : stays .seq [.lst (gs.map D.fn)] (gs.map D.fn) Z = true := by
  simp [stays, isRef]
/-- behind the draws -/
theorem rest {bd sm : D} {a1 a2 : Int} {r : List D} (hbd : bd ∈ allBad) (hsm : sm ∈ bads8) : ∃ c', kxs F79 F77 none [s3, s4, s5, s6, s7] 0 (env x dp t c (some bd) (some sm)) (sto a1 a2 r) = .ok (.nx (env x dp t c' (some bd) (some sm))) (sto a1 a2 r) := by
  have hb : NC bd := nc_of (List.all_eq_true.mp all_nc bd hbd)
  have hs : NC sm := by
    simp only [bads8, List.mem_cons, List.not_mem_nil, or_false] at hsm
    rcases hsm with rfl | rfl | rfl | rfl | rfl | rfl | rfl | rfl <;> exact nc_of rfl
  have h76 : Exc (krun tr.get 76) 20 [bd] 1 := fun a b r => map_const (bad76 a b r) bd hbd
  have h75 : Exc (krun tr.get 75) 20 [bd] 1 := fun a b r => map_const (bad75 a b r) bd hbd
  have k1 := grp1 hb h76 h75
  have k2 := grp2 (sm := sm) hb h76 h75
  have k3 := grp3 hb h76 h75
  have k4 := grp4 hb h75
  obtain ⟨c1, e1⟩ := loop_ok (e := .callv (.var 11) [.var 12]) (x := x) (dp := dp) (t := t) (b := some bd) (s := some sm) (a1 := a1) (a2 := a2) (r := r) (.inl rfl) (st_true g1) g1 c fun g hg => cv1 hb rfl rfl (k1 g hg)
  obtain ⟨c2, e2⟩ := loop_ok (e := .callv (.var 11) [.var 12, .var 13]) (x := x) (dp := dp) (t := t) (b := some bd) (s := some sm) (a1 := a1) (a2 := a2) (r := r) (.inl rfl) (st_true g2) g2 c1 fun g hg => cv2 hb hs rfl rfl rfl (k2 g hg)
  obtain ⟨c3, e3⟩ := loop_ok2 (e1 := .callv (.var 11) [.var 12, .var 3]) (e2 := .callv (.var 11) [.var 3, .var 12]) (x := x) (dp := dp) (t := t) (b := some bd) (s := some sm) (a1 := a1) (a2 := a2) (r := r) (st_true g3) g3 c2 fun g hg => ⟨cv2 hb ncGood rfl rfl rfl (k3 g hg).1, cv2 ncGood hb rfl rfl rfl (k3 g hg).2⟩
  obtain ⟨c5, e5⟩ := loop_ok (e := .callv (.var 11) [.var 3, .var 13]) (k := 2) (x := x) (dp := dp) (t := t) (b := some bd) (s := some sm) (a1 := a1) (a2 := a2) (r := r) (.inr rfl) (st_true g4) g4 c3 fun g hg => cv2 ncGood hs rfl rfl rfl (grp5 g hg sm hsm)
  have e4 : kx F79 F77 none s6 0 (env x dp t c3 (some bd) (some sm)) (sto a1 a2 r) = .ok (.nx (env x dp t c3 (some bd) (some sm))) (sto a1 a2 r) := by
    rw [s6_eq]
    refine chk_ok (.inl rfl) ?_
    have n1 := nv (n := 2) (F := F77) (F2 := .none) (cl := none) (i := 12) (ρ := env x dp t c3 (some bd) (some sm)) hb rfl
    have n2 := nv (n := 2) (F := F77) (F2 := .none) (cl := none) (i := 3) (ρ := env x dp t c3 (some bd) (some sm)) ncGood rfl
    have n3 : (kv (.lit (.int 3)) F77 .none none).1 2 (env x dp t c3 (some bd) (some sm)) = ret (.int 3) := by simp only [kv, nt]
    have h' := k4 a1 a2 r
    rw [kv]
    simp only [nt, bnd, kvs, n1, n2, n3, ret, h']
  exact ⟨c5, seq ((s3_eq _ _).trans e1) (seq ((s4_eq _ _).trans e2) (seq ((s5_eq _ _).trans e3) (seq e4 (seq ((s7_eq _ _).trans e5) rfl))))⟩
/-! ### the draws -/
theorem wraps_mem {d w : D} (hd : d ∈ rows57) (hw : w ∈ wraps d) : w ∈ allBad := List.mem_append_right _ (List.mem_flatMap.mpr ⟨d, hd, hw⟩)
theorem get_mem {k : Int} {xs : List D} (h0 : 0 ≤ k) (h1 : k < xs.length) : ∃ d, xs[k.toNat]? = some d ∧ d ∈ xs ∧ place xs.length k = some k.toNat := by
  have hlt : k.toNat < xs.length := by omega
  exact ⟨xs[k.toNat], List.getElem?_eq_getElem hlt, List.getElem_mem hlt, by unfold place; rw [if_pos h0, if_pos h1]⟩
theorem drawE {e : ME} {ρ : Env} {h a b : Int} (h0 : 0 < h) (hh : h.natAbs < 1073741824) (h1 : ρ[1]? = some (some (.ref 0))) (he : (kv e F79 F77 none).1 0 ρ (sto a b rows57) = .ok (.int h) (sto a b rows57)) :
    ∃ k a' b', 0 ≤ k ∧ k < h ∧ (kv (.call 62 [.var 1, e]) F79 F77 none).1 0 ρ (sto a b rows57) = .ok (.int k) (sto a' b' rows57) := by
  obtain ⟨k, a', b', p0, p1, p2⟩ := draw a b h rows57 h0 hh
  refine ⟨k, a', b', p0, p1, ?_⟩
  have e1 : (kv (.var 1) F79 F77 none).1 0 ρ = ret (.ref 0) := by simp only [kv, nt, h1]
  rw [kv]
  simp only [nt, bnd, kvs, e1, ret, he, p2]
/-- xs[draw], xs a list that stands -/
theorem subE {u e : ME} {ρ : Env} {xs : List D} {y : D} {a b a' b' k : Int} {d : D} (hu : (kv u F79 F77 none).1 0 ρ (sto a b rows57) = .ok y (sto a b rows57)) (hy : ∀ Z, view Z y = .lst xs ∨ (y = .ref 1 ∧ xs = rows57)) (he : (kv e F79 F77 none).1 0 ρ (sto a b rows57) = .ok (.int k) (sto a' b' rows57)) (hp : place xs.length k = some k.toNat) (hd : xs[k.toNat]? = some d) :
    (kv (.sub u e) F79 F77 none).1 0 ρ (sto a b rows57) = .ok d (sto a' b' rows57) := by
  rw [kv]
  simp only [nt, bnd, hu, he]
  have hv : view (sto a' b' rows57) y = .lst xs := by
    rcases hy (sto a' b' rows57) with h | ⟨rfl, rfl⟩
    · exact h
    · rfl
  simp only [subOp, hv, hp, Option.bind_some, hd]
theorem asgE {i : Nat} {e : ME} {ρ ρ' : Env} {Z Z' : Sto} {d : D} (h : (kv e F79 F77 none).1 0 ρ Z = .ok d Z') (ha : asgT (.nm i) d ρ Z' = some ρ') : kx F79 F77 none (.asg (.nm i) e) 0 ρ Z = .ok (.nx ρ') Z' := by
  simp only [kx, bnd, h, ha]
theorem st0 (a b : Int) (bd sm : Option D) : ∃ d a' b', d ∈ rows57 ∧ kx F79 F77 none s0 0 (env x dp t c bd sm) (sto a b rows57) = .ok (.nx (env x dp t c (some d) sm)) (sto a' b' rows57) := by
  obtain ⟨k, a', b', h0, h1, e⟩ := drawE (e := .bi .len [.var 2]) (ρ := env x dp t c bd sm) (h := 57) (a := a) (b := b) (by decide) (by decide) rfl (by
    have e1 : (kv (.var 2) F79 F77 none).1 0 (env x dp t c bd sm) = ret (.ref 1) := by simp only [kv, nt, env]; rfl
    rw [kv]
    simp only [nt, bnd, kvs, e1, ret, biOp]
    rw [show view (sto a b rows57) (.ref 1) = .lst rows57 from rfl]
    simp only [len57]; rfl)
  obtain ⟨d, hd, hm, hp⟩ := get_mem (xs := rows57) h0 (by rw [len57]; exact h1)
  refine ⟨d, a', b', hm, asgE (subE (xs := rows57) (y := .ref 1) ?_ (fun _ => .inr ⟨rfl, rfl⟩) e hp hd) rfl⟩
  simp only [kv, nt, env]; rfl
theorem st1 (a b : Int) (bd : D) (sm : Option D) (hbd : bd ∈ rows57) : ∃ d a' b', d ∈ allBad ∧ kx F79 F77 none s1 0 (env x dp t c (some bd) sm) (sto a b rows57) = .ok (.nx (env x dp t c (some d) sm)) (sto a' b' rows57) := by
  obtain ⟨k, a', b', h0, h1, e⟩ := drawE (e := .lit (.int 3)) (ρ := env x dp t c (some bd) sm) (h := 3) (a := a) (b := b) (by decide) (by decide) rfl (by simp only [kv, nt, ret])
  have hb : NC bd := nc_of (List.all_eq_true.mp all_nc bd (List.mem_append_left _ hbd))
  have ht : (kv (.cmp .eq (.call 62 [.var 1, .lit (.int 3)]) (.lit (.int 0))) F79 F77 none).2 0 (env x dp t c (some bd) sm) (sto a b rows57) = .ok (decide (k = 0)) (sto a' b' rows57) := by
    rw [kv]
    simp only [nt, bnd, e]
    simp [kv, nt, ret, cmpOp, view, D.plain, D.plainN, D.eqv, opt, truth]
    by_cases hk : k = 0 <;> simp [hk]
  by_cases hk : k = 0
  · obtain ⟨k2, a2, b2, p0, p1, e2⟩ := drawE (e := .lit (.int 4)) (ρ := env x dp t c (some bd) sm) (h := 4) (a := a') (b := b') (by decide) (by decide) rfl (by simp only [kv, nt, ret])
    obtain ⟨d, hd, hm, hp⟩ := get_mem (xs := wraps bd) p0 (show k2 < ((wraps bd).length : Int) from p1)
    refine ⟨d, a2, b2, wraps_mem hbd hm, ?_⟩
    unfold s1
    have e3 : (kv (.lst [.tup [.lit (.str ⟨#[100, 117, 97, 108]⟩), .var 12], .tup [.lit (.str ⟨#[115, 117, 109]⟩), .var 3, .var 12], .tup [.lit (.str ⟨#[119, 105, 116, 104, 111, 117, 116]⟩), .var 12, .tup []], .tup [.lit (.str ⟨#[98, 111, 116, 104]⟩), .var 12, .var 3]]) F79 F77 none).1 0 (env x dp t c (some bd) sm) (sto a' b' rows57) = .ok (.lst (wraps bd)) (sto a' b' rows57) := by
      rcases hb with ⟨i, rfl⟩ | ⟨i, rfl⟩ | ⟨i, rfl⟩ | ⟨i, rfl⟩ <;> rfl
    have e4 := asgE (i := 12) (subE (xs := wraps bd) (y := .lst (wraps bd)) e3 (fun _ => .inl rfl) e2 hp hd) (show asgT (.nm 12) d (env x dp t c (some bd) sm) (sto a2 b2 rows57) = some (env x dp t c (some d) sm) from rfl)
    have e5 := seq e4 (show kxs F79 F77 none [] 0 (env x dp t c (some d) sm) (sto a2 b2 rows57) = .ok (.nx (env x dp t c (some d) sm)) (sto a2 b2 rows57) from rfl)
    rw [kx]
    simp only [bnd, ht, hk, decide_true, if_true]
    exact e5
  · refine ⟨bd, a', b', List.mem_append_left _ hbd, ?_⟩
    unfold s1
    rw [kx]
    simp only [bnd, ht, hk, decide_false, Bool.false_eq_true, if_false, kxs, ret]
theorem st2 (a b : Int) (bd sm : Option D) : ∃ d a' b', d ∈ bads8 ∧ kx F79 F77 none s2 0 (env x dp t c bd sm) (sto a b rows57) = .ok (.nx (env x dp t c bd (some d))) (sto a' b' rows57) := by
  obtain ⟨k, a', b', h0, h1, e⟩ := drawE (e := .lit (.int 8)) (ρ := env x dp t c bd sm) (h := 8) (a := a) (b := b) (by decide) (by decide) rfl (by simp only [kv, nt, ret])
  obtain ⟨d, hd, hm, hp⟩ := get_mem (xs := bads8) h0 (show k < (bads8.length : Int) from h1)
  refine ⟨d, a', b', hm, asgE (subE (xs := bads8) (y := .lst bads8) ?_ (fun _ => .inl rfl) e hp hd) rfl⟩
  kernel_rfl
theorem turn (a b : Int) (bd sm : Option D) : ∃ c' bd' sm' a' b', kxs F79 F77 none turnL 0 (env x dp t c bd sm) (sto a b rows57) = .ok (.nx (env x dp t c' bd' sm')) (sto a' b' rows57) := by
  obtain ⟨d0, a0, b0, m0, e0⟩ := st0 (x := x) (dp := dp) (t := t) (c := c) a b bd sm
  obtain ⟨d1, a1, b1, m1, e1⟩ := st1 (x := x) (dp := dp) (t := t) (c := c) a0 b0 d0 sm m0
  obtain ⟨d2, a2, b2, m2, e2⟩ := st2 (x := x) (dp := dp) (t := t) (c := c) a1 b1 (some d1) sm
  obtain ⟨c', e3⟩ := rest (x := x) (dp := dp) (t := t) (c := c) (a1 := a2) (a2 := b2) (r := rows57) m1 m2
  exact ⟨c', _, _, _, _, seq e0 (seq e1 (seq e2 e3))⟩
theorem turns {st : Sto → Bool} (hst : ∀ Z, st Z = true) : ∀ (xs : List D) (t c bd sm : Option D) (a b : Int), ∃ t' c' bd' sm' a' b', forLoop st (.nm 5) (fun ρ => kxs F79 F77 none turnL 0 ρ) xs (env x dp t c bd sm) (sto a b rows57) = .ok (.nx (env x dp t' c' bd' sm')) (sto a' b' rows57)
  | [], t, c, bd, sm, a, b => ⟨t, c, bd, sm, a, b, by simp only [forLoop, hst, if_true]⟩
  | y :: xs, t, c, bd, sm, a, b => by
    obtain ⟨c1, bd1, sm1, a1, b1, e⟩ := turn (x := x) (dp := dp) (t := some y) (c := c) a b bd sm
    obtain ⟨t', c', bd', sm', a', b', ih⟩ := turns hst xs (some y) c1 bd1 sm1 a1 b1
    refine ⟨t', c', bd', sm', a', b', ?_⟩
    simp only [forLoop, hst, if_true]
    rw [show asgT (.nm 5) y (env x dp t c bd sm) (sto a b rows57) = some (env x dp (some y) c bd sm) from rfl]
    simp only [bnd]
    rw [e]
    exact ih
theorem b6_ok (t c bd sm : Option D) (a b : Int) : ∃ t' c' bd' sm' a' b', kx F79 F77 none b6 0 (env x dp t c bd sm) (sto a b rows57) = .ok (.nx (env x dp t' c' bd' sm')) (sto a' b' rows57) := by
  have := turns (x := x) (dp := dp) (st := stays .rng [.int 6] (rangeL 0 6)) (fun Z => rfl) (rangeL 0 6) t c bd sm a b
  exact this
theorem tail_ok (t c bd sm : Option D) (a b : Int) : kxs F79 F77 none tailL 0 (env x dp t c bd sm) (sto a b rows57) = .ok (.rt (.bl true)) (sto a b rows57) := by
  kernel_rfl
end
/-! ### the beginning -/
theorem cell (ns : List Int) : ∃ k : Int, ∀ s, krun tr.get 78 60 [.scr ns, .int 0] none s = .ok (.int k) s := by
  cases ns with
  | nil =>
    refine ⟨0, fun s => ?_⟩
    rw [show krun tr.get 78 = kmkF tr.get (krun tr.get 77) (krun tr.get 75) from rfl, mk_eq (fd := f_law__law_cell) rfl _ _ _ rfl]
    simp [f_law__law_cell, kxs, kx, kv, kvs, nt, bnd, ret, goOut, opt, truth, biOp, view, cmpOp, leave]
  | cons z r =>
    refine ⟨if z < 0 then -z else z, fun s => ?_⟩
    rw [show krun tr.get 78 = kmkF tr.get (krun tr.get 77) (krun tr.get 75) from rfl, mk_eq (fd := f_law__law_cell) rfl _ _ _ rfl]
    have : (0 : Int) < (r.length : Int) + 1 := by omega
    simp [f_law__law_cell, kxs, kx, kv, kvs, nt, bnd, ret, goOut, opt, truth, biOp, view, cmpOp, leave, subOp, place, this]
theorem stream (ns : List Int) : ∃ k m : Int, F79 61 [.scr ns, .int 0] none [] = .ok (.lst [.int k, .int m]) [] := by
  obtain ⟨k, h⟩ := cell ns
  refine ⟨k, 1 + (48271 * k).fmod 2147483647, ?_⟩
  rw [show F79 = kmkF tr.get (krun tr.get 78) (krun tr.get 76) from rfl, mk_eq (fd := f_law__law_stream) rfl _ _ _ rfl]
  simp [f_law__law_stream, kxs, kx, kv, kvs, nt, bnd, ret, goOut, opt, truth, h, binOp, intOp, leave]
theorem start_ok (x : D) (k m : Int) : kxs F79 F77 none [b1, b2, b3, b4, b5] 0 [some x, some (.ref 0), none, none, none, none, none, none, none, none, none, none, none, none] [some (.lst [.int k, .int m])] = .ok (.nx (env x (dualN 25) (some (.int 24)) none none none)) (sto k m rows57) := by
  kernel_rfl
theorem law_true (ns : List Int) : ∃ Z, run tr.get 80 66 [.scr ns] none [] = .ok (.bl true) Z := by
  rw [krun_eq]
  obtain ⟨k, m, e⟩ := stream ns
  obtain ⟨t', c', bd', sm', a', b', e6⟩ := b6_ok (x := .scr ns) (dp := dualN 25) (some (.int 24)) none none none k m
  have h0 : kx F79 F77 none b0 0 [some (.scr ns), none, none, none, none, none, none, none, none, none, none, none, none, none] [] = .ok (.nx [some (.scr ns), some (.ref 0), none, none, none, none, none, none, none, none, none, none, none, none]) [some (.lst [.int k, .int m])] := by
    unfold b0
    refine asgE (d := .ref 0) ?_ rfl
    have e0 : (kv (.var 0) F79 F77 none).1 0 [some (.scr ns), none, none, none, none, none, none, none, none, none, none, none, none, none] = ret (.scr ns) := by simp only [kv, nt]; rfl
    have e1 : (kv (.lit (.int 0)) F79 F77 none).1 0 [some (.scr ns), none, none, none, none, none, none, none, none, none, none, none, none, none] = ret (.int 0) := by simp only [kv, nt]
    rw [kv]
    simp only [nt]
    rw [kv]
    simp only [nt, bnd, kvs, e0, e1, ret, e]
    rfl
  have hb := seq h0 (seqs (start_ok (.scr ns) k m) (seq e6 (tail_ok t' c' bd' sm' a' b')))
  refine ⟨[], ?_⟩
  rw [show krun tr.get 80 = kmkF tr.get F79 F77 from rfl, mk_eq (fd := f_law_law_k01) rfl _ _ _ rfl, body_eq]
  have hb' : kxs F79 F77 none ([b0, b1, b2, b3, b4, b5, b6] ++ tailL) 0 [some (.scr ns), none, none, none, none, none, none, none, none, none, none, none, none, none] [] = .ok (.rt (.bl true)) (sto a' b' rows57) := hb
  show goOut 0 (kxs F79 F77 none ([b0, b1, b2, b3, b4, b5, b6] ++ tailL) 0 [some (.scr ns), none, none, none, none, none, none, none, none, none, none, none, none, none] []) = _
  rw [hb']
  rfl
end Fw.K01
end
section
set_option Elab.async false
set_option linter.all false
set_option maxRecDepth 100000
set_option maxHeartbeats 4000000
namespace Fw.K01
open PySem PySem.Spec PyProof.Rows L2 LamX Fw
def top (i : Nat) : Stmt := PySem.Challenge.pw_freewithin_k01_errors.main.body.getD i (.Pass ⟨0, 0, 0, 0⟩)
def d0 : He.DefD := ⟨("is_integer", none), "is_integer", "is_integer", defArgs (top 16), defBody (top 16), defScope (top 16), [], []⟩
def d1 : He.DefD := ⟨("is_below", none), "is_below", "is_below", defArgs (top 17), defBody (top 17), defScope (top 17), [], []⟩
def d2 : He.DefD := ⟨("is_between", none), "is_between", "is_between", defArgs (top 18), defBody (top 18), defScope (top 18), [], []⟩
def d3 : He.DefD := ⟨("is_set", none), "is_set", "is_set", defArgs (top 19), defBody (top 19), defScope (top 19), [], []⟩
def d4 : He.DefD := ⟨("is_family", none), "is_family", "is_family", defArgs (top 20), defBody (top 20), defScope (top 20), [], []⟩
def d5 : He.DefD := ⟨("is_net", none), "is_net", "is_net", defArgs (top 21), defBody (top 21), defScope (top 21), [], []⟩
def d6 : He.DefD := ⟨("are_vectors", none), "are_vectors", "are_vectors", defArgs (top 22), defBody (top 22), defScope (top 22), [], []⟩
def d7 : He.DefD := ⟨("are_bounds", none), "are_bounds", "are_bounds", defArgs (top 23), defBody (top 23), defScope (top 23), [], []⟩
def d8 : He.DefD := ⟨("are_choices", none), "are_choices", "are_choices", defArgs (top 24), defBody (top 24), defScope (top 24), [], []⟩
def d9 : He.DefD := ⟨("check_set", none), "check_set", "check_set", defArgs (top 25), defBody (top 25), defScope (top 25), [], []⟩
def d10 : He.DefD := ⟨("check_weights", none), "check_weights", "check_weights", defArgs (top 26), defBody (top 26), defScope (top 26), [], []⟩
def d11 : He.DefD := ⟨("check_few", none), "check_few", "check_few", defArgs (top 27), defBody (top 27), defScope (top 27), [], []⟩
def d12 : He.DefD := ⟨("mask_of", none), "mask_of", "mask_of", defArgs (top 38), defBody (top 38), defScope (top 38), [], []⟩
def d13 : He.DefD := ⟨("set_of", none), "set_of", "set_of", defArgs (top 39), defBody (top 39), defScope (top 39), [], []⟩
def d14 : He.DefD := ⟨("many_of", none), "many_of", "many_of", defArgs (top 40), defBody (top 40), defScope (top 40), [], []⟩
def d15 : He.DefD := ⟨("by_free", none), "by_free", "by_free", defArgs (top 42), defBody (top 42), defScope (top 42), [], []⟩
def d67 : He.DefD := ⟨("has_no_ring", none), "has_no_ring", "has_no_ring", defArgs (top 43), defBody (top 43), defScope (top 43), [], []⟩
def d17 : He.DefD := ⟨("is_exchange", none), "is_exchange", "is_exchange", defArgs (top 47), defBody (top 47), defScope (top 47), [], []⟩
def d16 : He.DefD := ⟨("first_break", none), "first_break", "first_break", defArgs (top 48), defBody (top 48), defScope (top 48), [], []⟩
def d20 : He.DefD := ⟨("table_of", none), "table_of", "table_of", defArgs (top 49), defBody (top 49), defScope (top 49), [], []⟩
def d18 : He.DefD := ⟨("heads_of", none), "heads_of", "heads_of", defArgs (top 50), defBody (top 50), defScope (top 50), [], []⟩
def d19 : He.DefD := ⟨("made", none), "made", "made", defArgs (top 51), defBody (top 51), defScope (top 51), [], []⟩
def d21 : He.DefD := ⟨("plain_table", none), "plain_table", "plain_table", defArgs (top 52), defBody (top 52), defScope (top 52), [], []⟩
def d22 : He.DefD := ⟨("made_table", none), "made_table", "made_table", defArgs (top 53), defBody (top 53), defScope (top 53), [], []⟩
def d25 : He.DefD := ⟨("size", none), "size", "size", defArgs (top 57), defBody (top 57), defScope (top 57), [], []⟩
def d27 : He.DefD := ⟨("bases", none), "bases", "bases", defArgs (top 58), defBody (top 58), defScope (top 58), [], []⟩
def d28 : He.DefD := ⟨("plain", none), "plain", "plain", defArgs (top 59), defBody (top 59), defScope (top 59), [], []⟩
def d29 : He.DefD := ⟨("alike_tables", none), "alike_tables", "alike_tables", defArgs (top 70), defBody (top 70), defScope (top 70), [], []⟩
def d30 : He.DefD := ⟨("part_of", none), "part_of", "part_of", defArgs (top 71), defBody (top 71), defScope (top 71), [], []⟩
def d31 : He.DefD := ⟨("small", none), "small", "small", defArgs (top 75), defBody (top 75), defScope (top 75), [], []⟩
def d32 : He.DefD := ⟨("over", none), "over", "over", defArgs (top 84), defBody (top 84), defScope (top 84), [], []⟩
def d34 : He.DefD := ⟨("every", none), "every", "every", defArgs (top 85), defBody (top 85), defScope (top 85), [], []⟩
def d33 : He.DefD := ⟨("every_of", none), "every_of", "every_of", defArgs (top 86), defBody (top 86), defScope (top 86), [], []⟩
def d35 : He.DefD := ⟨("net_of", none), "net_of", "net_of", defArgs (top 87), defBody (top 87), defScope (top 87), [], []⟩
def d36 : He.DefD := ⟨("alike", none), "alike", "alike", defArgs (top 88), defBody (top 88), defScope (top 88), [], []⟩
def d37 : He.DefD := ⟨("part_like", none), "part_like", "part_like", defArgs (top 89), defBody (top 89), defScope (top 89), [], []⟩
def d39 : He.DefD := ⟨("best", none), "best", "best", defArgs (top 91), defBody (top 91), defScope (top 91), [], []⟩
def d41 : He.DefD := ⟨("parts", none), "parts", "parts", defArgs (top 94), defBody (top 94), defScope (top 94), [], []⟩
def d42 : He.DefD := ⟨("parting", none), "parting", "parting", defArgs (top 95), defBody (top 95), defScope (top 95), [], []⟩
def d43 : He.DefD := ⟨("check_number", none), "check_number", "check_number", defArgs (top 98), defBody (top 98), defScope (top 98), [], []⟩
def d44 : He.DefD := ⟨("bases_apart", none), "bases_apart", "bases_apart", defArgs (top 99), defBody (top 99), defScope (top 99), [], []⟩
def d45 : He.DefD := ⟨("parted", none), "parted", "parted", defArgs (top 101), defBody (top 101), defScope (top 101), [], []⟩
def d46 : He.DefD := ⟨("strength", none), "strength", "strength", defArgs (top 103), defBody (top 103), defScope (top 103), [], []⟩
def d47 : He.DefD := ⟨("tables_of", none), "tables_of", "tables_of", defArgs (top 105), defBody (top 105), defScope (top 105), [], []⟩
def d48 : He.DefD := ⟨("common_pairs", none), "common", "common", defArgs (top 107), defBody (top 107), defScope (top 107), [], []⟩
def d49 : He.DefD := ⟨("heaviest", none), "heaviest", "heaviest", defArgs (top 109), defBody (top 109), defScope (top 109), [], []⟩
def d50 : He.DefD := ⟨("free_choice", none), "free_choice", "free_choice", defArgs (top 111), defBody (top 111), defScope (top 111), [], []⟩
def d51 : He.DefD := ⟨("rank", none), "rank", "rank", defArgs (top 114), defBody (top 114), defScope (top 114), [], []⟩
def d52 : He.DefD := ⟨("is_free", none), "is_free", "is_free", defArgs (top 115), defBody (top 115), defScope (top 115), [], []⟩
def d53 : He.DefD := ⟨("closure", none), "closure", "closure", defArgs (top 116), defBody (top 116), defScope (top 116), [], []⟩
def d54 : He.DefD := ⟨("rounds", none), "rounds", "rounds", defArgs (top 117), defBody (top 117), defScope (top 117), [], []⟩
def d55 : He.DefD := ⟨("cuts", none), "cuts", "cuts", defArgs (top 118), defBody (top 118), defScope (top 118), [], []⟩
def d56 : He.DefD := ⟨("closed_sets", none), "closed_sets", "closed_sets", defArgs (top 119), defBody (top 119), defScope (top 119), [], []⟩
def d57 : He.DefD := ⟨("polynomial", none), "polynomial", "polynomial", defArgs (top 123), defBody (top 123), defScope (top 123), [], []⟩
def d58 : He.DefD := ⟨("tutte", none), "tutte", "tutte", defArgs (top 124), defBody (top 124), defScope (top 124), [], []⟩
def d59 : He.DefD := ⟨("busy", none), "busy", "busy", defArgs (top 125), defBody (top 125), defScope (top 125), [], []⟩
def d60 : He.DefD := ⟨("_law_cell", none), "_law_cell", "_law_cell", defArgs (top 127), defBody (top 127), defScope (top 127), [], []⟩
def d61 : He.DefD := ⟨("_law_stream", none), "_law_stream", "_law_stream", defArgs (top 128), defBody (top 128), defScope (top 128), [], []⟩
def d62 : He.DefD := ⟨("_law_draw", none), "_law_draw", "_law_draw", defArgs (top 129), defBody (top 129), defScope (top 129), [], []⟩
def d63 : He.DefD := ⟨("_law_bad_matroids", none), "_law_bad_matroids", "_law_bad_matroids", defArgs (top 132), defBody (top 132), defScope (top 132), [], []⟩
def d64 : He.DefD := ⟨("_law_bad_sets", none), "_law_bad_sets", "_law_bad_sets", defArgs (top 133), defBody (top 133), defScope (top 133), [], []⟩
def d65 : He.DefD := ⟨("_law_error", none), "_law_error", "_law_error", defArgs (top 134), defBody (top 134), defScope (top 134), [], []⟩
def d66 : He.DefD := ⟨("law", none), "law", "law", defArgs (top 135), defBody (top 135), defScope (top 135), [], []⟩
def d38 : He.DefD := ⟨("Table", some "is_free"), "is_free", "Table.is_free", defArgs (L2.inClass (top 41) 1), defBody (L2.inClass (top 41) 1), defScope (L2.inClass (top 41) 1), [], []⟩
def d26 : He.DefD := ⟨("Table", some "bases"), "bases", "Table.bases", defArgs (L2.inClass (top 41) 2), defBody (L2.inClass (top 41) 2), defScope (L2.inClass (top 41) 2), [], []⟩
def d40 : He.DefD := ⟨("Table", some "rounds"), "rounds", "Table.rounds", defArgs (L2.inClass (top 41) 4), defBody (L2.inClass (top 41) 4), defScope (L2.inClass (top 41) 4), [], []⟩
def d23 : He.DefD := ⟨("Table", some "dual"), "dual", "Table.dual", defArgs (L2.inClass (top 41) 5), defBody (L2.inClass (top 41) 5), defScope (L2.inClass (top 41) 5), [], []⟩
def d24 : He.DefD := ⟨("Table", some "onto"), "onto", "Table.onto", defArgs (L2.inClass (top 41) 6), defBody (L2.inClass (top 41) 6), defScope (L2.inClass (top 41) 6), [], []⟩
def dI : He.DefD := ⟨("Table", some "__init__"), "__init__", "Table.__init__", defArgs (L2.inClass (top 41) 0), defBody (L2.inClass (top 41) 0), defScope (L2.inClass (top 41) 0), [], []⟩
def ts0 : List DT := [⟨0, d0, f_checks_is_integer, f_checks_is_integer_N, ["thing"], none⟩,
  ⟨1, d1, f_checks_is_below, f_checks_is_below_N, ["thing", "bound"], none⟩,
  ⟨2, d2, f_checks_is_between, f_checks_is_between_N, ["thing", "low", "high"], none⟩,
  ⟨3, d3, f_checks_is_set, f_checks_is_set_N, ["thing", "bound"], none⟩,
  ⟨4, d4, f_checks_is_family, f_checks_is_family_N, ["thing", "bound"], none⟩,
  ⟨5, d5, f_checks_is_net, f_checks_is_net_N, ["v", "lines"], none⟩,
  ⟨6, d6, f_checks_are_vectors, f_checks_are_vectors_N, ["q", "rows"], none⟩,
  ⟨7, d7, f_checks_are_bounds, f_checks_are_bounds_N, ["n", "rows"], none⟩,
  ⟨8, d8, f_checks_are_choices, f_checks_are_choices_N, ["n", "sets"], none⟩,
  ⟨9, d9, f_checks_check_set, f_checks_check_set_N, ["n", "some"], none⟩,
  ⟨10, d10, f_checks_check_weights, f_checks_check_weights_N, ["n", "weights"], none⟩,
  ⟨11, d11, f_checks_check_few, f_checks_check_few_N, ["table", "most"], none⟩,
  ⟨12, d12, f_tables_mask_of, f_tables_mask_of_N, ["some"], none⟩,
  ⟨13, d13, f_tables_set_of, f_tables_set_of_N, ["mask"], none⟩,
  ⟨14, d14, f_tables_many_of, f_tables_many_of_N, ["mask"], none⟩,
  ⟨15, d15, f_tables_by_free, f_tables_by_free_N, ["n", "is_free"], some ("is_free", 1)⟩,
  ⟨67, d67, f_tables_has_no_ring, f_tables_has_no_ring_N, ["v", "lines", "some"], none⟩,
  ⟨17, d17, f_tables_is_exchange, f_tables_is_exchange_N, ["rows"], none⟩,
  ⟨16, d16, f_tables_first_break, f_tables_first_break_N, ["rows"], none⟩,
  ⟨20, d20, f_tables_table_of, f_tables_table_of_N, ["told"], none⟩,
  ⟨18, d18, f_tables_heads_of, f_tables_heads_of_N, ["told", "many"], none⟩,
  ⟨19, d19, f_tables_made, f_tables_made_N, ["told"], none⟩,
  ⟨21, d21, f_tables_plain_table, f_tables_plain_table_N, ["told"], none⟩,
  ⟨22, d22, f_tables_made_table, f_tables_made_table_N, ["told", "first"], none⟩,
  ⟨25, d25, f_told_size, f_told_size_N, ["M"], none⟩,
  ⟨27, d27, f_told_bases, f_told_bases_N, ["M"], none⟩,
  ⟨28, d28, f_told_plain, f_told_plain_N, ["M"], none⟩,
  ⟨29, d29, f_parts_alike_tables, f_parts_alike_tables_N, ["first", "second"], none⟩,
  ⟨30, d30, f_parts_part_of, f_parts_part_of_N, ["table", "other"], none⟩,
  ⟨31, d31, f_fields_small, f_fields_small_N, ["M"], none⟩]
def ts1 : List DT := [⟨32, d32, f_fields_over, f_fields_over_N, ["M", "q"], none⟩,
  ⟨34, d34, f_fields_every, f_fields_every_N, ["M"], none⟩,
  ⟨33, d33, f_fields_every_of, f_fields_every_of_N, ["table"], none⟩,
  ⟨35, d35, f_fields_net_of, f_fields_net_of_N, ["M"], none⟩,
  ⟨36, d36, f_fields_alike, f_fields_alike_N, ["M", "N"], none⟩,
  ⟨37, d37, f_fields_part_like, f_fields_part_like_N, ["M", "N"], none⟩,
  ⟨39, d39, f_greedy_best, f_greedy_best_N, ["M", "weights"], none⟩,
  ⟨41, d41, f_hanging_parts, f_hanging_parts_N, ["M"], none⟩,
  ⟨42, d42, f_hanging_parting, f_hanging_parting_N, ["M"], none⟩,
  ⟨43, d43, f_many_check_number, f_many_check_number_N, ["k"], none⟩,
  ⟨44, d44, f_many_bases_apart, f_many_bases_apart_N, ["M", "k"], none⟩,
  ⟨45, d45, f_many_parted, f_many_parted_N, ["M", "k"], none⟩,
  ⟨46, d46, f_many_strength, f_many_strength_N, ["M"], none⟩,
  ⟨47, d47, f_pairs_tables_of, f_pairs_tables_of_N, ["M", "N"], none⟩,
  ⟨48, d48, f_pairs_common, f_pairs_common_N, ["M", "N"], none⟩,
  ⟨49, d49, f_pairs_heaviest, f_pairs_heaviest_N, ["M", "N", "weights"], none⟩,
  ⟨50, d50, f_pairs_free_choice, f_pairs_free_choice_N, ["M", "sets"], none⟩,
  ⟨51, d51, f_ranks_rank, f_ranks_rank_N, ["M", "S"], none⟩,
  ⟨52, d52, f_ranks_is_free, f_ranks_is_free_N, ["M", "S"], none⟩,
  ⟨53, d53, f_ranks_closure, f_ranks_closure_N, ["M", "S"], none⟩,
  ⟨54, d54, f_ranks_rounds, f_ranks_rounds_N, ["M"], none⟩,
  ⟨55, d55, f_ranks_cuts, f_ranks_cuts_N, ["M"], none⟩,
  ⟨56, d56, f_ranks_closed_sets, f_ranks_closed_sets_N, ["M"], none⟩,
  ⟨57, d57, f_tutte_polynomial, f_tutte_polynomial_N, ["table"], none⟩,
  ⟨58, d58, f_tutte_tutte, f_tutte_tutte_N, ["M"], none⟩,
  ⟨59, d59, f_tutte_busy, f_tutte_busy_N, ["M", "B"], none⟩,
  ⟨60, d60, f_law__law_cell, f_law__law_cell_N, ["script", "k"], none⟩,
  ⟨61, d61, f_law__law_stream, f_law__law_stream_N, ["script", "k"], none⟩,
  ⟨62, d62, f_law__law_draw, f_law__law_draw_N, ["box", "high"], none⟩,
  ⟨63, d63, f_law__law_bad_matroids, f_law__law_bad_matroids_N, [], none⟩]
def ts2 : List DT := [⟨64, d64, f_law__law_bad_sets, f_law__law_bad_sets_N, [], none⟩,
  ⟨65, d65, f_law__law_error, f_law__law_error_N, ["call"], some ("call", 0)⟩,
  ⟨66, d66, f_law_law_k01, f_law_law_k01_N, ["script"], none⟩,
  ⟨38, d38, f_Table_is_free, f_Table_is_free_N, ["self", "mask"], none⟩,
  ⟨26, d26, f_Table_bases, f_Table_bases_N, ["self"], none⟩,
  ⟨40, d40, f_Table_rounds, f_Table_rounds_N, ["self"], none⟩,
  ⟨23, d23, f_Table_dual, f_Table_dual_N, ["self"], none⟩,
  ⟨24, d24, f_Table_onto, f_Table_onto_N, ["self", "taken", "drawn"], none⟩]
def ts : List DT := ts0 ++ ts1 ++ ts2
def gc1 : List (PySem.Str × Nat × D) := [("is_free", 26, .fn 52), ("closure", 27, .fn 53), ("rounds", 16, .fn 54), ("cuts", 17, .fn 55), ("closed_sets", 18, .fn 56), ("tutte", 20, .fn 58), ("busy", 33, .fn 59)]
def gc0 : List (PySem.Str × Nat × D) := [("MOST_THINGS_checks", 1, .int 10), ("MOST_PLACES", 0, .int 8), ("MOST_LENGTH", 3, .int 6), ("MOST_NUMBER", 4, .int 9), ("MOST_HEADS", 8, .int 20), ("MOST_BOUND", 6, .int 20), ("MOST_SETS", 5, .int 10), ("MOST_WEIGHT", 7, .int 1000), ("FIELDS", 2, .ctup [.int 0, .int 2, .int 3, .int 5]), ("PLAIN", 9, .ctup [.str ⟨#[98, 97, 115, 101, 115]⟩, .str ⟨#[110, 101, 116]⟩, .str ⟨#[118, 101, 99, 116, 111, 114, 115]⟩, .str ⟨#[99, 104, 111, 105, 99, 101, 115]⟩, .str ⟨#[98, 111, 117, 110, 100, 115]⟩, .str ⟨#[117, 110, 105, 102, 111, 114, 109]⟩]), ("MOST_THINGS_fields", 10, .int 8), ("MOST_FOR_PARTING", 11, .int 8), ("MOST_BASES", 12, .int 10), ("size", 15, .fn 25), ("bases", 13, .fn 27), ("plain", 14, .fn 28), ("over", 31, .fn 32), ("every", 23, .fn 34), ("net_of", 24, .fn 35), ("alike", 35, .fn 36), ("part_like", 36, .fn 37), ("best", 28, .fn 39), ("parts", 21, .fn 41), ("parting", 22, .fn 42), ("bases_apart", 29, .fn 44), ("parted", 30, .fn 45), ("strength", 19, .fn 46), ("common_pairs", 34, .fn 48), ("free_choice", 32, .fn 50), ("rank", 25, .fn 51)]
def gf2 : List (PySem.Str × Nat) := [("_law_bad_sets", 64), ("_law_error", 65), ("law", 66)]
def gf1 : List (PySem.Str × Nat) := [("over", 32), ("every", 34), ("every_of", 33), ("net_of", 35), ("alike", 36), ("part_like", 37), ("best", 39), ("parts", 41), ("parting", 42), ("check_number", 43), ("bases_apart", 44), ("parted", 45), ("strength", 46), ("tables_of", 47), ("common_pairs", 48), ("heaviest", 49), ("free_choice", 50), ("rank", 51), ("is_free", 52), ("closure", 53), ("rounds", 54), ("cuts", 55), ("closed_sets", 56), ("polynomial", 57), ("tutte", 58), ("busy", 59), ("_law_cell", 60), ("_law_stream", 61), ("_law_draw", 62), ("_law_bad_matroids", 63)]
def gf0 : List (PySem.Str × Nat) := [("is_integer", 0), ("is_below", 1), ("is_between", 2), ("is_set", 3), ("is_family", 4), ("is_net", 5), ("are_vectors", 6), ("are_bounds", 7), ("are_choices", 8), ("check_set", 9), ("check_weights", 10), ("check_few", 11), ("mask_of", 12), ("set_of", 13), ("many_of", 14), ("by_free", 15), ("has_no_ring", 67), ("is_exchange", 17), ("first_break", 16), ("table_of", 20), ("heads_of", 18), ("made", 19), ("plain_table", 21), ("made_table", 22), ("size", 25), ("bases", 27), ("plain", 28), ("alike_tables", 29), ("part_of", 30), ("small", 31)]
def cc : CC := {
  N := [], clo := none, lam := false, tbl := "Table",
  gf := gf0 ++ gf1 ++ gf2,
  gc := gc0 ++ gc1,
  ex := [("FreeError", 0), ("BadMatroid", 1), ("BadSet", 2), ("BadWeights", 3), ("OutOfRange", 4)],
  ms := [("is_free", 38), ("bases", 26), ("rounds", 40), ("dual", 23), ("onto", 24)],
  lf := [15, 65], fresh := [61, 63],
  nob := ["len", "sum", "all", "any", "max", "min", "sorted", "tuple", "list", "dict", "set", "abs", "int", "isinstance", "bool", "str", "range", "enumerate", "zip"] }
def l : LD := { ts := ts, cc := cc, tr := tr, dI := dI, exN := ["FreeError", "BadMatroid", "BadSet", "BadWeights", "OutOfRange"], law := 66 }
def names0 : List PySem.Str := ["FreeError", "BadMatroid", "BadSet", "BadWeights", "OutOfRange", "MOST_THINGS_checks", "MOST_PLACES", "MOST_LENGTH", "MOST_NUMBER", "MOST_HEADS", "MOST_BOUND", "MOST_SETS", "MOST_WEIGHT", "FIELDS", "is_integer", "is_below", "is_between", "is_set", "is_family", "is_net", "are_vectors", "are_bounds", "are_choices", "check_set", "check_weights", "check_few", "common", "common_numbers", "fraction", "less"]
def names1 : List PySem.Str := ["reduced", "steps_of", "rank_of", "PLAIN", "mask_of", "set_of", "many_of", "Table", "by_free", "has_no_ring", "is_choice", "placed", "keeps_bounds", "is_exchange", "first_break", "table_of", "heads_of", "made", "plain_table", "made_table", "parts_within", "union_of", "size", "bases", "plain", "found_net", "ends_of", "is_way", "put_on", "is_joined"]
def names2 : List PySem.Str := ["kinds_of", "alike_from", "fits", "alike_tables", "part_of", "MOST_THINGS_fields", "PLANE", "small", "uniform", "plane", "forbidden", "first_part", "standard", "vectors_with", "is_of", "vectors_over", "over", "every", "every_of", "net_of", "alike", "part_like", "best", "MOST_FOR_PARTING", "parts", "parting", "MOST_BASES", "check_number", "bases_apart", "found_apart"]
def names3 : List PySem.Str := ["parted", "next_parts", "strength", "tables_of", "common_sets", "common_pairs", "heaviest", "told_with", "free_choice", "chosen", "rank", "is_free", "closure", "rounds", "cuts", "closed_sets", "put", "powers", "polynomial", "tutte", "busy", "_law_cell", "_law_stream", "_law_draw", "_law_read", "_law_told", "_law_bad_matroids", "_law_bad_sets", "_law_error"]
abbrev names : List PySem.Str := names0 ++ names1 ++ names2 ++ names3
abbrev R : PySem.W.OpenRow := PySem.W.OpenLaw.row PySem.Challenge.rw_freewithin_k01_errors
abbrev lawAt : Nat := 135
end Fw.K01
end
section
set_option Elab.async false
set_option linter.all false
set_option maxRecDepth 100000
set_option maxHeartbeats 0
namespace Fw.K01
open PySem PySem.Spec PyProof.Rows L2 LamX Fw
theorem ok1 : l.ok1 = true := by decide +kernel
theorem ok2 : l.ok2 = true := by decide +kernel
theorem prg : ∀ t ∈ l.ts, l.tr.get t.f = some t.fd := by
  intro t ht
  revert t
  show ∀ t ∈ ts, _
  unfold ts
  repeat (first | exact List.forall_mem_nil _ | refine List.forall_mem_append.2 ⟨?_, ?_⟩ | refine List.forall_mem_cons.2 ⟨rfl, ?_⟩)
end Fw.K01
end
section
set_option Elab.async false
set_option linter.all false
set_option maxRecDepth 100000
set_option maxHeartbeats 0
namespace Fw.K01
open PySem PySem.Spec PyProof.Rows L2 LamX Fw
abbrev hk : PySem.W.Hook := hookF 5 l.fa l.fn [] l.tf l.exb
def ob (s : PySem.W.SharedT) : He.AlX := obsF 5 l.fa l.fn [] l.tf l.exb (HandSHeadRun.getT s)
theorem ob_eq (s : PySem.W.SharedT) : ob s = hk.obs s.abs := obsF_eq (HandSHeadRun.getT_eq s)
theorem run1 (w : World) (os : OsState) : ((HandSHeadRun.endF (HandSHeadRun.stepQ (HandSHeadRun.denQ HandSHeadRun.tabQ) R.prog w) 5000 R.prog w os).map fun s => HandSHeadRun.looksF R.prog (PySem.W.boot_heap w.params) s.abs) = some true := by
  kernel_rfl
theorem run2 (w : World) (os : OsState) : ((HandSHeadRun.endF (HandSHeadRun.stepQ (HandSHeadRun.denQ HandSHeadRun.tabQ) R.prog w) 5000 R.prog w os).map fun s => HandSHeadRun.seenQ (PySem.W.view R.prog [lawAt]) names (importedModules R.prog.main.body) (fun s => PySem.W.xlAt (PySem.W.view R.prog [lawAt]) [] s && PySem.W.recOk R.toRowW.records s) s.abs) = some (PySem.W.openGood (PySem.W.view R.prog [lawAt]) names) := by
  kernel_rfl
theorem run3 (w : World) (os : OsState) : ((HandSHeadRun.endF (HandSHeadRun.stepQ (HandSHeadRun.denQ HandSHeadRun.tabQ) R.prog w) 5000 R.prog w os).map ob) = some (hk.val w) := by
  kernel_rfl
theorem run (w : World) : HandSHeadRun.RunEq R (PySem.W.view R.prog [lawAt]) hk ob 5000 names w := run_parts (run1 w) (run2 w) (run3 w)
end Fw.K01
end
set_option Elab.async false
set_option linter.all false
set_option maxRecDepth 100000
set_option maxHeartbeats 0
namespace Fw.K01
open PySem PySem.Spec PyProof.Rows L2 LamX Fw
theorem law_in : He.Fa.glo ("law" : PySem.Str) ∈ l.fa := by
  have h : (("law" : PySem.Str), 66) ∈ cc.gf := by decide +kernel
  exact List.mem_append_left _ (List.mem_map.mpr ⟨_, h, rfl⟩)
end Fw.K01
open PySem PySem.W PySem.Calls PyProof.Rows
set_option maxRecDepth 100000 in
set_option maxHeartbeats 0 in
theorem PySem.Challenge.cw_freewithin_k01_errors_holds : PySem.Challenge.rw_freewithin_k01_errors.Holds := by
  w_on; o_law
  refine HandSHeadRun.head_any (r := OpenLaw.row PySem.Challenge.rw_freewithin_k01_errors) (q := view (OpenLaw.row PySem.Challenge.rw_freewithin_k01_errors).prog [Fw.K01.lawAt]) (H := Fw.K01.hk) (ob := Fw.K01.ob) (M := 5000) (loose := Fw.K01.names) (d := HandSHeadRun.topDef (OpenLaw.row PySem.Challenge.rw_freewithin_k01_errors).prog Fw.K01.lawAt) (kwd := []) Fw.K01.ob_eq
    (by kernel_rfl) (fun s => by kernel_rfl) Fw.K01.run (by kernel_rfl) (by kernel_rfl) (by kernel_rfl) (by rfl) (by first | assumption | decide +kernel) (by decide +kernel) ⟨rfl, rfl, rfl, rfl, rfl, by decide +kernel⟩ ?hw ?hc
  case hw => w_witness2
  case hc =>
    exact Fw.law_end (l := Fw.K01.l) (ol := PySem.Challenge.rw_freewithin_k01_errors) (n := 80) (m := 5) rfl (by kernel_rfl) (by kernel_rfl) ⟨rfl, by decide, by decide⟩ Fw.K01.ok1 Fw.K01.ok2 Fw.K01.prg Fw.K01.law_in (fun y g d h => PySem.mem_of_lookup h) (fun ns _ _ => Fw.K01.law_true ns)
