import PyProof.Rows.All
import Wide.All
import OpenK.AllK
import Wide.FinOn
import HandS.ForMost
import HandS.Deep
import HandS.IsInst
import HandS.Strs
import HandS.Conv
import HandS.TupAny
import HandS.HeadHook1
import KE.KDictKeyed
import HandS.TupMul
import HandS.TupLe
import HandS.Text
import KE.SortData
import HandS.TupLen
import HandS.SetFor
import HandS.TupSets
import HandS.RaiseMore
import HandS.Words
import HandS.ExcCtx
import HandS.HotCalls
import HandS.WordsExc
import HandS.Defaults
import KE.GoesEnum
import HandS.Small
import KE.KDictCopyH
import HandS.Rev
import PyProof.ListRange
import HandS.ClsMeth
import HandS.ExcIs
import HandS.ExcOwn
import HandS.Comp
import HandS.Hot
import HandS.TryMany
import PyProof.ExcBaseAll.ValueError
import HandS.HeadHook2
import HandS.Head0
import HandS.Head1
import HandS.Head2
import HandS.HeadEnd
import HandS.HeadHook4
import PySem.Challenge.RW_mothloom_k02_no_rest
set_option Elab.async false
set_option linter.all false
set_option maxRecDepth 100000
set_option maxHeartbeats 0
/-! EvA: a small code language and its evaluator on values (own work). -/
namespace Ev
open PySem

/-- values: immutable ones and lists as trees; ref: an object of the store -/
inductive Val where
  | non | bl (b : Bool) | int (i : Int) | str (s : Str)
  | tup (xs : List Val) | lst (xs : List Val)
  | dic (t : Bool) (kvs : List (Val × Val)) | set (ks : List Int)
  | ref (n : Nat) | exc (c : Nat) | scr (ks : List Int)
  deriving Inhabited

/-- objects of the store -/
inductive Ob where
  | lst (xs : List Val) | dic (t : Bool) (kvs : List (Val × Val)) | ins (c : Nat) (fs : List (Nat × Val)) | dicN (kvs : List (Val × Val)) | xo (c : Nat)
  deriving Inhabited

abbrev Sto := List Ob
abbrev Env := List (Option Val)

inductive Res (α : Type) where
  | ok (a : α) | exc (c : Nat) (S : Sto) | stuck

@[inline] def Res.bind {α β : Type} (r : Res α) (f : α → Res β) : Res β := match r with
  | .ok a => f a
  | .exc c S => .exc c S
  | .stuck => .stuck
@[simp] theorem bind_ok {α β : Type} (a : α) (f : α → Res β) : (Res.ok a).bind f = f a := rfl
@[simp] theorem bind_exc {α β : Type} (c : Nat) (S : Sto) (f : α → Res β) : (Res.exc c S : Res α).bind f = .exc c S := rfl
@[simp] theorem bind_stuck {α β : Type} (f : α → Res β) : (Res.stuck : Res α).bind f = .stuck := rfl

/-! ### code -/
inductive BOp where | add | sub | mul | fdiv | mod | pow | shr
  deriving DecidableEq
inductive COp where | eq | ne | lt | le | gt | ge | is_ | isnt | in_ | nin
  deriving DecidableEq
/-- built-ins by name -/
inductive Bt where | len | tuple | list | sorted | sum | max | min | set | any | all | int | str
  deriving DecidableEq
/-- methods that change nothing -/
inductive Mt where | get | values | split | join | part | index
  deriving DecidableEq
/-- methods that change a list -/
inductive Mu where | append | pop | insert | clear | extend
  deriving DecidableEq
/-- classes that isinstance asks for -/
inductive Ty where | int | bool | str | list | tuple | cls (c : Nat)
  deriving DecidableEq

mutual
inductive E where
  | var (i : Nat) | int (i : Int) | str (s : Str) | bl (b : Bool) | non
  | glob (k : Nat)
  | bin (op : BOp) (a b : E) | neg (a : E)
  | cmp (op : COp) (a b : E) | chain (op op' : COp) (a b c : E)
  | andE (es : Es) | orE (es : Es) | not (a : E)
  | ifx (t a b : E)
  | tup (es : Es) | lst (es : Es) | dic (t : Bool) (es : Es)
  | ix (a i : E) | sl (a : E) (lo hi : Es)
  | comp (x : E) (j : Nat) (it : It) (cs : Es)
  | call (f : Nat) (es : Es)
  | blt (b : Bt) (es : Es) | bltI (b : Bt) (it : It)
  | isi (a : E) (t : Ty)
  | mt (m : Mt) (a : E) (es : Es)
  | mu (m : Mu) (a : E) (es : Es)
  | box (a : E)
  | fld (a : E) (f : Nat)
  | meth (a : E) (m : Nat) (es : Es)
  | make (c m : Nat) (es : Es)
  | newN | srt (a : E) | nget (a k : E) | nhas (neg : Bool) (k a : E)
  | cmpD (op : COp) (a b : E)
  | compR (x : E) (j : Nat) (a : E) (cs : Es)
  | callM (c m : Nat) (es : Es)
  | tupN (a : E)
  | isx (i c : Nat)
  | nx (a : E)
inductive Es where
  | nil | cons (e : E) (es : Es)
-- what is walked
inductive It where
  | seq (a : E) | rng (es : Es) | enum (a : E) | rev (a : E)
end

inductive Tg where | one (j : Nat) | two (j k : Nat) | three (j k l : Nat)
mutual
inductive C where
  | set (i : Nat) (e : E)
  | unp (js : List Nat) (e : E)
  | mut (m : Mu) (i : Nat) (es : Es)
  | put (i : Nat) (k e : E)
  | putR (a k e : E)
  | putF (a : E) (f : Nat) (e : E)
  | mutR (m : Mu) (a : E) (es : Es)
  | nput (a k e : E)
  | forR (tg : Tg) (a : E) (b : Cs)
  | forX (tg : Tg) (i : Nat) (b : Cs)
  | exp (e : E)
  | ite (c : E) (a b : Cs)
  | forS (tg : Tg) (it : It) (b : Cs)
  | whl (c : E) (b : Cs)
  | ret (e : E) | retN
  | raise (c : Nat)
  | tryS (b : Cs) (hs : Hs)
  | pass
inductive Cs where
  | nil | cons (c : C) (cs : Cs)
inductive Hs where
  | nil | cons (c : Nat) (j : List Nat) (b : Cs) (hs : Hs)
end

/-! ### values: equality, order -/
mutual
def veq : Val → Val → Bool
  | .non, .non => true
  | .bl a, .bl b => a == b
  | .int a, .int b => a == b
  | .bl a, .int b => (if a then 1 else 0) == b
  | .int a, .bl b => a == (if b then 1 else 0)
  | .str a, .str b => a == b
  | .tup xs, .tup ys => veqs xs ys
  | .lst xs, .lst ys => veqs xs ys
  | _, _ => false
def veqs : List Val → List Val → Bool
  | [], [] => true
  | x :: xs, y :: ys => veq x y && veqs xs ys
  | _, _ => false
end
-- no list, dict or set within
mutual
def pur : Val → Bool
  | .tup xs => purs xs
  | .lst _ => false
  | .dic _ _ => false
  | .set _ => false
  | .scr _ => false
  | _ => true
def purs : List Val → Bool
  | [] => true
  | x :: xs => pur x && purs xs
end
-- depth of data; data at all
mutual
def dep : Val → Nat
  | .tup xs => deps xs + 1
  | .lst xs => deps xs + 1
  | _ => 0
def deps : List Val → Nat
  | [] => 0
  | x :: xs => max (dep x) (deps xs)
end
mutual
def isD : Val → Bool
  | .non => true
  | .bl _ => true
  | .int _ => true
  | .str s => PyData.strOk s
  | .tup xs => isDs xs
  | .lst xs => isDs xs
  | _ => false
def isDs : List Val → Bool
  | [] => true
  | x :: xs => isD x && isDs xs
end
-- read as data
mutual
def toD : Val → PyData
  | .non => .none
  | .bl b => .bool b
  | .int i => .int i
  | .str s => .str s
  | .tup xs => .tuple (toDs xs)
  | .lst xs => .list (toDs xs)
  | _ => .none
def toDs : List Val → List PyData
  | [] => []
  | x :: xs => toD x :: toDs xs
end
-- tuples, lists of asI and texts, place by place of one kind
mutual
def alk : Val → Val → Bool
  | .int _, .int _ => true
  | .str _, .str _ => true
  | .tup xs, .tup ys => alks xs ys
  | .lst xs, .lst ys => alks xs ys
  | _, _ => false
def alks : List Val → List Val → Bool
  | x :: xs, y :: ys => alk x y && alks xs ys
  | [], _ => true
  | _ :: _, [] => true
end
mutual
def vlt : Val → Val → Bool
  | .int a, .int b => decide (a < b)
  | .str a, .str b => decide (a.cps.toList < b.cps.toList)
  | .tup xs, .tup ys => vlts xs ys
  | .lst xs, .lst ys => vlts xs ys
  | _, _ => false
def vlts : List Val → List Val → Bool
  | x :: xs, y :: ys => if veq x y then vlts xs ys else vlt x y
  | [], _ :: _ => true
  | _, [] => false
end
def vle (a b : Val) : Bool := !vlt b a
/-- what may be sorted: data of one kind, not too deep -/
def sortOk (xs : List Val) : Bool := isDs xs && xs.all fun x => decide (dep x ≤ 150) && xs.all fun y => alk x y
def vsort (xs : List Val) : List Val := xs.mergeSort vle

/-! ### lists by place, dicts -/
def at' {α : Type} (xs : List α) (i : Int) : Option α :=
  if 0 ≤ i then xs[i.toNat]? else if -(xs.length : Int) ≤ i then xs[(i + xs.length).toNat]? else none
def ixN' (n : Nat) (i : Int) : Option Nat :=
  if 0 ≤ i then (if i < n then some i.toNat else none) else if -(n : Int) ≤ i then some (i + n).toNat else none
def clip (n d : Nat) : Option Int → Nat
  | none => d
  | some v => if v < 0 then (v + (n : Int)).toNat else min v.toNat n
def cut {α : Type} (xs : List α) (lo hi : Option Int) : List α :=
  (xs.drop (clip xs.length 0 lo)).take (clip xs.length xs.length hi - clip xs.length 0 lo)
def dget (kvs : List (Val × Val)) (k : Val) : Option Val := (kvs.find? fun p => veq p.1 k).map (·.2)
def dput (kvs : List (Val × Val)) (k v : Val) : List (Val × Val) :=
  if (kvs.any fun p => veq p.1 k) = true then kvs.map (fun p => if veq p.1 k = true then (p.1, v) else p) else kvs ++ [(k, v)]
def asI : List Val → Option (List Int)
  | [] => some []
  | .int i :: r => (asI r).map (i :: ·)
  | _ => none
def asB : List Val → Option (List Bool)
  | [] => some []
  | .bl b :: r => (asB r).map (b :: ·)
  | _ => none
def asS : List Val → Option (List Str)
  | [] => some []
  | .str b :: r => (asS r).map (b :: ·)
  | _ => none
/-- each once, the first kept -/
def once : List Int → List Int
  | [] => []
  | x :: xs => x :: (once xs).filter (· != x)
def isAtom : Val → Bool
  | .int _ => true
  | .str _ => true
  | _ => false
def isKey : Bool → Val → Bool
  | false, .int _ => true
  | false, .str _ => true
  | true, .tup xs => xs.all isAtom
  | _, _ => false
-- keys within keys
mutual
def isNK : Val → Bool
  | .int _ => true
  | .str _ => true
  | .tup xs => isNKs xs
  | _ => false
def isNKs : List Val → Bool
  | [] => true
  | x :: xs => isNK x && isNKs xs
end
def nkey : Val → Bool
  | .tup xs => isNKs xs && decide (deps xs ≤ 6)
  | _ => false
def fput (f : Nat) (v : Val) : List (Nat × Val) → List (Nat × Val)
  | [] => [(f, v)]
  | (g, x) :: r => if g = f then (g, v) :: r else (g, x) :: fput f v r
def LIM : Nat := 1000000
def of {α : Type} : Option α → Res α
  | some a => .ok a
  | none => .stuck
def guard' {α : Type} (b : Bool) (r : Res α) : Res α := if b = true then r else .stuck
@[simp] theorem of_some {α : Type} (a : α) : of (some a) = .ok a := rfl
@[simp] theorem guard_true {α : Type} (r : Res α) : guard' true r = r := rfl

/-- a list of the store as it is -/
def dr (S : Sto) : Val → Val
  | .ref n => match S[n]? with
    | some (.lst xs) => .lst xs
    | some (.dic t kvs) => .dic t kvs
    | _ => .ref n
  | v => v

def binV : BOp → Val → Val → Res Val
  | .add, .int a, .int b => .ok (.int (a + b))
  | .sub, .int a, .int b => .ok (.int (a - b))
  | .mul, .int a, .int b => guard' (decide ((-(2 ^ 64) < a ∧ a < 2 ^ 64) ∨ (-(2 ^ 64) < b ∧ b < 2 ^ 64))) (.ok (.int (a * b)))
  | .fdiv, .int a, .int b => guard' (decide (0 < b ∧ b < 1073741824)) (.ok (.int (a / b)))
  | .mod, .int a, .int b => guard' (decide (0 < b)) (.ok (.int (a % b)))
  | .pow, .int a, .int b => guard' (decide (0 ≤ b ∧ b ≤ 1000 ∧ -(2 ^ 63) < a ∧ a < 2 ^ 63)) (.ok (.int (a ^ b.toNat)))
  | .shr, .int a, .int b => guard' (decide (0 ≤ b)) (.ok (.int (a / 2 ^ b.toNat)))
  | .add, .str a, .str b => guard' (decide (a.length + b.length ≤ LIM)) (.ok (.str (a ++ b)))
  | .add, .tup a, .tup b => guard' (decide (a.length + b.length ≤ LIM) && purs a && purs b) (.ok (.tup (a ++ b)))
  | .add, .lst a, .lst b => guard' (decide (a.length + b.length ≤ LIM) && purs a && purs b) (.ok (.lst (a ++ b)))
  | .mul, .lst a, .int b => guard' (decide (0 ≤ b ∧ b ≤ 1000 ∧ a.length ≤ 1000) && purs a) (.ok (.lst (List.replicate b.toNat a).flatten))
  | .mul, .str a, .int b => guard' (decide (2 ≤ b ∧ b ≤ 1000 ∧ 1 ≤ a.length ∧ a.length ≤ 1000)) (.ok (.str ⟨(List.replicate b.toNat a.cps).foldl (· ++ ·) #[]⟩))
  | .mul, .tup a, .int b => guard' (decide (0 ≤ b ∧ b ≤ 1000 ∧ a.length ≤ 1000 ∧ a ≠ []) && purs a) (.ok (.tup (List.replicate b.toNat a).flatten))
  | _, _, _ => .stuck

def isNon : Val → Bool
  | .non => true
  | _ => false
/-- a is b -/
def isWhat (a : Val) : Val → Res Bool
  | .non => .ok (isNon a)
  | .bl b => match a with
    | .bl c => .ok (c == b)
    | _ => .stuck
  | _ => .stuck
/-- a in b -/
def inWhat (a : Val) : Val → Res Bool
  | .lst xs => guard' (isD a && isDs xs && decide (dep a ≤ 150)) (.ok (xs.any fun x => veq x a))
  | .tup xs => guard' (isD a && isDs xs && decide (dep a ≤ 150)) (.ok (xs.any fun x => veq x a))
  | .dic t kvs => guard' (isKey t a) (.ok (dget kvs a).isSome)
  | .str b => match a with
    | .str c => guard' (decide (c.length = 1)) (.ok (c.cps.toList.all fun n => b.cps.toList.contains n))
    | _ => .stuck
  | _ => .stuck
def eqWhat (a b : Val) : Res Bool := guard' (isD a && isD b && decide (min (dep a) (dep b) ≤ 150)) (.ok (veq a b))
def Res.bl (r : Res Bool) : Res Val := r.bind fun b => .ok (.bl b)
def Res.nbl (r : Res Bool) : Res Val := r.bind fun b => .ok (.bl (!b))
@[simp] theorem bl_ok (b : Bool) : (Res.ok b).bl = .ok (.bl b) := rfl
@[simp] theorem nbl_ok (b : Bool) : (Res.ok b).nbl = .ok (.bl (!b)) := rfl
def cmpV : COp → Val → Val → Res Val
  | .eq, a, b => (eqWhat a b).bl
  | .ne, a, b => (eqWhat a b).nbl
  | .lt, .int a, .int b => .ok (.bl (decide (a < b)))
  | .le, .int a, .int b => .ok (.bl (decide (a ≤ b)))
  | .gt, .int a, .int b => .ok (.bl (decide (b < a)))
  | .ge, .int a, .int b => .ok (.bl (decide (b ≤ a)))
  | .is_, a, b => (isWhat a b).bl
  | .isnt, a, b => (isWhat a b).nbl
  | .in_, a, b => (inWhat a b).bl
  | .nin, a, b => (inWhat a b).nbl
  | _, _, _ => .stuck

def bltV : Bt → List Val → Res Val
  | .len, [.lst xs] => .ok (.int xs.length)
  | .len, [.tup xs] => .ok (.int xs.length)
  | .len, [.dic _ xs] => .ok (.int xs.length)
  | .len, [.set xs] => guard' (decide (xs.length ≤ 4000)) (.ok (.int xs.length))
  | .len, [.scr xs] => .ok (.int xs.length)
  | .len, [.str s] => guard' (decide (s.length ≤ LIM)) (.ok (.int s.length))
  | .tuple, [.lst xs] => guard' (purs xs) (.ok (.tup xs))
  | .tuple, [.tup xs] => guard' (purs xs) (.ok (.tup xs))
  | .list, [.lst xs] => guard' (purs xs) (.ok (.lst xs))
  | .list, [.tup xs] => guard' (purs xs) (.ok (.lst xs))
  | .sorted, [.lst xs] => guard' (purs xs && sortOk xs) (.ok (.lst (vsort xs)))
  | .sorted, [.tup xs] => guard' (purs xs && sortOk xs) (.ok (.lst (vsort xs)))
  | .sorted, [.set xs] => guard' (decide (xs.length < 64)) (.ok (.lst ((xs.mergeSort fun a b => decide (a ≤ b)).map .int)))
  | .sorted, [.dic false kvs] => (of (asI (kvs.map (·.1)))).bind fun is => guard' (decide (is.length < 64)) (.ok (.lst ((is.mergeSort fun a b => decide (a ≤ b)).map .int)))
  | .sum, [.lst xs] => (of (asI xs)).bind fun is => .ok (.int is.sum)
  | .max, [.int a, .int b] => .ok (.int (if b > a then b else a))
  | .min, [.int a, .int b] => .ok (.int (if b < a then b else a))
  | .max, [.lst xs] => (of (asI xs)).bind fun is => match is with
    | [] => .stuck
    | i :: r => .ok (.int (r.foldl max i))
  | .min, [.lst xs] => (of (asI xs)).bind fun is => match is with
    | [] => .stuck
    | i :: r => .ok (.int (r.foldl min i))
  | .set, [.tup xs] => (of (asI xs)).bind fun is => guard' (decide (is.length ≤ 4000)) (.ok (.set (once is)))
  | .set, [.lst xs] => (of (asI xs)).bind fun is => guard' (decide (is.length ≤ 4000)) (.ok (.set (once is)))
  | .any, [.lst xs] => (of (asB xs)).bind fun bs => .ok (.bl (bs.any id))
  | .all, [.lst xs] => (of (asB xs)).bind fun bs => .ok (.bl (bs.all id))
  | .int, [.bl b] => .ok (.int (if b then 1 else 0))
  | .int, [.int i] => .ok (.int i)
  | .int, [.str a] => (of (PySem.intText? a)).bind fun n => guard' (decide (a.length ≤ 640)) (.ok (.int n))
  | .str, [.int i] => guard' (decide (i.natAbs < 10000000000)) (.ok (.str (Str.ofString (toString i))))
  | .str, [.str a] => .ok (.str a)
  | _, _ => .stuck

def mtV : Mt → Val → List Val → Res Val
  | .get, .dic t kvs, [k] => guard' (isKey t k) (.ok ((dget kvs k).getD .non))
  | .get, .dic t kvs, [k, d] => guard' (isKey t k) (.ok ((dget kvs k).getD d))
  | .values, .dic _ kvs, [] => guard' (decide (kvs.length ≤ LIM)) (.ok (.lst (kvs.map (·.2))))
  | .index, .lst xs, [.int i] => (of (asI xs)).bind fun is => (of (is.findIdx? (· == i))).bind fun j => .ok (.int j)
  | .join, .str a, [.lst xs] => (of (asS xs)).bind fun ys => guard' (decide ((ys.map (·.length)).sum + ys.length * a.length ≤ 16777216)) (.ok (.str (Txt.join a ys)))
  | .join, .str a, [.tup xs] => (of (asS xs)).bind fun ys => guard' (decide ((ys.map (·.length)).sum + ys.length * a.length ≤ 16777216)) (.ok (.str (Txt.join a ys)))
  | .split, .str a, [.str b] => guard' (decide ((b.length == 0) = false ∧ a.length ≤ LIM)) (.ok (.lst ((Txt.split a b).map .str)))
  | .part, .str a, [.str b] => guard' (decide ((b.length == 0) = false ∧ a.length ≤ LIM)) (.ok (.tup ([(Txt.partition a b).1, (Txt.partition a b).2.1, (Txt.partition a b).2.2].map .str)))
  | _, _, _ => .stuck

def isV : Ty → Val → Res Bool
  | .int, v => match v with | .int _ => .ok true | .bl _ => .ok true | .non => .ok false | .str _ => .ok false | .tup _ => .ok false | .lst _ => .ok false | _ => .stuck
  | .bool, v => match v with | .int _ => .ok false | .bl _ => .ok true | .non => .ok false | .str _ => .ok false | .tup _ => .ok false | .lst _ => .ok false | _ => .stuck
  | .str, v => match v with | .int _ => .ok false | .bl _ => .ok false | .non => .ok false | .str _ => .ok true | .tup _ => .ok false | .lst _ => .ok false | _ => .stuck
  | .list, v => match v with | .int _ => .ok false | .bl _ => .ok false | .non => .ok false | .str _ => .ok false | .tup _ => .ok false | .lst _ => .ok true | _ => .stuck
  | .tuple, v => match v with | .int _ => .ok false | .bl _ => .ok false | .non => .ok false | .str _ => .ok false | .tup _ => .ok true | .lst _ => .ok false | _ => .stuck
  | .cls _, _ => .stuck

def ixV : Val → Val → Res Val
  | .lst xs, .int i => of (at' xs i)
  | .tup xs, .int i => of (at' xs i)
  | .scr xs, .int i => (of (at' xs i)).bind fun n => .ok (.int n)
  | .dic t kvs, k => guard' (isKey t k) (of (dget kvs k))
  | .str s, .int i => (of (at' s.cps.toList i)).bind fun c => guard' (decide (s.length ≤ LIM)) (.ok (.str ⟨#[c]⟩))
  | _, _ => .stuck
def slV (v : Val) (lo hi : Option Int) : Res Val := match v with
  | .lst xs => guard' (purs xs) (.ok (.lst (cut xs lo hi)))
  | .tup xs => guard' (purs xs) (.ok (.tup (cut xs lo hi)))
  | .scr xs => .ok (.lst ((cut xs lo hi).map .int))
  | .str s => guard' (decide (s.length ≤ LIM)) (.ok (.str ⟨(cut s.cps.toList lo hi).toArray⟩))
  | _ => .stuck
def range (lo : Int) : Nat → List Val
  | 0 => []
  | n + 1 => .int lo :: range (lo + 1) n
def rangeC (lo c : Int) : Nat → List Val
  | 0 => []
  | n + 1 => .int lo :: rangeC (lo + c) c n
def rngN (a b c : Int) : Nat := if a < b then ((b - a - 1) / c + 1).toNat else 0
def rngV : List Val → Res (List Val)
  | [.int n] => guard' (decide (-(2 ^ 62) ≤ n ∧ n ≤ LIM)) (.ok (range 0 n.toNat))
  | [.int a, .int b] => guard' (decide (-(2 ^ 62) ≤ a ∧ a < 2 ^ 62 ∧ -(2 ^ 62) ≤ b ∧ b < 2 ^ 62 ∧ b - a ≤ LIM)) (.ok (range a (b - a).toNat))
  | [.int a, .int b, .int c] => guard' (decide (-(2 ^ 61) ≤ a ∧ a < 2 ^ 61 ∧ -(2 ^ 61) ≤ b ∧ b < 2 ^ 61 ∧ b - a ≤ LIM ∧ 0 < c ∧ c < 1000000)) (.ok (rangeC a c (rngN a b c)))
  | _ => .stuck
def enumV (i : Int) : List Val → List Val
  | [] => []
  | x :: xs => .tup [.int i, x] :: enumV (i + 1) xs
def seqV : Val → Res (List Val)
  | .scr xs => .ok (xs.map .int)
  | .lst xs => .ok xs
  | .tup xs => .ok xs
  | .str s => guard' (decide (s.cps.size ≤ LIM)) (.ok (s.cps.toList.map fun c => .str ⟨#[c]⟩))
  | _ => .stuck
def seqE : Val → Res (List Val)
  | .lst xs => .ok xs
  | .tup xs => .ok xs
  | _ => .stuck
/-- a list to be turned about -/
def seqW : Val → Res (List Val)
  | .scr xs => .ok (xs.map .int)
  | .lst xs => .ok xs
  | _ => .stuck
def seqL : Val → Res (List Val)
  | .lst xs => .ok xs
  | _ => .stuck
end Ev

namespace Ev
open PySem

/-- a def: parameters, slots, which slots own their lists, body -/
structure Fn where
  np : Nat
  n : Nat
  own : List Bool
  body : Cs
/-- a program: defs, constants; classes (a base), a class's methods -/
structure Pg where
  fn : Nat → Option Fn
  con : Nat → Option Val
  base : Nat → Option Nat
  meth : Nat → Nat → Option Nat
  hasF : Nat → Nat → Bool := fun _ _ => false
  xs : List Nat := []

/-- how a block ends -/
inductive Fl where | nx | rt (v : Val)
/-- a block's outcome -/
inductive Out where
  | ok (f : Fl) (env : Env) (S : Sto) | exc (c : Nat) (env : Env) (S : Sto) | stuck
def Out.seq (o : Out) (k : Env → Sto → Out) : Out := match o with
  | .ok .nx env S => k env S
  | o => o
@[simp] theorem seq_nx (env : Env) (S : Sto) (k : Env → Sto → Out) : (Out.ok .nx env S).seq k = k env S := rfl
@[simp] theorem seq_rt (v : Val) (env : Env) (S : Sto) (k : Env → Sto → Out) : (Out.ok (.rt v) env S).seq k = .ok (.rt v) env S := rfl
@[simp] theorem seq_exc (c : Nat) (env : Env) (S : Sto) (k : Env → Sto → Out) : (Out.exc c env S).seq k = .exc c env S := rfl
@[simp] theorem seq_stuck (k : Env → Sto → Out) : Out.stuck.seq k = .stuck := rfl
/-- an expression's outcome, in a block -/
def Res.then {α : Type} (r : Res α) (env : Env) (k : α → Out) : Out := match r with
  | .ok a => k a
  | .exc c S => .exc c env S
  | .stuck => .stuck
@[simp] theorem then_ok {α : Type} (a : α) (env : Env) (k : α → Out) : (Res.ok a).then env k = k a := rfl
@[simp] theorem then_exc {α : Type} (c : Nat) (S : Sto) (env : Env) (k : α → Out) : (Res.exc c S : Res α).then env k = .exc c env S := rfl
@[simp] theorem then_stuck {α : Type} (env : Env) (k : α → Out) : (Res.stuck : Res α).then env k = .stuck := rfl

abbrev CallT := Nat → List Val → Sto → Res (Val × Sto)

/-- is the value of this code new, or a plain one's -/
def fresh : E → Bool
  | .var _ => false
  | .ix _ _ => false
  | .ifx _ _ _ => false
  | .fld _ _ => false
  | .mu _ _ _ => false
  | .mt m _ _ => decide (m = .split ∨ m = .part)
  | .nget _ _ => false
  | .tupN _ => false
  | .nx a => fresh a
  | _ => true
/-- a value that may be stored -/
def keepV (e : E) (v : Val) : Bool := fresh e || pur v

def mapR {α : Type} (f : α → Sto → Res (Option Val × Sto)) : List α → Sto → Res (List Val × Sto)
  | [], S => .ok ([], S)
  | x :: xs, S => (f x S).bind fun p => (mapR f xs p.2).bind fun q => .ok (match p.1 with
    | some v => v :: q.1
    | none => q.1, q.2)

def isB : Val → Res Bool
  | .bl b => .ok b
  | _ => .stuck
@[simp] theorem isB_bl (b : Bool) : isB (.bl b) = .ok b := rfl

/-- what has the method -/
def mtOk : Mt → Val → Bool
  | .get, .dic _ _ => true
  | .get, _ => false
  | .index, .lst _ => true
  | .index, _ => false
  | .join, .str _ => true
  | .join, _ => false
  | .split, .str _ => true
  | .split, _ => false
  | .part, .str _ => true
  | .part, _ => false
  | _, _ => true
@[simp] theorem mtOk_dic (t : Bool) (kvs : List (Val × Val)) : mtOk .get (.dic t kvs) = true := rfl
@[simp] theorem mtOk_val (v : Val) : mtOk .values v = true := rfl
@[simp] theorem mtOk_ix (xs : List Val) : mtOk .index (.lst xs) = true := rfl
@[simp] theorem mtOk_join (s : Str) : mtOk .join (.str s) = true := rfl
@[simp] theorem mtOk_split (s : Str) : mtOk .split (.str s) = true := rfl
@[simp] theorem mtOk_part (s : Str) : mtOk .part (.str s) = true := rfl
theorem mtOk_pt {v : Val} (h : mtOk .part v = true) : ∃ s, v = .str s := by
  cases v <;> first | exact ⟨_, rfl⟩ | cases h
theorem mtOk_jn {v : Val} (h : mtOk .join v = true) : ∃ s, v = .str s := by
  cases v <;> first | exact ⟨_, rfl⟩ | cases h
theorem mtOk_sp {v : Val} (h : mtOk .split v = true) : ∃ s, v = .str s := by
  cases v <;> first | exact ⟨_, rfl⟩ | cases h
/-- what a method gets: join looks into the store -/
def mtA : Mt → Sto → List Val → List Val
  | .join, S, xs => xs.map (dr S)
  | _, _, xs => xs
theorem mtOk_lst {v : Val} (h : mtOk .index v = true) : ∃ xs, v = .lst xs := by
  cases v <;> first | exact ⟨_, rfl⟩ | cases h
theorem mtOk_get {v : Val} (h : mtOk .get v = true) : ∃ t kvs, v = .dic t kvs := by
  cases v <;> first | exact ⟨_, _, rfl⟩ | cases h
/-- what goes to the store -/
def boxO : Val → Res Ob
  | .lst xs => guard' (purs xs) (.ok (.lst xs))
  | .dic t kvs => .ok (.dic t kvs)
  | _ => .stuck
def nkvs (S : Sto) : Val → Res (List (Val × Val))
  | .ref n => match S[n]? with
    | some (.dicN kvs) => .ok kvs
    | _ => .stuck
  | _ => .stuck
def lstR (S : Sto) : Val → Res (Nat × List Val)
  | .ref n => match S[n]? with
    | some (.lst xs) => .ok (n, xs)
    | _ => .stuck
  | _ => .stuck
def insR (S : Sto) : Val → Res (Nat × Nat × List (Nat × Val))
  | .ref n => match S[n]? with
    | some (.ins c fs) => .ok (n, c, fs)
    | _ => .stuck
  | _ => .stuck
open Classical in
/-- the list is still as it was -/
noncomputable def stay {α : Type} (S : Sto) (o : Nat × List Val) (r : Res α) : Res α := if S[o.1]? = some (.lst o.2) then r else .stuck
/-- .. and the lists within -/
def drE (S : Sto) (v : Val) : Val := match dr S v with
  | .lst xs => .lst (xs.map (dr S))
  | v => v
/-- .. and theirs -/
def drD (S : Sto) (v : Val) : Val := match dr S v with
  | .lst xs => .lst (xs.map (drE S))
  | v => v
/-- a method of a list as a value -/
def muE : Mu → List Val → List Val → Res (Val × List Val)
  | .pop, xs, [] => (of xs.getLast?).bind fun v => .ok (v, xs.dropLast)
  | _, _, _ => .stuck

/-- no exception leaves -/
def Res.nox {α : Type} (r : Res α) : Res α := match r with
  | .ok a => .ok a
  | _ => .stuck
@[simp] theorem nox_ok {α : Type} (a : α) : (Res.ok a).nox = .ok a := rfl
/-- is the class c one of d's: 0 is LoomError, 100 ValueError -/
def subc (c d : Nat) : Bool := c == d || d == 0 || d == 100
/-- a caught exception's class -/
def excR (S : Sto) : Option (Option Val) → Res Nat
  | some (some (.ref n)) => match S[n]? with
    | some (.xo c) => .ok c
    | _ => .stuck
  | _ => .stuck
mutual
noncomputable def evE (pg : Pg) (cl : CallT) : E → Env → Sto → Res (Val × Sto)
  | .var i, env, S => match env[i]? with
    | some (some v) => .ok (v, S)
    | _ => .stuck
  | .int i, _, S => .ok (.int i, S)
  | .str s, _, S => .ok (.str s, S)
  | .bl b, _, S => .ok (.bl b, S)
  | .non, _, S => .ok (.non, S)
  | .glob k, _, S => (of (pg.con k)).bind fun v => guard' (pur v) (.ok (v, S))
  | .bin op a b, env, S => (evE pg cl a env S).bind fun p => (evE pg cl b env p.2).bind fun q => (binV op (dr q.2 p.1) (dr q.2 q.1)).bind fun v => .ok (v, q.2)
  | .neg a, env, S => (evE pg cl a env S).bind fun p => match p.1 with
    | .int i => .ok (.int (-i), p.2)
    | _ => .stuck
  | .cmp op a b, env, S => (evE pg cl a env S).bind fun p => (evE pg cl b env p.2).bind fun q => (cmpV op (dr q.2 p.1) (dr q.2 q.1)).bind fun v => .ok (v, q.2)
  | .chain op op' a b c, env, S => (evE pg cl a env S).bind fun p => (evE pg cl b env p.2).bind fun q => (cmpV op p.1 q.1).bind fun v => (isB v).bind fun k =>
    if k = true then (evE pg cl c env q.2).bind fun r => (cmpV op' q.1 r.1).bind fun w => .ok (w, r.2) else .ok (.bl false, q.2)
  | .andE es, env, S => evAnd pg cl es env S
  | .orE es, env, S => evOr pg cl es env S
  | .not a, env, S => (evE pg cl a env S).bind fun p => (isB p.1).bind fun b => .ok (.bl (!b), p.2)
  | .ifx t a b, env, S => (evE pg cl t env S).bind fun p => (isB p.1).bind fun k => if k = true then evE pg cl a env p.2 else evE pg cl b env p.2
  | .tup es, env, S => (evK pg cl es env S).bind fun p => .ok (.tup p.1, p.2)
  | .lst es, env, S => (evK pg cl es env S).bind fun p => .ok (.lst p.1, p.2)
  | .dic t es, env, S => evD pg cl t es env S []
  | .ix a i, env, S => (evE pg cl a env S).bind fun p => (evE pg cl i env p.2).bind fun q => (ixV (dr q.2 p.1) q.1).bind fun v => .ok (v, q.2)
  | .sl a lo hi, env, S => (evE pg cl a env S).bind fun p => (evO pg cl lo env p.2).bind fun q => (evO pg cl hi env q.2).bind fun r => (slV (dr r.2 p.1) q.1 r.1).bind fun v => .ok (v, r.2)
  | .comp x j it cs, env, S => (evI pg cl it env S).bind fun p => (mapR (fun v S => (evC pg cl cs (env.set j (some v)) S).bind fun q =>
      if q.1 = true then (evE pg cl x (env.set j (some v)) q.2).bind fun r => guard' (keepV x r.1) (.ok (some r.1, r.2)) else .ok (none, q.2)) p.1 p.2).bind fun q => .ok (.lst q.1, q.2)
  | .call f es, env, S => (evS pg cl es env S).bind fun p => cl f p.1 p.2
  | .blt b es, env, S => (evS pg cl es env S).bind fun p => (bltV b (p.1.map (dr p.2))).bind fun v => .ok (v, p.2)
  | .tupN a, env, S => (evE pg cl a env S).bind fun p => match p.1 with
    | .lst xs => .ok (.tup xs, p.2)
    | _ => .stuck
  | .bltI b (.rev a), env, S => (evE pg cl a env S).bind fun p => (seqW (dr p.2 p.1)).bind fun l => (bltV b [.lst l.reverse]).bind fun v => .ok (v, p.2)
  | .bltI b (.rng es), env, S => (evS pg cl es env S).bind fun p => (rngV p.1).bind fun l => (bltV b [.lst l]).bind fun v => .ok (v, p.2)
  | .bltI _ _, _, _ => .stuck
  | .isi a t, env, S => (evE pg cl a env S).bind fun p => (isV t (dr p.2 p.1)).bind fun b => .ok (.bl b, p.2)
  | .mt m a es, env, S => (evE pg cl a env S).bind fun p => guard' (mtOk m (dr p.2 p.1)) ((evS pg cl es env p.2).bind fun q => (mtV m (dr q.2 p.1) (mtA m q.2 q.1)).bind fun v => .ok (v, q.2))
  | .box a, env, S => (evE pg cl a env S).bind fun p => (boxO p.1).bind fun o => guard' (fresh a) (.ok (.ref p.2.length, p.2 ++ [o]))
  | .srt a, env, S => (evE pg cl a env S).bind fun p => match dr p.2 p.1 with
    | .lst xs => guard' (purs xs && sortOk (xs.map (dr p.2))) (.ok (.lst (xs.mergeSort fun a b => vle (dr p.2 a) (dr p.2 b)), p.2))
    | _ => .stuck
  | .newN, _, S => .ok (.ref S.length, S ++ [.dicN []])
  | .nget a k, env, S => (evE pg cl a env S).bind fun p => (evE pg cl k env p.2).bind fun q => (nkvs q.2 p.1).bind fun kvs => guard' (nkey q.1) ((of (dget kvs q.1)).bind fun v => .ok (v, q.2))
  | .nhas neg k a, env, S => (evE pg cl k env S).bind fun p => (evE pg cl a env p.2).bind fun q => (nkvs q.2 q.1).bind fun kvs => guard' (nkey p.1) (.ok (.bl (xor neg (dget kvs p.1).isSome), q.2))
  | .cmpD op a b, env, S => (evE pg cl a env S).bind fun p => (evE pg cl b env p.2).bind fun q => (cmpV op (drD q.2 p.1) (drD q.2 q.1)).bind fun v => .ok (v, q.2)
  | .compR x j a cs, env, S => (evE pg cl a env S).bind fun p => (lstR p.2 p.1).bind fun o => (mapR (fun v S => stay S o ((evC pg cl cs (env.set j (some v)) S).bind fun q =>
      if q.1 = true then (evE pg cl x (env.set j (some v)) q.2).bind fun r => guard' (keepV x r.1) (.ok (some r.1, r.2)) else .ok (none, q.2))) o.2 p.2).bind fun q => stay q.2 o (.ok (.lst q.1, q.2))
  | .fld a f, env, S => (evE pg cl a env S).bind fun p => (insR p.2 p.1).bind fun o => guard' (pg.hasF o.2.1 f) ((of (o.2.2.lookup f)).bind fun v => .ok (v, p.2))
  | .meth a m es, env, S => (evE pg cl a env S).bind fun p => (insR p.2 p.1).bind fun o => (of (pg.meth o.2.1 m)).bind fun f => (evS pg cl es env p.2).bind fun q => cl f (.ref o.1 :: q.1) q.2
  | .make c m es, env, S => (of (pg.meth c m)).bind fun f => (evS pg cl es env S).bind fun q => (cl f (.ref q.2.length :: q.1) (q.2 ++ [.ins c []])).bind fun u => guard' (isNon u.1) (.ok (.ref q.2.length, u.2))
  | .nx a, env, S => (evE pg cl a env S).nox
  | .isx i c, env, S => (excR S env[i]?).bind fun b => guard' (pg.xs.contains b) (.ok (.bl (subc b c), S))
  | .callM c m es, env, S => (of (pg.meth c m)).bind fun f => (evS pg cl es env S).bind fun q => cl f q.1 q.2
  | .mu m a es, env, S => (evE pg cl a env S).bind fun p => (lstR p.2 p.1).bind fun _ => (evS pg cl es env p.2).bind fun q => (lstR q.2 p.1).bind fun o => (muE m o.2 q.1).bind fun u => .ok (u.1, q.2.set o.1 (.lst u.2))
-- arguments
noncomputable def evS (pg : Pg) (cl : CallT) : Es → Env → Sto → Res (List Val × Sto)
  | .nil, _, S => .ok ([], S)
  | .cons e es, env, S => (evE pg cl e env S).bind fun p => (evS pg cl es env p.2).bind fun q => .ok (p.1 :: q.1, q.2)
-- items that are kept
noncomputable def evK (pg : Pg) (cl : CallT) : Es → Env → Sto → Res (List Val × Sto)
  | .nil, _, S => .ok ([], S)
  | .cons e es, env, S => (evE pg cl e env S).bind fun p => guard' (keepV e p.1) ((evK pg cl es env p.2).bind fun q => .ok (p.1 :: q.1, q.2))
-- a comprehension's test
noncomputable def evC (pg : Pg) (cl : CallT) : Es → Env → Sto → Res (Bool × Sto)
  | .nil, _, S => .ok (true, S)
  | .cons e _, env, S => (evE pg cl e env S).bind fun p => (isB p.1).bind fun k => .ok (k, p.2)
-- a bound that may be left out
noncomputable def evO (pg : Pg) (cl : CallT) : Es → Env → Sto → Res (Option Int × Sto)
  | .nil, _, S => .ok (none, S)
  | .cons e _, env, S => (evE pg cl e env S).bind fun p => match p.1 with
    | .int i => .ok (some i, p.2)
    | _ => .stuck
noncomputable def evAnd (pg : Pg) (cl : CallT) : Es → Env → Sto → Res (Val × Sto)
  | .nil, _, _ => .stuck
  | .cons e .nil, env, S => (evE pg cl e env S).bind fun p => (isB p.1).bind fun k => .ok (.bl k, p.2)
  | .cons e es, env, S => (evE pg cl e env S).bind fun p => (isB p.1).bind fun k => if k = true then evAnd pg cl es env p.2 else .ok (.bl false, p.2)
noncomputable def evOr (pg : Pg) (cl : CallT) : Es → Env → Sto → Res (Val × Sto)
  | .nil, _, _ => .stuck
  | .cons e .nil, env, S => (evE pg cl e env S).bind fun p => (isB p.1).bind fun k => .ok (.bl k, p.2)
  | .cons e es, env, S => (evE pg cl e env S).bind fun p => (isB p.1).bind fun k => if k = true then .ok (.bl true, p.2) else evOr pg cl es env p.2
noncomputable def evD (pg : Pg) (cl : CallT) (t : Bool) : Es → Env → Sto → List (Val × Val) → Res (Val × Sto)
  | .cons k (.cons v es), env, S, acc => (evE pg cl k env S).bind fun p => (evE pg cl v env p.2).bind fun q => guard' (isKey t p.1 && pur q.1) (evD pg cl t es env q.2 (dput acc p.1 q.1))
  | .cons _ .nil, _, _, _ => .stuck
  | .nil, _, S, acc => .ok (.dic t acc, S)
-- what is walked
noncomputable def evI (pg : Pg) (cl : CallT) : It → Env → Sto → Res (List Val × Sto)
  | .rng es, env, S => (evS pg cl es env S).bind fun p => (rngV p.1).bind fun l => .ok (l, p.2)
  | .enum a, env, S => (evE pg cl a env S).bind fun p => (seqE p.1).bind fun l => .ok (enumV 0 l, p.2)
  | .rev a, env, S => (evE pg cl a env S).bind fun p => (seqL p.1).bind fun l => .ok (l.reverse, p.2)
  | .seq a, env, S => (evE pg cl a env S).bind fun p => (seqV p.1).bind fun l => .ok (l, p.2)
end

def tgSet : Tg → Val → Env → Option Env
  | .one j, v, env => some (env.set j (some v))
  | .two j k, .tup [a, b], env => some ((env.set j (some a)).set k (some b))
  | .three j k l, .tup [a, b, c], env => some (((env.set j (some a)).set k (some b)).set l (some c))
  | _, _, _ => none
def unpSet : List Nat → List Val → Env → Option Env
  | [], [], env => some env
  | j :: js, v :: vs, env => unpSet js vs (env.set j (some v))
  | _, _, _ => none

def forL {α : Type} (f : α → Env → Sto → Out) : List α → Env → Sto → Out
  | [], env, S => .ok .nx env S
  | v :: vs, env, S => (f v env S).seq fun env S => forL f vs env S
def whlL (c : Env → Sto → Res (Bool × Sto)) (f : Env → Sto → Out) : Nat → Env → Sto → Out
  | 0, _, _ => .stuck
  | n + 1, env, S => (c env S).then env fun p => if p.1 = true then (f env p.2).seq fun env S => whlL c f n env S else .ok .nx env p.2
def WFUEL : Nat := 1000000
open Classical in
/-- a list of the store walked: it stays as it is -/
noncomputable def forRL {α : Type} (f : α → Env → Sto → Out) (o : Nat × List Val) : List α → Env → Sto → Out
  | [], env, S => if S[o.1]? = some (.lst o.2) then .ok .nx env S else .stuck
  | v :: vs, env, S => if S[o.1]? = some (.lst o.2) then (f v env S).seq fun env S => forRL f o vs env S else .stuck
/-- a list or dict of the store changed at a place -/
def putO (S : Sto) (a k v : Val) : Res (Nat × Ob) := match a with
  | .ref n => match S[n]? with
    | some (.dic t kvs) => guard' (isKey t k && decide (kvs.length < LIM)) (.ok (n, .dic t (dput kvs k v)))
    | some (.lst xs) => match k with
      | .int j => (of (ixN' xs.length j)).bind fun i => .ok (n, .lst (xs.set i v))
      | _ => .stuck
    | _ => .stuck
  | _ => .stuck

/-- are the items of this walk unowned -/
def itFr (ow : List Bool) : It → Bool
  | .seq (.var i) => !(ow[i]?.getD true)
  | .enum (.var i) => !(ow[i]?.getD true)
  | .rev (.var i) => !(ow[i]?.getD true)
  | .seq e => fresh e
  | .enum e => fresh e
  | .rev e => fresh e
  | .rng _ => true
/-- a value that may be given back -/
def retOk (ow : List Bool) (e : E) (v : Val) : Bool := keepV e v || match e with
  | .var i => ow[i]?.getD false
  | _ => false

/-- the slots that are given away in a tuple -/
def mvs (ow : List Bool) : Es → List Nat
  | .nil => []
  | .cons (.var i) es => if ow[i]?.getD false = true then i :: mvs ow es else mvs ow es
  | .cons _ es => mvs ow es
def isMv (ow : List Bool) : E → Bool
  | .var i => ow[i]?.getD false
  | _ => false
/-- items of a tuple that is given back -/
noncomputable def evM (pg : Pg) (cl : CallT) (ow : List Bool) : Es → Env → Sto → Res (List Val × Sto)
  | .nil, _, S => .ok ([], S)
  | .cons e es, env, S => (evE pg cl e env S).bind fun p => guard' (isMv ow e || keepV e p.1) ((evM pg cl ow es env p.2).bind fun q => .ok (p.1 :: q.1, q.2))
/-- a source that is neither new nor a slot -/
def itDyn : It → Bool
  | .seq (.var _) => false
  | .seq e => !fresh e
  | _ => false
/-- its items: those of a tuple without lists -/
noncomputable def evY (pg : Pg) (cl : CallT) : It → Env → Sto → Res (List Val × Sto)
  | .seq e, env, S => (evE pg cl e env S).bind fun p => match p.1 with
    | .tup xs => guard' (purs xs) (.ok (xs, p.2))
    | _ => .stuck
  | _, _, _ => .stuck

def muV : Mu → List Val → List Val → Res (List Val)
  | .append, xs, [v] => guard' (decide (xs.length < LIM)) (.ok (xs ++ [v]))
  | .insert, xs, [.int i, v] => guard' (decide (xs.length < LIM ∧ 0 ≤ i ∧ i ≤ xs.length) && pur v && purs xs) (.ok (xs.take i.toNat ++ [v] ++ xs.drop i.toNat))
  | .pop, xs, [] => guard' (decide (xs ≠ [] )) (.ok xs.dropLast)
  | .pop, xs, [.int i] => guard' (decide (0 ≤ i ∧ i < xs.length ∧ xs.length ≤ LIM) && purs xs) (.ok (xs.eraseIdx i.toNat))
  | .clear, _, [] => .ok []
  | _, _, _ => .stuck

/-- .. of a list of the store -/
def muR : Mu → List Val → List Val → Res (List Val)
  | .append, xs, [v] => guard' (decide (xs.length < LIM) && pur v) (.ok (xs ++ [v]))
  | .insert, xs, [.int i, v] => guard' (decide (xs.length < LIM ∧ 0 ≤ i ∧ i ≤ xs.length) && pur v) (.ok (xs.take i.toNat ++ [v] ++ xs.drop i.toNat))
  | .pop, xs, [] => guard' (decide (xs ≠ [])) (.ok xs.dropLast)
  | .pop, xs, [.int i] => guard' (decide (0 ≤ i ∧ i < xs.length ∧ xs.length ≤ LIM)) (.ok (xs.eraseIdx i.toNat))
  | .clear, _, [] => .ok []
  | .extend, xs, [.lst ys] => guard' (decide (xs.length + ys.length ≤ LIM) && purs ys) (.ok (xs ++ ys))
  | _, _, _ => .stuck
mutual
noncomputable def exC (pg : Pg) (cl : CallT) (ow : List Bool) : C → Env → Sto → Out
  | .set i e, env, S => (evE pg cl e env S).then env fun p => if keepV e p.1 = true then .ok .nx (env.set i (some p.1)) p.2 else (match e with
      | .var j => if ow[j]?.getD false = true ∧ i ≠ j then .ok .nx ((env.set i (some p.1)).set j none) p.2 else if ow[j]?.getD false = false ∧ ow[i]?.getD false = false then .ok .nx (env.set i (some p.1)) p.2 else .stuck
      | _ => .stuck)
  | .unp js e, env, S => (evE pg cl e env S).then env fun p => if keepV e p.1 = true then (match p.1 with
      | .tup vs => match unpSet js vs env with
        | some env' => .ok .nx env' p.2
        | none => .stuck
      | _ => .stuck) else .stuck
  | .mut m i es, env, S => (evK pg cl es env S).then env fun p => match ow[i]?, env[i]? with
      | some true, some (some (.lst xs)) => (muV m xs p.1).then env fun ys => .ok .nx (env.set i (some (.lst ys))) p.2
      | _, _ => .stuck
  | .put i k e, env, S => (evE pg cl e env S).then env fun p => (evE pg cl k env p.2).then env fun q => if keepV e p.1 = true then (match ow[i]?, env[i]? with
      | some true, some (some (.dic t kvs)) => if isKey t q.1 = true ∧ pur p.1 = true then (if kvs.length < LIM then .ok .nx (env.set i (some (.dic t (dput kvs q.1 p.1)))) q.2 else .stuck) else .stuck
      | some true, some (some (.lst xs)) => (match q.1 with
        | .int j => match ixN' xs.length j with
          | some n => if pur p.1 = true then .ok .nx (env.set i (some (.lst (xs.set n p.1)))) q.2 else .stuck
          | none => .stuck
        | _ => .stuck)
      | _, _ => .stuck) else .stuck
  | .exp e, env, S => (evE pg cl e env S).then env fun p => .ok .nx env p.2
  | .ite c a b, env, S => (evE pg cl c env S).then env fun p => (isB p.1).then env fun k => if k = true then exCs pg cl ow a env p.2 else exCs pg cl ow b env p.2
  | .forS tg it b, env, S => (if itDyn it = true then evY pg cl it env S else evI pg cl it env S).then env fun p => if (itDyn it || itFr ow it || purs p.1) = true then forL (fun v env S => match tgSet tg v env with
      | some env' => exCs pg cl ow b env' S
      | none => .stuck) p.1 env p.2 else .stuck
  | .whl c b, env, S => whlL (fun env S => (evE pg cl c env S).bind fun p => (isB p.1).bind fun k => .ok (k, p.2)) (fun env S => exCs pg cl ow b env S) WFUEL env S
  | .ret (.tup es), env, S => if (mvs ow es).Nodup then (evM pg cl ow es env S).then env fun p => .ok (.rt (.tup p.1)) env p.2 else .stuck
  | .ret e, env, S => (evE pg cl e env S).then env fun p => if retOk ow e p.1 = true then .ok (.rt p.1) env p.2 else .stuck
  | .retN, env, S => .ok (.rt .non) env S
  | .raise c, env, S => .exc c env S
  | .mutR m a es, env, S => (evE pg cl a env S).then env fun p => (lstR p.2 p.1).then env fun _ => (evK pg cl es env p.2).then env fun q => (lstR q.2 p.1).then env fun o => (muR m o.2 q.1).then env fun ys => .ok .nx env (q.2.set o.1 (.lst ys))
  | .putR a k e, env, S => (evE pg cl e env S).then env fun p => (evE pg cl a env p.2).then env fun q => (evE pg cl k env q.2).then env fun u => if pur p.1 = true then (putO u.2 q.1 u.1 p.1).then env fun o => .ok .nx env (u.2.set o.1 o.2) else .stuck
  | .nput a k e, env, S => (evE pg cl e env S).then env fun p => (evE pg cl a env p.2).then env fun q => (evE pg cl k env q.2).then env fun u => (nkvs u.2 q.1).then env fun kvs => match q.1 with
      | .ref n => if (pur p.1 && nkey u.1 && decide (kvs.length < LIM)) = true then .ok .nx env (u.2.set n (.dicN (dput kvs u.1 p.1))) else .stuck
      | _ => .stuck
  | .putF a f e, env, S => (evE pg cl e env S).then env fun p => (evE pg cl a env p.2).then env fun q => (insR q.2 q.1).then env fun o => if (pur p.1 && pg.hasF o.2.1 f && decide (o.2.2.length < 100)) = true then .ok .nx env (q.2.set o.1 (.ins o.2.1 (fput f p.1 o.2.2))) else .stuck
  | .forR tg a b, env, S => (evE pg cl a env S).then env fun p => (lstR p.2 p.1).then env fun o => forRL (fun v env S => match tgSet tg v env with
      | some env' => exCs pg cl ow b env' S
      | none => .stuck) o o.2 env p.2
  | .forX tg i b, env, S => match env[i]? with
    | some (some (.ref n)) => (lstR S (.ref n)).then env fun o => forRL (fun v env S => match tgSet tg v env with
      | some env' => exCs pg cl ow b env' S
      | none => .stuck) o o.2 env S
    | some (some v) => (seqV v).then env fun l => if (!(ow[i]?.getD true) || purs l) = true then forL (fun v env S => match tgSet tg v env with
      | some env' => exCs pg cl ow b env' S
      | none => .stuck) l env S else .stuck
    | _ => .stuck
  | .tryS b hs, env, S => match exCs pg cl ow b env S with
    | .exc c env' S' => if pg.xs.contains c = true then exHs pg cl ow hs c env' S' else .stuck
    | o => o
  | .pass, env, S => .ok .nx env S
noncomputable def exHs (pg : Pg) (cl : CallT) (ow : List Bool) : Hs → Nat → Env → Sto → Out
  | .nil, c, env, S => .exc c env S
  | .cons c' js b hs, c, env, S => if subc c c' = true then (match js with
      | [] => (match b with
        | .cons (.raise _) .nil => .stuck
        | b => (match exCs pg cl ow b env S with
          | .ok f env' S' => .ok f env' S'
          | _ => .stuck))
      | [i] => (match exCs pg cl ow b (env.set i (some (.ref S.length))) (S ++ [.xo c]) with
        | .ok f env' S' => .ok f (env'.set i none) S'
        | _ => .stuck)
      | _ => .stuck) else exHs pg cl ow hs c env S
noncomputable def exCs (pg : Pg) (cl : CallT) (ow : List Bool) : Cs → Env → Sto → Out
  | .nil, env, S => .ok .nx env S
  | .cons c cs, env, S => (exC pg cl ow c env S).seq fun env S => exCs pg cl ow cs env S
end

/-- a def called, so many calls deep at most -/
noncomputable def call (pg : Pg) : Nat → CallT
  | 0 => fun _ _ _ => .stuck
  | d + 1 => fun f vs S => match pg.fn f with
    | none => .stuck
    | some F => if vs.length = F.np then match exCs pg (call pg d) F.own F.body (vs.map some ++ List.replicate (F.n - F.np) none) S with
        | .ok .nx _ S' => .ok (.non, S')
        | .ok (.rt v) _ S' => .ok (v, S')
        | .exc c _ S' => .exc c S'
        | .stuck => .stuck
      else .stuck
end Ev

namespace Ev
open PySem
abbrev eS (s : List Int) : Val := .tup (s.map .int)
abbrev eR (r : List (List Int)) : Val := .tup (r.map eS)
abbrev eL (s : List Int) : Val := .lst (s.map .int)

@[simp] theorem mapR_map {α β : Type} (e : β → α) (f : α → Sto → Res (Option Val × Sto)) : ∀ (xs : List β) (S : Sto), mapR f (xs.map e) S = mapR (fun x S => f (e x) S) xs S
  | [], S => rfl
  | x :: xs, S => by simp only [List.map_cons, mapR, mapR_map e f xs]
@[simp] theorem mapR_ok {α : Type} (o : α → Option Val) : ∀ (xs : List α) (S : Sto), mapR (fun x S => .ok (o x, S)) xs S = .ok (xs.filterMap o, S)
  | [], S => rfl
  | x :: xs, S => by
    simp only [mapR, bind_ok, mapR_ok o xs, List.filterMap_cons]
    cases o x <;> rfl
@[simp] theorem forL_map {α β : Type} (e : β → α) (f : α → Env → Sto → Out) : ∀ (xs : List β) (env : Env) (S : Sto), forL f (xs.map e) env S = forL (fun x env S => f (e x) env S) xs env S
  | [], env, S => rfl
  | x :: xs, env, S => by simp only [List.map_cons, forL, forL_map e f xs]
theorem ite_ok {α : Type} (c : Prop) [Decidable c] (a b : α) : (if c then Res.ok a else Res.ok b) = Res.ok (if c then a else b) := by split <;> rfl
theorem ite_pair {α β : Type} (c : Prop) [Decidable c] (a b : α) (s : β) : (if c then (a, s) else (b, s)) = (if c then a else b, s) := by split <;> rfl
@[simp] theorem dr_tup (S : Sto) (xs : List Val) : dr S (.tup xs) = .tup xs := rfl
@[simp] theorem dr_lst (S : Sto) (xs : List Val) : dr S (.lst xs) = .lst xs := rfl
@[simp] theorem dr_int (S : Sto) (i : Int) : dr S (.int i) = .int i := rfl
@[simp] theorem dr_bl (S : Sto) (i : Bool) : dr S (.bl i) = .bl i := rfl
@[simp] theorem dr_str (S : Sto) (i : Str) : dr S (.str i) = .str i := rfl
@[simp] theorem dr_non (S : Sto) : dr S .non = .non := rfl
@[simp] theorem dr_dic (S : Sto) (t xs) : dr S (.dic t xs) = .dic t xs := rfl
@[simp] theorem dr_scr (S : Sto) (xs) : dr S (.scr xs) = .scr xs := rfl
@[simp] theorem dr_set (S : Sto) (xs) : dr S (.set xs) = .set xs := rfl
@[simp] theorem purs_map {α : Type} (e : α → Val) (h : ∀ x, pur (e x) = true) : ∀ xs : List α, purs (xs.map e) = true
  | [] => rfl
  | x :: xs => by simp [purs, h, purs_map e h xs]
@[simp] theorem purs_int (xs : List Int) : purs (xs.map .int) = true := purs_map _ (fun _ => rfl) xs
@[simp] theorem pur_eS (xs : List Int) : pur (eS xs) = true := by simp [pur]
@[simp] theorem purs_eS (xs : List (List Int)) : purs (xs.map eS) = true := purs_map _ (fun _ => by simp [pur]) xs
def retV : Out → Res (Val × Sto)
  | .ok .nx _ S' => .ok (.non, S')
  | .ok (.rt v) _ S' => .ok (v, S')
  | .exc c _ S' => .exc c S'
  | .stuck => .stuck
theorem call_eq {pg : Pg} {f : Nat} {F : Fn} (h : pg.fn f = some F) (d : Nat) (vs : List Val) (S : Sto) : call pg (d + 1) f vs S = if vs.length = F.np then retV (exCs pg (call pg d) F.own F.body (vs.map some ++ List.replicate (F.n - F.np) none) S) else .stuck := by
  simp only [call, h]
  split
  · generalize exCs pg (call pg d) F.own F.body _ S = o
    cases o with
    | ok f env S' => cases f <;> rfl
    | exc c env S' => rfl
    | stuck => rfl
  · rfl
@[simp] theorem guard_false {α : Type} (r : Res α) : guard' false r = .stuck := rfl
end Ev

/-! EvP: plain laws: values that stand for strips and rests. -/
namespace Ev
open PySem

theorem forL_inv {α : Type} {f : α → Env → Sto → Out} {P : Env → Prop} {S : Sto} : ∀ {l : List α} {env : Env}, P env → (∀ x, x ∈ l → ∀ env, P env → ∃ env', f x env S = .ok .nx env' S ∧ P env') → ∃ env', forL f l env S = .ok .nx env' S ∧ P env'
  | [], env, h, _ => ⟨env, rfl, h⟩
  | x :: xs, env, h, k => by
    obtain ⟨e1, q1, p1⟩ := k x List.mem_cons_self env h
    obtain ⟨e2, q2, p2⟩ := forL_inv (l := xs) p1 fun y m => k y (List.mem_cons_of_mem _ m)
    exact ⟨e2, by rw [forL, q1, seq_nx, q2], p2⟩
/-- .. with how many items were walked -/
theorem forL_ix {α : Type} {f : α → Env → Sto → Out} {P : Nat → Env → Prop} {S : Sto} : ∀ {l : List α} {env : Env} {n : Nat}, P n env → (∀ (i : Nat) (x : α), l[i]? = some x → ∀ env, P (n + i) env → ∃ env', f x env S = .ok .nx env' S ∧ P (n + i + 1) env') → ∃ env', forL f l env S = .ok .nx env' S ∧ P (n + l.length) env'
  | [], env, n, h, _ => ⟨env, rfl, h⟩
  | x :: xs, env, n, h, k => by
    obtain ⟨e1, q1, p1⟩ := k 0 x rfl env h
    obtain ⟨e2, q2, p2⟩ := forL_ix (l := xs) (n := n + 1) p1 fun i y m env h => by
      obtain ⟨e, q, p⟩ := k (i + 1) y (by simpa using m) env (by rw [show n + (i + 1) = n + 1 + i by omega]; exact h)
      exact ⟨e, q, by rw [show n + 1 + i + 1 = n + (i + 1) + 1 by omega]; exact p⟩
    exact ⟨e2, by rw [forL, q1, seq_nx, q2], by rw [List.length_cons, show n + (xs.length + 1) = n + 1 + xs.length by omega]; exact p2⟩
theorem forL_n {α : Type} {f : α → Env → Sto → Out} {P : Nat → Env → Prop} {S : Sto} {l : List α} {env : Env} (h : P 0 env) (k : ∀ (i : Nat) (x : α), l[i]? = some x → ∀ env, P i env → ∃ env', f x env S = .ok .nx env' S ∧ P (i + 1) env') : ∃ env', forL f l env S = .ok .nx env' S ∧ P l.length env' := by
  obtain ⟨e, q, p⟩ := forL_ix (n := 0) (P := P) (S := S) (f := f) (l := l) h fun i x hx env hp => by
    rw [Nat.zero_add] at hp ⊢
    exact k i x hx env hp
  rw [Nat.zero_add] at p
  exact ⟨e, q, p⟩
@[simp] theorem forL_mrev {α β : Type} (e : β → α) (f : α → Env → Sto → Out) (xs : List β) (env : Env) (S : Sto) : forL f (xs.map e).reverse env S = forL (fun x env S => f (e x) env S) xs.reverse env S := by
  rw [← List.map_reverse, forL_map]
theorem purs_app : ∀ (a b : List Val), purs (a ++ b) = (purs a && purs b)
  | [], b => by simp [purs]
  | x :: xs, b => by simp [purs, purs_app xs b, Bool.and_assoc]
@[simp] theorem purs_rev : ∀ l : List Val, purs l.reverse = purs l
  | [] => rfl
  | x :: xs => by
    rw [List.reverse_cons, purs_app, purs_rev xs]
    simp [purs, Bool.and_comm]
/-- a loop that gives an answer at the first item that is sought -/
theorem forL_someM {α β : Type} {S : Sto} {f : α → Env → Sto → Out} {env0 : β → Env} {q : α → Bool} {v : α → Val} {c : α → β} : ∀ (l : List α) (b : β) (x : α), (∀ x, x ∈ l → ∀ b, f x (env0 b) S = if q x = true then .ok (.rt (v x)) (env0 (c x)) S else .ok .nx (env0 (c x)) S) → l.find? q = some x → ∃ b', forL f l (env0 b) S = .ok (.rt (v x)) (env0 b') S
  | [], b, x, h, e => by simp at e
  | y :: ys, b, x, h, e => by
    rw [forL, h y List.mem_cons_self]
    rw [List.find?_cons] at e
    cases hq : q y with
    | true =>
      rw [hq] at e
      cases e
      exact ⟨_, rfl⟩
    | false =>
      rw [hq] at e
      exact forL_someM ys (c y) x (fun z m => h z (List.mem_cons_of_mem _ m)) e
theorem forL_noneM {α β : Type} {S : Sto} {f : α → Env → Sto → Out} {env0 : β → Env} {q : α → Bool} {v : α → Val} {c : α → β} : ∀ (l : List α) (b : β), (∀ x, x ∈ l → ∀ b, f x (env0 b) S = if q x = true then .ok (.rt (v x)) (env0 (c x)) S else .ok .nx (env0 (c x)) S) → l.find? q = none → ∃ b', forL f l (env0 b) S = .ok .nx (env0 b') S
  | [], b, h, e => ⟨b, rfl⟩
  | y :: ys, b, h, e => by
    rw [forL, h y List.mem_cons_self]
    rw [List.find?_cons] at e
    cases hq : q y with
    | true =>
      rw [hq] at e
      cases e
    | false =>
      rw [hq] at e
      exact forL_noneM ys (c y) (fun z m => h z (List.mem_cons_of_mem _ m)) e
theorem forL_some {α β : Type} {S : Sto} {f : α → Env → Sto → Out} {env0 : β → Env} {q : α → Bool} {v : α → Val} {c : α → β} (h : ∀ x b, f x (env0 b) S = if q x = true then .ok (.rt (v x)) (env0 (c x)) S else .ok .nx (env0 (c x)) S) (l : List α) (b : β) (x : α) (e : l.find? q = some x) : ∃ b', forL f l (env0 b) S = .ok (.rt (v x)) (env0 b') S := forL_someM l b x (fun z _ => h z) e
theorem forL_none {α β : Type} {S : Sto} {f : α → Env → Sto → Out} {env0 : β → Env} {q : α → Bool} {v : α → Val} {c : α → β} (h : ∀ x b, f x (env0 b) S = if q x = true then .ok (.rt (v x)) (env0 (c x)) S else .ok .nx (env0 (c x)) S) (l : List α) (b : β) (e : l.find? q = none) : ∃ b', forL f l (env0 b) S = .ok .nx (env0 b') S := forL_noneM l b (fun z _ => h z) e
def enumZ {α : Type} (k : Int) : List α → List (Int × α)
  | [] => []
  | x :: xs => (k, x) :: enumZ (k + 1) xs
@[simp] theorem enumV_map {α : Type} (e : α → Val) : ∀ (l : List α) (k : Int), enumV k (l.map e) = (enumZ k l).map fun p => .tup [.int p.1, e p.2]
  | [], k => rfl
  | x :: xs, k => by rw [List.map_cons, enumV, enumV_map e xs, enumZ, List.map_cons]
theorem enumZ_find {α : Type} (q : α → Bool) : ∀ (l : List α) (k : Int), ((enumZ k l).find? fun p => q p.2) = (l.findIdx? q).bind fun i => (l[i]?).map fun x => (k + i, x)
  | [], k => by simp [enumZ]
  | x :: xs, k => by
    rw [enumZ, List.find?_cons, List.findIdx?_cons]
    cases hq : q x with
    | true => simp [hq]
    | false =>
      simp only [hq, Bool.false_eq_true, if_false]
      rw [enumZ_find q xs (k + 1)]
      cases xs.findIdx? q with
      | none => rfl
      | some i =>
        simp only [Option.map_some, Option.bind_some, List.getElem?_cons_succ]
        congr 1
        funext y
        congr 1
        omega
theorem range_map : ∀ (n : Nat) (lo : Int), range lo n = (List.range n).map fun i => .int (lo + (i : Nat))
  | 0, lo => rfl
  | n + 1, lo => by
    rw [range, range_map n, List.range_succ_eq_map, List.map_cons, List.map_map]
    congr 1
    · simp
    · refine List.map_congr_left fun i _ => ?_
      simp only [Function.comp]
      congr 1
      omega
theorem range0 (n : Nat) : range 0 n = (List.range n).map fun i => .int (i : Nat) := by
  rw [range_map]
  refine List.map_congr_left fun i _ => ?_
  rw [Int.zero_add]
theorem range_find {α : Type} (q : α → Bool) (l : List α) (p : Nat → Bool) (hp : ∀ (i : Nat) (x : α), l[i]? = some x → p i = q x) : (List.range l.length).find? p = l.findIdx? q := by
  cases h : l.findIdx? q with
  | none =>
    rw [List.findIdx?_eq_none_iff] at h
    rw [List.find?_eq_none]
    intro i hi
    have hi := List.mem_range.mp hi
    rw [hp i l[i] (List.getElem?_eq_getElem hi), h _ (List.getElem_mem hi)]
    exact fun z => nomatch z
  | some i =>
    obtain ⟨hi, h1, h2⟩ := List.findIdx?_eq_some_iff_getElem.mp h
    rw [List.find?_range_eq_some]
    refine ⟨?_, List.mem_range.mpr hi, fun j hj => ?_⟩
    · rw [hp i l[i] (List.getElem?_eq_getElem hi)]; exact h1
    · have hjl : j < l.length := by omega
      rw [hp j l[j] (List.getElem?_eq_getElem hjl)]
      have := h2 j hj
      simpa using this
/-- as a fold over the items -/
theorem forL_fold {α β : Type} {f : α → Env → Sto → Out} {S : Sto} (E : β → Option Val → Env) (g : β → α → β) (hf : ∀ x b o, ∃ o', f x (E b o) S = .ok .nx (E (g b x) o') S) : ∀ (l : List α) (b : β) (o : Option Val), ∃ o', forL f l (E b o) S = .ok .nx (E (l.foldl g b) o') S
  | [], b, o => ⟨o, rfl⟩
  | x :: xs, b, o => by
    obtain ⟨o1, h1⟩ := hf x b o
    obtain ⟨o2, h2⟩ := forL_fold E g hf xs (g b x) o1
    exact ⟨o2, by rw [forL, h1, seq_nx, h2]; rfl⟩
theorem mapR_fun {α β : Type} {f : α → Sto → Res (Option Val × Sto)} {S : Sto} (g : α → β) (e : β → Val) : ∀ {l : List α}, (∀ x, x ∈ l → f x S = .ok (some (e (g x)), S)) → mapR f l S = .ok ((l.map g).map e, S)
  | [], _ => rfl
  | x :: xs, h => by
    rw [mapR, h x List.mem_cons_self, bind_ok, mapR_fun g e (l := xs) fun y m => h y (List.mem_cons_of_mem _ m), bind_ok]
    rfl
theorem mapR_ex {α β : Type} {f : α → Sto → Res (Option Val × Sto)} {S : Sto} {P : α → β → Prop} (e : β → Val) : ∀ {l : List α}, (∀ x, x ∈ l → ∃ b, f x S = .ok (some (e b), S) ∧ P x b) → ∃ bs : List β, mapR f l S = .ok (bs.map e, S) ∧ bs.length = l.length ∧ ∀ b, b ∈ bs → ∃ x, x ∈ l ∧ P x b
  | [], _ => ⟨[], rfl, rfl, by simp⟩
  | x :: xs, h => by
    obtain ⟨v, h1, h2⟩ := h x List.mem_cons_self
    obtain ⟨vs, h3, h4, h5⟩ := mapR_ex (l := xs) e fun y m => h y (List.mem_cons_of_mem _ m)
    refine ⟨v :: vs, ?_, by simp [h4], fun b m => ?_⟩
    · rw [mapR, h1, bind_ok, h3, bind_ok]; rfl
    · rcases List.mem_cons.mp m with rfl | m
      · exact ⟨x, List.mem_cons_self, h2⟩
      · obtain ⟨y, hy, hp⟩ := h5 b m
        exact ⟨y, List.mem_cons_of_mem _ hy, hp⟩

/-! ### order -/
def ltS : List Int → List Int → Bool
  | x :: xs, y :: ys => if x = y then ltS xs ys else decide (x < y)
  | [], _ :: _ => true
  | _, [] => false
def leS (a b : List Int) : Bool := !ltS b a
def sortR (r : List (List Int)) : List (List Int) := r.mergeSort leS
def sortI (s : List Int) : List Int := s.mergeSort fun a b => decide (a ≤ b)
@[simp] theorem veqs_int : ∀ (a b : List Int), veqs (a.map .int) (b.map .int) = decide (a = b)
  | [], [] => rfl
  | [], _ :: _ => rfl
  | _ :: _, [] => rfl
  | x :: xs, y :: ys => by
    simp only [List.map_cons, veqs, veq, veqs_int xs ys, List.cons.injEq]
    by_cases h : x = y <;> simp [h]
@[simp] theorem veq_int (a b : Int) : veq (.int a) (.int b) = decide (a = b) := by
  simp only [veq]
  by_cases h : a = b <;> simp [h]
@[simp] theorem veq_eS (a b : List Int) : veq (eS a) (eS b) = decide (a = b) := by simp [veq]
@[simp] theorem veqs_eS : ∀ (a b : List (List Int)), veqs (a.map eS) (b.map eS) = decide (a = b)
  | [], [] => rfl
  | [], _ :: _ => rfl
  | _ :: _, [] => rfl
  | x :: xs, y :: ys => by
    simp only [List.map_cons, veqs, veq_eS, veqs_eS xs ys, List.cons.injEq]
    by_cases h : x = y <;> simp [h]
@[simp] theorem veq_eR (a b : List (List Int)) : veq (eR a) (eR b) = decide (a = b) := by simp [veq]
@[simp] theorem veq_lst (a b : List Val) : veq (.lst a) (.lst b) = veqs a b := by simp [veq]
theorem vlts_int : ∀ (a b : List Int), vlts (a.map .int) (b.map .int) = ltS a b
  | [], [] => rfl
  | [], _ :: _ => rfl
  | _ :: _, [] => rfl
  | x :: xs, y :: ys => by
    simp only [List.map_cons, vlts, veq_int, vlt, vlts_int xs ys, ltS]
    by_cases h : x = y <;> simp [h]
theorem vle_eS (a b : List Int) : vle (eS a) (eS b) = leS a b := by
  simp [vle, leS, vlt, vlts_int]
theorem vsort_map {α : Type} (e : α → Val) (le : α → α → Bool) (h : ∀ a b, vle (e a) (e b) = le a b) (l : List α) : vsort (l.map e) = (l.mergeSort le).map e := by
  unfold vsort
  rw [List.map_mergeSort]
  intro a _ b _
  exact (h a b).symm
@[simp] theorem vsort_eS (r : List (List Int)) : vsort (r.map eS) = (sortR r).map eS := vsort_map eS leS vle_eS r
@[simp] theorem vsort_int (s : List Int) : vsort (s.map .int) = (sortI s).map .int := vsort_map .int _ (fun a b => by
  simp only [vle, vlt]
  by_cases h : b < a
  · simp [h]
  · simp only [h, decide_false, Bool.not_false]
    have : a ≤ b := by omega
    simp [this]) s

/-! ### data -/
theorem isDs_map {α : Type} (e : α → Val) (h : ∀ a, isD (e a) = true) : ∀ l : List α, isDs (l.map e) = true
  | [] => rfl
  | x :: xs => by simp [isDs, h, isDs_map e h xs]
theorem deps_map {α : Type} (e : α → Val) (n : Nat) (h : ∀ a, dep (e a) ≤ n) : ∀ l : List α, deps (l.map e) ≤ n
  | [] => by simp [deps]
  | x :: xs => by
    simp only [List.map_cons, deps]
    have := h x
    have := deps_map e n h xs
    omega
@[simp] theorem isD_int (i : Int) : isD (.int i) = true := rfl
@[simp] theorem dep_int (i : Int) : dep (.int i) = 0 := rfl
@[simp] theorem isDs_int (s : List Int) : isDs (s.map .int) = true := isDs_map _ (fun _ => rfl) s
@[simp] theorem deps_int (s : List Int) : deps (s.map .int) = 0 := Nat.le_zero.mp (deps_map _ 0 (fun _ => Nat.le_refl _) s)
@[simp] theorem isD_eS (s : List Int) : isD (eS s) = true := by simp [isD]
@[simp] theorem dep_eS (s : List Int) : dep (eS s) = 1 := by simp [dep]
@[simp] theorem isDs_eS (r : List (List Int)) : isDs (r.map eS) = true := isDs_map _ isD_eS r
theorem deps_eS (r : List (List Int)) : deps (r.map eS) ≤ 1 := deps_map _ 1 (fun s => by rw [dep_eS]; exact Nat.le_refl _) r
@[simp] theorem alks_int : ∀ (a b : List Int), alks (a.map .int) (b.map .int) = true
  | [], _ => by simp [alks]
  | _ :: _, [] => by simp [alks]
  | x :: xs, y :: ys => by simp [alks, alk, alks_int xs ys]
@[simp] theorem sortOk_int (s : List Int) : sortOk (s.map .int) = true := by
  simp [sortOk, alk]
@[simp] theorem sortOk_eS (r : List (List Int)) : sortOk (r.map eS) = true := by
  simp [sortOk, alk]
theorem ok_inj2 {α : Type} {a b : α} (h : (Res.ok a : Res α) = .ok b) : a = b := by cases h; rfl
/-! ### built-ins -/
@[simp] theorem b_sorted_eS (r : List (List Int)) : bltV .sorted [.lst (r.map eS)] = .ok (.lst ((sortR r).map eS)) := by simp [bltV]
@[simp] theorem b_sorted_int (r : List Int) : bltV .sorted [.lst (r.map .int)] = .ok (.lst ((sortI r).map .int)) := by simp [bltV]
@[simp] theorem b_sorted_teS (r : List (List Int)) : bltV .sorted [.tup (r.map eS)] = .ok (.lst ((sortR r).map eS)) := by simp [bltV]
@[simp] theorem b_sorted_tint (r : List Int) : bltV .sorted [.tup (r.map .int)] = .ok (.lst ((sortI r).map .int)) := by simp [bltV]
@[simp] theorem b_tuple_eS (r : List (List Int)) : bltV .tuple [.lst (r.map eS)] = .ok (eR r) := by simp [bltV]
@[simp] theorem b_tuple_int (r : List Int) : bltV .tuple [.lst (r.map .int)] = .ok (eS r) := by simp [bltV]
@[simp] theorem b_list_eS (r : List (List Int)) : bltV .list [.tup (r.map eS)] = .ok (.lst (r.map eS)) := by simp [bltV]
@[simp] theorem b_list_int (r : List Int) : bltV .list [.tup (r.map .int)] = .ok (.lst (r.map .int)) := by simp [bltV]
@[simp] theorem b_len_lst (r : List Val) : bltV .len [.lst r] = .ok (.int r.length) := rfl
@[simp] theorem b_len_tup (r : List Val) : bltV .len [.tup r] = .ok (.int r.length) := rfl
@[simp] theorem b_len_scr (r : List Int) : bltV .len [.scr r] = .ok (.int r.length) := rfl
@[simp] theorem b_len_nil : bltV .len [.tup []] = .ok (.int 0) := rfl
theorem asI_int : ∀ s : List Int, asI (s.map .int) = some s
  | [] => rfl
  | x :: xs => by simp [asI, asI_int xs]
theorem b_set_int (s : List Int) (h : s.length ≤ 4000) : bltV .set [.tup (s.map .int)] = .ok (.set (once s)) := by simp [bltV, asI_int, h]
theorem b_set_lint (s : List Int) (h : s.length ≤ 4000) : bltV .set [.lst (s.map .int)] = .ok (.set (once s)) := by simp [bltV, asI_int, h]
theorem b_sorted_set (s : List Int) (h : s.length < 64) : bltV .sorted [.set s] = .ok (.lst ((sortI s).map .int)) := by simp [bltV, h, sortI]
@[simp] theorem eq_int (a b : Int) : cmpV .eq (.int a) (.int b) = .ok (.bl (decide (a = b))) := by simp [cmpV, eqWhat]
@[simp] theorem ne_int (a b : Int) : cmpV .ne (.int a) (.int b) = .ok (.bl (!decide (a = b))) := by simp [cmpV, eqWhat]
@[simp] theorem eq_eR (a b : List (List Int)) : cmpV .eq (eR a) (eR b) = .ok (.bl (decide (a = b))) := by
  have h1 := deps_eS a
  have h2 : min (dep (eR a)) (dep (eR b)) ≤ 150 := by
    have : dep (eR a) ≤ 2 := by simp only [dep]; omega
    omega
  simp only [cmpV, eqWhat]
  rw [show isD (eR a) = true by simp [isD], show isD (eR b) = true by simp [isD], decide_eq_true h2]
  simp [guard']
@[simp] theorem eq_lst_int (a b : List Int) : cmpV .eq (.lst (a.map .int)) (.lst (b.map .int)) = .ok (.bl (decide (a = b))) := by simp [cmpV, eqWhat, isD, dep]
@[simp] theorem ne_lst_int (a b : List Int) : cmpV .ne (.lst (a.map .int)) (.lst (b.map .int)) = .ok (.bl (!decide (a = b))) := by simp [cmpV, eqWhat, isD, dep]
@[simp] theorem eq_eS (a b : List Int) : cmpV .eq (eS a) (eS b) = .ok (.bl (decide (a = b))) := by simp [cmpV, eqWhat, isD, dep]
@[simp] theorem eq_lst_eS (a b : List (List Int)) : cmpV .eq (.lst (a.map eS)) (.lst (b.map eS)) = .ok (.bl (decide (a = b))) := by
  have h1 := deps_eS a
  have h2 : min (dep (.lst (a.map eS))) (dep (.lst (b.map eS))) ≤ 150 := by
    have : dep (.lst (a.map eS)) ≤ 2 := by simp only [dep]; omega
    omega
  simp only [cmpV, eqWhat]
  rw [show isD (.lst (a.map eS)) = true by simp [isD], show isD (.lst (b.map eS)) = true by simp [isD], decide_eq_true h2]
  simp [guard']
theorem ne_of_eq {a b : Val} {c : Bool} (h : cmpV .eq a b = .ok (.bl c)) : cmpV .ne a b = .ok (.bl (!c)) := by
  simp only [cmpV] at h ⊢
  cases q : eqWhat a b with
  | ok x =>
    rw [q] at h
    have : x = c := by
      have := ok_inj2 h
      injection this
    subst this
    rfl
  | exc c S => rw [q] at h; cases h
  | stuck => rw [q] at h; cases h
@[simp] theorem ne_eR (a b : List (List Int)) : cmpV .ne (eR a) (eR b) = .ok (.bl (!decide (a = b))) := ne_of_eq (eq_eR a b)
@[simp] theorem ne_eS (a b : List Int) : cmpV .ne (eS a) (eS b) = .ok (.bl (!decide (a = b))) := ne_of_eq (eq_eS a b)
@[simp] theorem ne_lst_eS (a b : List (List Int)) : cmpV .ne (.lst (a.map eS)) (.lst (b.map eS)) = .ok (.bl (!decide (a = b))) := ne_of_eq (eq_lst_eS a b)
@[simp] theorem lt_int (a b : Int) : cmpV .lt (.int a) (.int b) = .ok (.bl (decide (a < b))) := rfl
@[simp] theorem le_int (a b : Int) : cmpV .le (.int a) (.int b) = .ok (.bl (decide (a ≤ b))) := rfl
@[simp] theorem gt_int (a b : Int) : cmpV .gt (.int a) (.int b) = .ok (.bl (decide (b < a))) := rfl
@[simp] theorem ge_int (a b : Int) : cmpV .ge (.int a) (.int b) = .ok (.bl (decide (b ≤ a))) := rfl
@[simp] theorem in_int (x : Int) (s : List Int) : cmpV .in_ (.int x) (.lst (s.map .int)) = .ok (.bl (decide (x ∈ s))) := by
  simp only [cmpV, inWhat, isD_int, isDs_int, dep_int, Bool.and_self, decide_true, guard_true, Nat.zero_le, bl_ok]
  congr 2
  rw [Bool.eq_iff_iff]
  simp
@[simp] theorem nin_int (x : Int) (s : List Int) : cmpV .nin (.int x) (.lst (s.map .int)) = .ok (.bl (!decide (x ∈ s))) := by
  simp only [cmpV, inWhat, isD_int, isDs_int, dep_int, Bool.and_self, decide_true, guard_true, Nat.zero_le, nbl_ok]
  congr 3
  rw [Bool.eq_iff_iff]
  simp
@[simp] theorem in_tint (x : Int) (s : List Int) : cmpV .in_ (.int x) (.tup (s.map .int)) = .ok (.bl (decide (x ∈ s))) := by
  simp only [cmpV, inWhat, isD_int, isDs_int, dep_int, Bool.and_self, decide_true, guard_true, Nat.zero_le, bl_ok]
  congr 2
  rw [Bool.eq_iff_iff]
  simp
@[simp] theorem nin_tint (x : Int) (s : List Int) : cmpV .nin (.int x) (.tup (s.map .int)) = .ok (.bl (!decide (x ∈ s))) := by
  simp only [cmpV, inWhat, isD_int, isDs_int, dep_int, Bool.and_self, decide_true, guard_true, Nat.zero_le, nbl_ok]
  congr 3
  rw [Bool.eq_iff_iff]
  simp
@[simp] theorem in_nil (x : Int) : cmpV .in_ (.int x) (.lst []) = .ok (.bl false) := rfl
@[simp] theorem nin_nil (x : Int) : cmpV .nin (.int x) (.lst []) = .ok (.bl true) := rfl
@[simp] theorem add_int (a b : Int) : binV .add (.int a) (.int b) = .ok (.int (a + b)) := rfl
@[simp] theorem sub_int (a b : Int) : binV .sub (.int a) (.int b) = .ok (.int (a - b)) := rfl
theorem mod_int (a b : Int) (h : 0 < b) : binV .mod (.int a) (.int b) = .ok (.int (a % b)) := by simp [binV, h]
theorem fdiv_int (a b : Int) (h : 0 < b) (h2 : b < 1073741824) : binV .fdiv (.int a) (.int b) = .ok (.int (a / b)) := by simp [binV, h, h2]
theorem mul_int (a b : Int) (h : 0 ≤ a) (h2 : a < 18446744073709551616) : binV .mul (.int a) (.int b) = .ok (.int (a * b)) := by
  simp only [binV]
  rw [decide_eq_true (Or.inl ⟨by omega, by omega⟩)]
  rfl
theorem purs_append : ∀ (a b : List Val), purs (a ++ b) = (purs a && purs b)
  | [], b => by simp [purs]
  | x :: xs, b => by simp [purs, purs_append xs b, Bool.and_assoc]
theorem map_snoc {α : Type} (e : α → Val) (l : List α) (x : α) : l.map e ++ [e x] = (l ++ [x]).map e := by simp

@[simp] theorem fm_no {α β : Type} (p : α → Prop) [DecidablePred p] (e : α → β) (l : List α) : (l.filterMap fun x => if p x then none else some (e x)) = (l.filter fun x => !decide (p x)).map e := by
  induction l with
  | nil => rfl
  | cons x xs ih =>
    rw [List.filterMap_cons, List.filter_cons]
    by_cases h : p x <;> simp [h, ih]
@[simp] theorem fm_yes {α β : Type} (p : α → Prop) [DecidablePred p] (e : α → β) (l : List α) : (l.filterMap fun x => if p x then some (e x) else none) = (l.filter fun x => decide (p x)).map e := by
  induction l with
  | nil => rfl
  | cons x xs ih =>
    rw [List.filterMap_cons, List.filter_cons]
    by_cases h : p x <;> simp [h, ih]
@[simp] theorem b_sorted_feS {α : Type} (f : α → List Int) (r : List α) : bltV .sorted [.lst (r.map fun x => eS (f x))] = .ok (.lst ((sortR (r.map f)).map eS)) := by
  rw [← b_sorted_eS, List.map_map]; rfl
@[simp] theorem b_tuple_feS {α : Type} (f : α → List Int) (r : List α) : bltV .tuple [.lst (r.map fun x => eS (f x))] = .ok (eR (r.map f)) := by
  rw [← b_tuple_eS, List.map_map]; rfl
@[simp] theorem b_sorted_fint {α : Type} (f : α → Int) (r : List α) : bltV .sorted [.lst (r.map fun x => .int (f x))] = .ok (.lst ((sortI (r.map f)).map .int)) := by
  rw [← b_sorted_int, List.map_map]; rfl
@[simp] theorem b_tuple_fint {α : Type} (f : α → Int) (r : List α) : bltV .tuple [.lst (r.map fun x => .int (f x))] = .ok (eS (r.map f)) := by
  rw [← b_tuple_int, List.map_map]; rfl
@[simp] theorem nin_fint {α : Type} (x : Int) (f : α → Int) (l : List α) : cmpV .nin (.int x) (.lst (l.map fun y => .int (f y))) = .ok (.bl (!decide (x ∈ l.map f))) := by
  rw [← nin_int, List.map_map]; rfl
@[simp] theorem in_fint {α : Type} (x : Int) (f : α → Int) (l : List α) : cmpV .in_ (.int x) (.lst (l.map fun y => .int (f y))) = .ok (.bl (decide (x ∈ l.map f))) := by
  rw [← in_int, List.map_map]; rfl
@[simp] theorem ix_0 (a : Val) (l : List Val) : ixV (.tup (a :: l)) (.int 0) = .ok a := rfl
@[simp] theorem ix_1 (a b : Val) (l : List Val) : ixV (.tup (a :: b :: l)) (.int 1) = .ok b := rfl
@[simp] theorem ix_2 (a b c : Val) (l : List Val) : ixV (.tup (a :: b :: c :: l)) (.int 2) = .ok c := rfl
@[simp] theorem cut_map' {α β : Type} (f : α → β) (xs : List α) (lo hi : Option Int) : cut (xs.map f) lo hi = (cut xs lo hi).map f := by
  unfold cut
  rw [List.length_map, List.map_take, List.map_drop]
theorem cut_le {α : Type} (xs : List α) (lo hi : Option Int) : (cut xs lo hi).length ≤ xs.length := by
  unfold cut
  rw [List.length_take, List.length_drop]
  omega
theorem cut_mem {α : Type} {xs : List α} {lo hi : Option Int} {x : α} (h : x ∈ cut xs lo hi) : x ∈ xs := List.mem_of_mem_drop (List.mem_of_mem_take h)
mutual
theorem veq_refl : ∀ x : Val, isD x = true → veq x x = true
  | .non, _ => rfl
  | .bl b, _ => by simp [veq]
  | .int i, _ => by simp [veq]
  | .str s, _ => by simp [veq]
  | .tup xs, h => by rw [veq]; exact veqs_refl xs (by simpa [isD] using h)
  | .lst xs, h => by rw [veq]; exact veqs_refl xs (by simpa [isD] using h)
  | .dic _ _, h => by simp [isD] at h
  | .set _, h => by simp [isD] at h
  | .ref _, h => by simp [isD] at h
  | .exc _, h => by simp [isD] at h
  | .scr _, h => by simp [isD] at h
theorem veqs_refl : ∀ xs : List Val, isDs xs = true → veqs xs xs = true
  | [], _ => rfl
  | x :: xs, h => by
    rw [isDs, Bool.and_eq_true] at h
    rw [veqs, veq_refl x h.1, veqs_refl xs h.2]
    rfl
end
theorem eq_same (x : Val) (h : isD x = true) (h2 : dep x ≤ 150) : cmpV .eq x x = .ok (.bl true) := by
  simp only [cmpV, eqWhat, h, Bool.and_self, Nat.min_self, h2, decide_true, guard_true, bl_ok, veq_refl x h]
theorem ne_same (x : Val) (h : isD x = true) (h2 : dep x ≤ 150) : cmpV .ne x x = .ok (.bl false) := ne_of_eq (eq_same x h h2)
@[simp] theorem eq_str (a b : Str) (ha : PyData.strOk a = true) (hb : PyData.strOk b = true) : cmpV .eq (.str a) (.str b) = .ok (.bl (a == b)) := by
  simp [cmpV, eqWhat, isD, dep, veq, ha, hb]
theorem mul_intR (a b : Int) (h : 0 ≤ b) (h2 : b < 18446744073709551616) : binV .mul (.int a) (.int b) = .ok (.int (a * b)) := by
  simp only [binV]
  rw [decide_eq_true (Or.inr ⟨by omega, by omega⟩)]
  rfl
@[simp] theorem b_sum_int (l : List Int) : bltV .sum [.lst (l.map .int)] = .ok (.int l.sum) := by simp [bltV, asI_int]
@[simp] theorem b_sum_fint {α : Type} (f : α → Int) (l : List α) : bltV .sum [.lst (l.map fun x => .int (f x))] = .ok (.int (l.map f).sum) := by
  rw [← b_sum_int, List.map_map]; rfl
theorem in_any {a : Val} {xs : List Val} (ha : isD a = true) (hx : isDs xs = true) (hd : dep a ≤ 150) : inWhat a (.lst xs) = .ok (xs.any fun x => veq x a) ∧ inWhat a (.tup xs) = .ok (xs.any fun x => veq x a) := by
  simp [inWhat, ha, hx, hd]
theorem anyS (x : List Int) (l : List (List Int)) : ((l.map eS).any fun y => veq y (eS x)) = decide (x ∈ l) := by
  rw [Bool.eq_iff_iff]
  simp
@[simp] theorem in_lS (x : List Int) (l : List (List Int)) : cmpV .in_ (eS x) (.lst (l.map eS)) = .ok (.bl (decide (x ∈ l))) := by
  simp only [cmpV]
  rw [(in_any (isD_eS x) (isDs_eS l) (by rw [dep_eS]; decide)).1, anyS]; rfl
@[simp] theorem nin_lS (x : List Int) (l : List (List Int)) : cmpV .nin (eS x) (.lst (l.map eS)) = .ok (.bl (!decide (x ∈ l))) := by
  simp only [cmpV]
  rw [(in_any (isD_eS x) (isDs_eS l) (by rw [dep_eS]; decide)).1, anyS]; rfl
@[simp] theorem nin_tS (x : List Int) (l : List (List Int)) : cmpV .nin (eS x) (eR l) = .ok (.bl (!decide (x ∈ l))) := by
  simp only [cmpV]
  rw [(in_any (isD_eS x) (isDs_eS l) (by rw [dep_eS]; decide)).2, anyS]; rfl
@[simp] theorem nin_S0 (x : List Int) : cmpV .nin (eS x) (.lst []) = .ok (.bl true) := nin_lS x []
theorem asB_f {α : Type} (f : α → Bool) : ∀ l : List α, asB (l.map fun x => .bl (f x)) = some (l.map f)
  | [] => rfl
  | x :: xs => by simp [asB, asB_f f xs]
@[simp] theorem b_any_f {α : Type} (f : α → Bool) (l : List α) : bltV .any [.lst (l.map fun x => .bl (f x))] = .ok (.bl (l.any f)) := by
  simp only [bltV, asB_f, of_some, bind_ok, List.any_map]; rfl
@[simp] theorem b_all_f {α : Type} (f : α → Bool) (l : List α) : bltV .all [.lst (l.map fun x => .bl (f x))] = .ok (.bl (l.all f)) := by
  simp only [bltV, asB_f, of_some, bind_ok, List.all_map]; rfl
/-! ### order, plainly -/
theorem ltS_irr : ∀ a : List Int, ltS a a = false
  | [] => rfl
  | x :: xs => by simp [ltS, ltS_irr xs]
theorem ltS_trans : ∀ a b c : List Int, ltS a b = true → ltS b c = true → ltS a c = true
  | [], [], _, h, _ => by simp [ltS] at h
  | [], _ :: _, [], _, h => by simp [ltS] at h
  | [], _ :: _, _ :: _, _, _ => by simp [ltS]
  | _ :: _, [], _, h, _ => by simp [ltS] at h
  | _ :: _, _ :: _, [], _, h => by simp [ltS] at h
  | x :: xs, y :: ys, z :: zs, h1, h2 => by
    simp only [ltS] at h1 h2 ⊢
    split at h1
    · rename_i e; subst e
      split at h2
      · rename_i e; subst e
        rw [if_pos rfl]
        exact ltS_trans xs ys zs h1 h2
      · rename_i e
        rw [if_neg e]; exact h2
    · rename_i e
      simp only [decide_eq_true_eq] at h1
      split at h2
      · rename_i e2; subst e2
        rw [if_neg e]; simpa using h1
      · simp only [decide_eq_true_eq] at h2
        rw [if_neg (by omega)]
        simp only [decide_eq_true_eq]; omega
theorem ltS_tri : ∀ a b : List Int, ltS a b = true ∨ a = b ∨ ltS b a = true
  | [], [] => .inr (.inl rfl)
  | [], _ :: _ => .inl rfl
  | _ :: _, [] => .inr (.inr rfl)
  | x :: xs, y :: ys => by
    by_cases e : x = y
    · subst e
      rcases ltS_tri xs ys with h | h | h
      · exact .inl (by simp [ltS, h])
      · exact .inr (.inl (by rw [h]))
      · exact .inr (.inr (by simp [ltS, h]))
    · by_cases l : x < y
      · exact .inl (by simp [ltS, e, l])
      · exact .inr (.inr (by simp only [ltS]; rw [if_neg (fun z => e z.symm)]; simp only [decide_eq_true_eq]; omega))
theorem leS_trans (a b c : List Int) (h1 : leS a b = true) (h2 : leS b c = true) : leS a c = true := by
  unfold leS at *
  simp only [Bool.not_eq_true'] at *
  rcases ltS_tri c a with h | h | h
  · rcases ltS_tri a b with q | q | q
    · rw [ltS_trans c a b h q] at h2; cases h2
    · subst q; rw [h] at h2; cases h2
    · rw [q] at h1; cases h1
  · subst h; exact ltS_irr _
  · cases q : ltS c a with
    | false => rfl
    | true =>
      have := ltS_trans a c a h q
      rw [ltS_irr] at this; cases this
theorem leS_total (a b : List Int) : (leS a b || leS b a) = true := by
  unfold leS
  cases h : ltS b a with
  | false => rfl
  | true =>
    cases h2 : ltS a b with
    | false => rfl
    | true =>
      have := ltS_trans a b a h2 h
      rw [ltS_irr] at this; cases this
theorem leS_anti (a b : List Int) (h1 : leS a b = true) (h2 : leS b a = true) : a = b := by
  unfold leS at *
  simp only [Bool.not_eq_true'] at *
  rcases ltS_tri a b with h | h | h
  · rw [h] at h2; cases h2
  · exact h
  · rw [h] at h1; cases h1
theorem leS_refl (a : List Int) : leS a a = true := by simp [leS, ltS_irr]
theorem sortR_perm (r : List (List Int)) : (sortR r).Perm r := List.mergeSort_perm r leS
theorem sortR_sorted (r : List (List Int)) : (sortR r).Pairwise fun a b => leS a b = true := List.pairwise_mergeSort leS_trans leS_total r
theorem sorted_unique {r q : List (List Int)} (h : r.Perm q) (hr : r.Pairwise fun a b => leS a b = true) (hq : q.Pairwise fun a b => leS a b = true) : r = q :=
  List.Perm.eq_of_pairwise (fun a b _ _ x y => leS_anti a b x y) hr hq h
theorem sortR_of {r q : List (List Int)} (h : r.Perm q) : sortR r = sortR q :=
  sorted_unique (((sortR_perm r).trans h).trans (sortR_perm q).symm) (sortR_sorted r) (sortR_sorted q)
theorem sortR_id {r : List (List Int)} (h : r.Pairwise fun a b => leS a b = true) : sortR r = r := sorted_unique (sortR_perm r) (sortR_sorted r) h
theorem sortI_perm (s : List Int) : (sortI s).Perm s := List.mergeSort_perm s _
theorem sortI_sorted (s : List Int) : (sortI s).Pairwise (· ≤ ·) := by
  have := List.pairwise_mergeSort (le := fun a b : Int => decide (a ≤ b)) (fun a b c h1 h2 => by simp at *; omega) (fun a b => by simp; omega) s
  exact this.imp fun h => by simpa using h
theorem sortedI_unique {r q : List Int} (h : r.Perm q) (hr : r.Pairwise (· ≤ ·)) (hq : q.Pairwise (· ≤ ·)) : r = q :=
  List.Perm.eq_of_pairwise (fun a b _ _ x y => Int.le_antisymm x y) hr hq h
theorem sortI_id {r : List Int} (h : r.Pairwise (· ≤ ·)) : sortI r = r := sortedI_unique (sortI_perm r) (sortI_sorted r) h
theorem sortI_lt {s : List Int} (h : s.Nodup) : (sortI s).Pairwise (· < ·) := by
  have h1 := sortI_sorted s
  have h2 : (sortI s).Nodup := (sortI_perm s).nodup_iff.mpr h
  exact (h1.and h2).imp fun ⟨a, b⟩ => by omega
theorem onceZ_mem : ∀ (l : List Int) (k : Int), k ∈ once l ↔ k ∈ l
  | [], k => by simp [once]
  | x :: xs, k => by
    rw [once, List.mem_cons, List.mem_cons, List.mem_filter, onceZ_mem xs k]
    by_cases h : k = x <;> simp [h]
theorem onceZ_nodup : ∀ (l : List Int), (once l).Nodup
  | [] => List.nodup_nil
  | x :: xs => by
    rw [once]
    exact List.nodup_cons.mpr ⟨by simp, (onceZ_nodup xs).filter _⟩
theorem once_id : ∀ {s : List Int}, s.Nodup → once s = s
  | [], _ => rfl
  | x :: xs, h => by
    have := List.nodup_cons.mp h
    rw [once, once_id this.2, List.filter_eq_self.mpr]
    intro y hy
    simp only [bne_iff_ne, ne_eq]
    intro e; subst e
    exact this.1 hy
/-! ### a def called without its last argument -/
def litE : Val → E
  | .int i => .int i
  | .str s => .str s
  | .bl b => .bl b
  | _ => .non
def litOk : Val → Bool
  | .int _ => true
  | .str _ => true
  | .bl _ => true
  | .non => true
  | _ => false
def aliF (F : Fn) (k : Nat) (v : Val) : Fn := { np := k, n := F.n, own := F.own, body := .cons (.set k (litE v)) F.body }
theorem ali_call {pg : Pg} {i j k : Nat} {F : Fn} {v : Val} (h1 : pg.fn j = some F) (h2 : pg.fn i = some (aliF F k v)) (hk : F.np = k + 1) (hn : k < F.n) (hv : litOk v = true) :
    ∀ (d : Nat) (xs : List Val) (S : Sto), xs.length = k → call pg d i xs S = call pg d j (xs ++ [v]) S
  | 0, _, _, _ => rfl
  | d + 1, xs, S, hl => by
    have e1 : ∀ env S, exC pg (call pg d) F.own (.set k (litE v)) env S = .ok .nx (env.set k (some v)) S := fun env S => by
      cases v <;> first | rfl | cases hv
    have e2 : (xs.map some ++ List.replicate (F.n - k) none).set k (some v) = (xs ++ [v]).map some ++ List.replicate (F.n - (k + 1)) none := by
      rw [List.set_append_right k (some v) (by rw [List.length_map, hl]; exact Nat.le_refl _), List.map_append, List.append_assoc]
      congr 1
      rw [List.length_map, hl, Nat.sub_self, show F.n - k = (F.n - (k + 1)) + 1 by omega, List.replicate_succ]
      rfl
    simp only [call, h1, h2]
    rw [if_pos (show xs.length = (aliF F k v).np from hl), if_pos (show (xs ++ [v]).length = F.np by rw [List.length_append, List.length_singleton, hl, hk])]
    have e3 : exCs pg (call pg d) (aliF F k v).own (aliF F k v).body (xs.map some ++ List.replicate ((aliF F k v).n - (aliF F k v).np) none) S = exCs pg (call pg d) F.own F.body ((xs ++ [v]).map some ++ List.replicate (F.n - F.np) none) S := by
      show exCs pg (call pg d) F.own (.cons (.set k (litE v)) F.body) (xs.map some ++ List.replicate (F.n - k) none) S = _
      rw [exCs, e1, hk, ← e2]
      rfl
    rw [e3]
end Ev

namespace Ev
open PySem
def o_is_hole : List Bool := [false]
def f_is_hole : Fn :=
  { np := 1, n := 1, own := o_is_hole, body := (.cons (.ret (.andE (.cons (.isi (.var 0) .int) (.cons (.not (.isi (.var 0) .bool)) (.cons (.chain .le .lt (.int 0) (.var 0) (.glob 0)) .nil))))) .nil) }
def g_strip_made_1 : Cs :=
  (.cons (.ite (.not (.call 0 (.cons (.var 2) .nil))) (.cons (.raise 1) .nil) .nil) (.cons (.ite (.cmp .nin (.var 2) (.var 1)) (.cons (.mut .append 1 (.cons (.var 2) .nil)) .nil) .nil) .nil))
def o_strip_made : List Bool := [false, true, false]
def f_strip_made : Fn :=
  { np := 1, n := 3, own := o_strip_made, body := (.cons (.set 1 (.lst .nil)) (.cons (.forR (.one 2) (.var 0) g_strip_made_1) (.cons (.ret (.blt .tuple (.cons (.blt .sorted (.cons (.var 1) .nil)) .nil))) .nil))) }
def o_rest_made : List Bool := [false, false]
def f_rest_made : Fn :=
  { np := 1, n := 2, own := o_rest_made, body := (.cons (.ite (.cmp .gt (.blt .len (.cons (.var 0) .nil)) (.glob 1)) (.cons (.raise 1) .nil) .nil) (.cons (.ret (.blt .tuple (.cons (.blt .sorted (.cons (.comp (.call 1 (.cons (.var 1) .nil)) 1 (.seq (.var 0)) .nil) .nil)) .nil))) .nil)) }
def o__law_cell : List Bool := [false, false]
def f__law_cell : Fn :=
  { np := 2, n := 2, own := o__law_cell, body := (.cons (.ite (.cmp .lt (.var 1) (.blt .len (.cons (.var 0) .nil))) (.cons (.ret (.ix (.var 0) (.var 1))) .nil) .nil) (.cons (.ret (.int 0)) .nil)) }
def o__law_mixed : List Bool := [false, false]
def f__law_mixed : Fn :=
  { np := 2, n := 2, own := o__law_mixed, body := (.cons (.ret (.bin .mod (.bin .mul (.bin .mod (.var 0) (.int 2305843009213693951)) (.var 1)) (.int 2305843009213693951))) .nil) }
def g__law_row_1 : Cs :=
  (.cons (.mut .append 3 (.cons (.bin .mod (.var 1) (.int 60)) .nil)) (.cons (.set 1 (.bin .fdiv (.var 1) (.int 60))) .nil))
def o__law_row : List Bool := [false, false, false, true, false]
def f__law_row : Fn :=
  { np := 1, n := 5, own := o__law_row, body := (.cons (.set 1 (.call 4 (.cons (.var 0) (.cons (.int 1181783497276652981) .nil)))) (.cons (.set 2 (.bin .mod (.var 1) (.int 10))) (.cons (.set 1 (.bin .fdiv (.var 1) (.int 10))) (.cons (.set 3 (.lst .nil)) (.cons (.forS (.one 4) (.rng (.cons (.var 2) .nil)) g__law_row_1) (.cons (.ite (.cmp .eq (.bin .mod (.var 0) (.int 3)) (.int 1)) (.cons (.set 3 (.bin .add (.var 3) (.sl (.var 3) .nil (.cons (.int 2) .nil)))) .nil) .nil) (.cons (.ret (.var 3)) .nil))))))) }
def o__law_strange : List Bool := [false, false, false]
def f__law_strange : Fn :=
  { np := 1, n := 3, own := o__law_strange, body := (.cons (.set 1 (.bin .mod (.bin .fdiv (.var 0) (.int 11)) (.bin .pow (.int 10) (.int 60)))) (.cons (.set 2 (.lst (.cons (.bl true) (.cons (.bl false) (.cons .non (.cons (.str "3") (.cons (.str "") (.cons (.neg (.int 1)) (.cons (.int 60) (.cons (.bin .add (.int 61) (.var 1)) (.cons (.bin .sub (.neg (.int 2)) (.var 1)) (.cons (.tup (.cons (.int 3) .nil)) (.cons (.box (.lst (.cons (.int 3) .nil))) .nil))))))))))))) (.cons (.ret (.ix (.var 2) (.bin .mod (.var 0) (.int 11)))) .nil))) }
def o__law_kinds : List Bool := [false, true, false, false, false]
def f__law_kinds : Fn :=
  { np := 1, n := 5, own := o__law_kinds, body := (.cons (.set 1 (.lst .nil)) (.cons (.tryS (.cons (.exp (.call 2 (.cons (.var 0) .nil))) .nil) (.cons 0 [2] (.cons (.set 3 (.lst (.cons (.isx 2 3) (.cons (.isx 2 4) (.cons (.isx 2 5) (.cons (.isx 2 6) .nil)))))) (.cons (.set 4 (.lst (.cons (.isx 2 7) (.cons (.isx 2 8) (.cons (.isx 2 9) (.cons (.isx 2 10) .nil)))))) (.cons (.set 1 (.lst (.cons (.isx 2 100) (.cons (.isx 2 1) (.cons (.orE (.cons (.isx 2 2) (.cons (.blt .any (.cons (.var 3) .nil)) (.cons (.blt .any (.cons (.var 4) .nil)) .nil)))) .nil))))) .nil))) .nil)) (.cons (.ret (.var 1)) .nil))) }
def o_law_v1 : List Bool := [false, false, false, false, false, false, false, false, false, false]
def f_law_v1 : Fn :=
  { np := 1, n := 10, own := o_law_v1, body := (.cons (.set 1 (.bin .add (.comp (.box (.call 5 (.cons (.var 2) .nil))) 2 (.seq (.sl (.var 0) (.cons (.int 4) .nil) (.cons (.int 63) .nil))) .nil) (.lst (.cons (.box (.lst .nil)) .nil)))) (.cons (.set 3 (.bin .mod (.call 3 (.cons (.var 0) (.cons (.int 0) .nil))) (.int 3))) (.cons (.set 4 (.comp (.box (.blt .list (.cons (.var 5) .nil))) 5 (.seq (.var 1)) .nil)) (.cons (.ite (.cmpD .ne (.var 3) (.int 1)) (.cons (.set 6 (.bin .add (.int 61) (.bin .mod (.call 3 (.cons (.var 0) (.cons (.int 2) .nil))) (.int 40)))) (.cons (.set 4 (.comp (.box (.blt .list (.cons (.ix (.var 1) (.bin .mod (.var 7) (.blt .len (.cons (.var 1) .nil)))) .nil))) 7 (.rng (.cons (.var 6) .nil)) .nil)) .nil)) .nil) (.cons (.ite (.cmpD .ne (.var 3) (.int 0)) (.cons (.set 5 (.ix (.var 4) (.bin .mod (.call 3 (.cons (.var 0) (.cons (.int 1) .nil))) (.blt .len (.cons (.var 4) .nil))))) (.cons (.mutR .insert (.var 5) (.cons (.bin .mod (.bin .fdiv (.call 3 (.cons (.var 0) (.cons (.int 2) .nil))) (.int 40)) (.bin .add (.blt .len (.cons (.var 5) .nil)) (.int 1))) (.cons (.call 9 (.cons (.call 3 (.cons (.var 0) (.cons (.int 3) .nil))) .nil)) .nil))) .nil)) .nil) (.cons (.set 8 (.comp (.box (.blt .list (.cons (.var 5) .nil))) 5 (.seq (.var 4)) .nil)) (.cons (.set 9 (.bl false)) (.cons (.tryS (.cons (.exp (.call 2 (.cons (.var 4) .nil))) .nil) (.cons 1 [] (.cons (.set 9 (.bl true)) .nil) .nil)) (.cons (.ite (.orE (.cons (.not (.var 9)) (.cons (.cmpD .ne (.var 4) (.var 8)) .nil))) (.cons (.ret (.bl false)) .nil) .nil) (.cons (.ite (.cmpD .ne (.call 10 (.cons (.var 4) .nil)) (.lst (.cons (.bl true) (.cons (.bl true) (.cons (.bl false) .nil))))) (.cons (.ret (.bl false)) .nil) .nil) (.cons (.ret (.cmpD .eq (.nx (.call 2 (.cons (.var 1) .nil))) (.blt .tuple (.cons (.blt .sorted (.cons (.comp (.blt .tuple (.cons (.blt .sorted (.cons (.blt .set (.cons (.var 5) .nil)) .nil)) .nil)) 5 (.seq (.var 1)) .nil) .nil)) .nil)))) .nil))))))))))) }
def pgf : Nat → Option Fn
  | 0 => some f_is_hole
  | 1 => some f_strip_made
  | 2 => some f_rest_made
  | 3 => some f__law_cell
  | 4 => some f__law_mixed
  | 5 => some f__law_row
  | 9 => some f__law_strange
  | 10 => some f__law_kinds
  | 11 => some f_law_v1
  | _ => none
def pgc : Nat → Option Val
  | 0 => some (.int 60)
  | 1 => some (.int 60)
  | _ => none
def mthT : List (Nat × Nat) := []
def fldT : List Nat := []
def xsT : List Nat := [0, 1, 2, 3, 4, 5, 6, 7, 8, 9, 10]
def cmsT : List Nat := []
def fosT : List Nat := [0, 3, 4, 5, 9, 10, 100000, 100003, 100004, 100005, 100009, 100010]
def mosT : List Nat := [0, 1, 2, 3, 4, 5, 6, 7, 8, 9, 10, 11, 12, 13, 14, 15, 100, 101, 102, 103, 104, 105, 106, 107, 108, 109, 110, 111, 112, 113, 114, 115]
def pg : Pg where
  xs := xsT
  fn := pgf
  con := pgc
  base := fun _ => none
  meth := fun c m => if m < 1000 then mthT.lookup (c * 1000 + m) else none
  hasF := fun c f => decide (f < 1000) && fldT.contains (c * 1000 + f)
theorem k_HOLES : pg.con 0 = some (.int 60) := rfl
theorem k_STRIPS : pg.con 1 = some (.int 60) := rfl
theorem e_is_hole : pg.fn 0 = some f_is_hole := rfl
theorem e_strip_made : pg.fn 1 = some f_strip_made := rfl
theorem e_rest_made : pg.fn 2 = some f_rest_made := rfl
theorem e__law_cell : pg.fn 3 = some f__law_cell := rfl
theorem e__law_mixed : pg.fn 4 = some f__law_mixed := rfl
theorem e__law_row : pg.fn 5 = some f__law_row := rfl
theorem e__law_strange : pg.fn 9 = some f__law_strange := rfl
theorem e__law_kinds : pg.fn 10 = some f__law_kinds := rfl
theorem e_law_v1 : pg.fn 11 = some f_law_v1 := rfl
/-! ### how a script is read -/
def cellZ (ns : List Int) (k : Int) : Int := ns.getD k.toNat 0
theorem at_scr (ns : List Int) (k : Int) (hk : 0 ≤ k) (h : k < ns.length) : at' ns k = some (cellZ ns k) := by
  unfold at' cellZ
  rw [if_pos hk, List.getD_eq_getElem?_getD]
  have : k.toNat < ns.length := by omega
  rw [List.getElem?_eq_getElem this]; rfl
theorem cell_ok (d : Nat) (ns : List Int) (k : Int) (hk : 0 ≤ k) (S : Sto) : call pg (d + 1) 3 [.scr ns, .int k] S = .ok (.int (cellZ ns k), S) := by
  by_cases h : k < ns.length
  · simp [call_eq e__law_cell, f__law_cell, retV, exCs, exC, evE, evS, evK, evI, evC, evO, evAnd, evOr, seqV, seqL, keepV, fresh, pur, purs, itFr, retOk, ite_ok, ite_pair, tgSet, unpSet, muV, isB_bl, slV, mtA, evD, itDyn, evY, evM, isMv, mvs, h, ixV, at_scr ns k hk h]
  · simp [call_eq e__law_cell, f__law_cell, retV, exCs, exC, evE, evS, evK, evI, evC, evO, evAnd, evOr, seqV, seqL, keepV, fresh, pur, purs, itFr, retOk, ite_ok, ite_pair, tgSet, unpSet, muV, isB_bl, slV, mtA, evD, itDyn, evY, evM, isMv, mvs, h, cellZ, List.getD_eq_getElem?_getD, List.getElem?_eq_none (show ns.length ≤ k.toNat by omega)]
theorem cut_len {α : Type} (xs : List α) (a b : Int) (ha : 0 ≤ a) (hb : 0 ≤ b) : (cut xs (some a) (some b)).length ≤ (b - a).toNat := by
  unfold cut clip
  simp only [List.length_take, List.length_drop]
  rw [if_neg (by omega), if_neg (by omega)]
  omega
def mixZ (c b : Int) : Int := c % 2305843009213693951 * b % 2305843009213693951
theorem mixed_ok (d : Nat) (c b : Int) (S : Sto) : call pg (d + 1) 4 [.int c, .int b] S = .ok (.int (mixZ c b), S) := by
  have h1 : 0 ≤ c % 2305843009213693951 := Int.emod_nonneg _ (by decide)
  have h2 : c % 2305843009213693951 < 18446744073709551616 := by omega
  simp [call_eq e__law_mixed, f__law_mixed, retV, exCs, exC, evE, evS, evK, evI, evC, evO, evAnd, evOr, seqV, seqL, keepV, fresh, pur, purs, itFr, retOk, ite_ok, ite_pair, tgSet, unpSet, muV, isB_bl, slV, mtA, evD, itDyn, evY, evM, isMv, mvs, mod_int, mul_int _ b h1 h2, mixZ]
/-- holes rising, each once, below m -/
def Strip (m : Int) (s : List Int) : Prop := s.Pairwise (· < ·) ∧ ∀ h, h ∈ s → 0 ≤ h ∧ h < m
theorem Strip.nodup {m : Int} {s : List Int} (h : Strip m s) : s.Nodup := h.1.imp fun a => by omega
theorem Strip.filter {m : Int} {s : List Int} (h : Strip m s) (p : Int → Bool) : Strip m (s.filter p) := ⟨h.1.filter p, fun x hx => h.2 x ((List.mem_filter.mp hx).1)⟩
theorem Strip.sortI {m : Int} {s : List Int} (h : Strip m s) : sortI s = s := sortI_id (h.1.imp fun a => by omega)
theorem nodup_bound : ∀ (n : Nat) (s : List Int), s.Nodup → (∀ x, x ∈ s → 0 ≤ x ∧ x < n) → s.length ≤ n
  | 0, s, _, h => by
    cases s with
    | nil => exact Nat.le_refl _
    | cons x xs => have := h x List.mem_cons_self; omega
  | n + 1, s, nd, h => by
    have h1 : (s.filter (· ≠ (n : Int))).length ≤ n := nodup_bound n _ (nd.filter _) fun x hx => by
      simp only [List.mem_filter, ne_eq, decide_not, Bool.not_eq_true', decide_eq_false_iff_not] at hx
      have := h x hx.1
      omega
    have h2 : s.length ≤ (s.filter (· ≠ (n : Int))).length + 1 := by
      have e : (s.erase (n : Int)) = s.filter (· ≠ (n : Int)) := by
        rw [nd.erase_eq_filter]
        congr 1
        funext x
        by_cases q : x = (n : Int) <;> simp [q]
      rw [← e]
      rw [List.length_erase]
      split <;> omega
    omega
theorem Strip.len {m : Nat} {s : List Int} (h : Strip m s) : s.length ≤ m := nodup_bound m s h.nodup h.2

theorem rng_ok (n : Int) (h : 0 ≤ n) (h2 : n ≤ 1000000) : rngV [.int n] = .ok (range 0 n.toNat) := by
  simp only [rngV]
  rw [decide_eq_true (show -(2 ^ 62) ≤ n ∧ n ≤ (LIM : Int) from ⟨by omega, by unfold LIM; omega⟩), guard_true]
def insZ (found : List Int) (h : Int) : List Int := if h ∈ found then found else found ++ [h]
@[simp] theorem b_max2 (a b : Int) : bltV .max [.int a, .int b] = .ok (.int (if a < b then b else a)) := by
  by_cases g : a < b <;> simp [bltV, g]
theorem cut_take {α : Type} (s : List α) (i : Nat) : cut s none (some (i : Nat)) = s.take i := by
  unfold cut clip
  simp only [show ¬ ((i : Nat) : Int) < 0 by omega, if_false]
  rw [Int.toNat_natCast, List.drop_zero, Nat.sub_zero]
  by_cases g : i ≤ s.length
  · rw [Nat.min_eq_left g]
  · rw [Nat.min_eq_right (by omega), List.take_of_length_le (Nat.le_refl _), List.take_of_length_le (by omega)]

/-! ### lists of the store in a list -/
def RowsAt (S : Sto) : List Val → List (List Val) → Prop
  | [], [] => True
  | v :: vs, r :: rs => (∃ n, v = .ref n ∧ S[n]? = some (.lst r)) ∧ RowsAt S vs rs
  | _, _ => False
theorem get_more {S : Sto} {n : Nat} {o : Ob} (T : Sto) (h : S[n]? = some o) : (S ++ T)[n]? = some o := by
  rw [List.getElem?_append_left (List.getElem?_eq_some_iff.mp h).1]; exact h
theorem RowsAt.more {S : Sto} (T : Sto) : ∀ {vs : List Val} {rs : List (List Val)}, RowsAt S vs rs → RowsAt (S ++ T) vs rs
  | [], [], _ => trivial
  | v :: vs, r :: rs, ⟨⟨n, e, h⟩, k⟩ => ⟨⟨n, e, get_more T h⟩, RowsAt.more T k⟩
theorem RowsAt.len {S : Sto} : ∀ {vs : List Val} {rs : List (List Val)}, RowsAt S vs rs → vs.length = rs.length
  | [], [], _ => rfl
  | _ :: _, _ :: _, ⟨_, k⟩ => by rw [List.length_cons, List.length_cons, k.len]
theorem RowsAt.pur {S : Sto} : ∀ {vs : List Val} {rs : List (List Val)}, RowsAt S vs rs → purs vs = true
  | [], [], _ => rfl
  | _ :: _, _ :: _, ⟨⟨n, e, _⟩, k⟩ => by subst e; rw [purs, k.pur]; rfl
theorem RowsAt.app {S : Sto} : ∀ {vs : List Val} {rs : List (List Val)} {vs' : List Val} {rs' : List (List Val)}, RowsAt S vs rs → RowsAt S vs' rs' → RowsAt S (vs ++ vs') (rs ++ rs')
  | [], [], _, _, _, h => h
  | _ :: _, _ :: _, _, _, ⟨a, k⟩, h => ⟨a, k.app h⟩
theorem RowsAt.take {S : Sto} : ∀ {vs : List Val} {rs : List (List Val)} (k : Nat), RowsAt S vs rs → RowsAt S (vs.take k) (rs.take k)
  | _, _, 0, _ => trivial
  | [], [], _ + 1, _ => trivial
  | _ :: _, _ :: _, k + 1, ⟨a, h⟩ => ⟨a, h.take k⟩
theorem RowsAt.drop {S : Sto} : ∀ {vs : List Val} {rs : List (List Val)} (k : Nat), RowsAt S vs rs → RowsAt S (vs.drop k) (rs.drop k)
  | _, _, 0, h => h
  | [], [], _ + 1, _ => trivial
  | _ :: _, _ :: _, k + 1, ⟨_, h⟩ => h.drop k
theorem RowsAt.get {S : Sto} : ∀ {vs : List Val} {rs : List (List Val)} (k : Nat) {r : List Val}, RowsAt S vs rs → rs[k]? = some r → ∃ n, vs[k]? = some (.ref n) ∧ S[n]? = some (.lst r)
  | _ :: _, _ :: _, 0, _, ⟨⟨n, e, h⟩, _⟩, q => by
    rw [List.getElem?_cons_zero] at q ⊢
    cases q; subst e
    exact ⟨n, rfl, h⟩
  | _ :: _, _ :: _, k + 1, _, ⟨_, h⟩, q => by
    rw [List.getElem?_cons_succ] at q ⊢
    exact h.get k q
  | [], [], _, _, _, q => by simp at q
/-- each row is copied into a new list of the store -/
theorem box_rows {f : Val → Sto → Res (Option Val × Sto)} (hf : ∀ (n : Nat) (r : List Val) (S : Sto), S[n]? = some (.lst r) → purs r = true → f (.ref n) S = .ok (some (.ref S.length), S ++ [.lst r])) : ∀ {vs : List Val} {rs : List (List Val)} (S : Sto), RowsAt S vs rs → (∀ r, r ∈ rs → purs r = true) → mapR f vs S = .ok ((List.range rs.length).map fun i => .ref (S.length + i), S ++ rs.map .lst)
  | [], [], S, _, _ => by simp [mapR]
  | _ :: vs, r :: rs, S, ⟨⟨n, e, h⟩, k⟩, hp => by
    subst e
    rw [mapR, hf n r S h (hp r List.mem_cons_self), bind_ok, box_rows hf (S ++ [.lst r]) (k.more _) fun x m => hp x (List.mem_cons_of_mem _ m), bind_ok]
    simp only [List.length_cons, List.range_succ_eq_map, List.map_cons, List.map_map, List.append_assoc, List.singleton_append, List.length_append, List.length_nil, Nat.add_zero, Nat.zero_add]
    congr 3
    refine List.map_congr_left fun i _ => ?_
    show Val.ref _ = Val.ref _
    congr 1
    show _ = S.length + (i + 1)
    omega
theorem rows_new (S : Sto) : ∀ (rs : List (List Val)) (T : Sto), RowsAt (S ++ T ++ rs.map .lst) ((List.range rs.length).map fun i => .ref (S.length + T.length + i)) rs
  | [], T => trivial
  | r :: rs, T => by
    have h := rows_new S rs (T ++ [.lst r])
    rw [List.length_cons, List.range_succ_eq_map, List.map_cons, List.map_cons, List.map_map]
    refine ⟨⟨_, rfl, ?_⟩, ?_⟩
    · rw [show S.length + T.length + 0 = (S ++ T).length by simp, List.getElem?_append_right (Nat.le_refl _), Nat.sub_self]; rfl
    · have e1 : S ++ (T ++ [Ob.lst r]) ++ rs.map .lst = S ++ T ++ Ob.lst r :: rs.map .lst := by simp
      rw [e1] at h
      have e2 : (List.range rs.length).map (fun i => Val.ref (S.length + (T ++ [Ob.lst r]).length + i)) = (List.range rs.length).map ((fun i => Val.ref (S.length + T.length + i)) ∘ Nat.succ) := List.map_congr_left fun i _ => by
        show Val.ref _ = Val.ref _
        congr 1
        rw [List.length_append, List.length_singleton]
        show _ = S.length + T.length + (i + 1)
        omega
      rw [e2] at h
      exact h

/-! ### k02 -/
theorem fold_ins2 : ∀ (s f : List Int), f.Nodup → (s.foldl insZ f).Nodup ∧ ∀ x, x ∈ s.foldl insZ f ↔ x ∈ f ∨ x ∈ s
  | [], f, h => ⟨h, by simp⟩
  | y :: s, f, h => by
    have h2 : (insZ f y).Nodup := by
      unfold insZ
      split
      · exact h
      · rename_i hn
        exact List.nodup_append.mpr ⟨h, by simp, fun a ha b hb => by
          simp at hb; subst hb; intro e; subst e; exact hn ha⟩
    obtain ⟨k1, k2⟩ := fold_ins2 s (insZ f y) h2
    rw [List.foldl_cons]
    refine ⟨k1, fun x => ?_⟩
    rw [k2, List.mem_cons]
    unfold insZ
    split
    · rename_i g
      constructor
      · rintro (a | a)
        · exact .inl a
        · exact .inr (.inr a)
      · rintro (a | a | a)
        · exact .inl a
        · subst a; exact .inl g
        · exact .inr a
    · simp only [List.mem_append, List.mem_singleton, or_assoc]
theorem fold_sort2 (s : List Int) : sortI (s.foldl insZ []) = sortI (once s) := by
  obtain ⟨h1, h2⟩ := fold_ins2 s [] List.nodup_nil
  refine sortedI_unique (((sortI_perm _).trans ?_).trans (sortI_perm _).symm) (sortI_sorted _) (sortI_sorted _)
  refine (List.perm_ext_iff_of_nodup h1 (onceZ_nodup s)).mpr fun x => ?_
  rw [h2, onceZ_mem]
  simp
theorem ins_len2 (f : List Int) (x : Int) : (insZ f x).length ≤ f.length + 1 := by
  unfold insZ
  split
  · omega
  · rw [List.length_append]; exact Nat.le_refl _
/-- what is no hole -/
def Odd2 (S : Sto) (v : Val) : Prop := (∃ i : Int, v = .int i ∧ (i < 0 ∨ 60 ≤ i)) ∨ (∃ b : Bool, v = .bl b) ∨ v = .non ∨ (∃ s : Str, v = .str s ∧ PyData.strOk s = true) ∨ v = .tup [.int 3] ∨ ∃ n : Nat, v = .ref n ∧ S[n]? = some (.lst [.int 3])
theorem Odd2.more {S : Sto} (T : Sto) {v : Val} (h : Odd2 S v) : Odd2 (S ++ T) v := by
  rcases h with h | h | h | h | h | ⟨n, h, k⟩
  · exact .inl h
  · exact .inr (.inl h)
  · exact .inr (.inr (.inl h))
  · exact .inr (.inr (.inr (.inl h)))
  · exact .inr (.inr (.inr (.inr (.inl h))))
  · exact .inr (.inr (.inr (.inr (.inr ⟨n, h, get_more T k⟩))))
def Hole2 (v : Val) : Prop := ∃ i : Int, v = .int i ∧ 0 ≤ i ∧ i < 60
theorem hole_yes (d : Nat) (x : Int) (h : 0 ≤ x ∧ x < 60) (S : Sto) : call pg (d + 1) 0 [.int x] S = .ok (.bl true, S) := by
  rw [call_eq e_is_hole]
  simp [f_is_hole, retV, exCs, exC, evE, evS, evK, evI, evC, evO, evAnd, evOr, seqV, seqL, keepV, fresh, pur, purs, itFr, retOk, ite_ok, ite_pair, tgSet, unpSet, muV, isB_bl, slV, mtA, evD, itDyn, evY, evM, isMv, mvs, isV, k_HOLES, h.1, h.2]
theorem hole_no (d : Nat) {S : Sto} {v : Val} (h : Odd2 S v) : call pg (d + 1) 0 [v] S = .ok (.bl false, S) := by
  rw [call_eq e_is_hole]
  rcases h with ⟨i, rfl, h⟩ | ⟨b, rfl⟩ | rfl | ⟨s, rfl, _⟩ | rfl | ⟨n, rfl, h⟩
  · by_cases g : 0 ≤ i
    · have g2 : ¬ i < 60 := by omega
      simp [f_is_hole, retV, exCs, exC, evE, evS, evK, evI, evC, evO, evAnd, evOr, seqV, seqL, keepV, fresh, pur, purs, itFr, retOk, ite_ok, ite_pair, tgSet, unpSet, muV, isB_bl, slV, mtA, evD, itDyn, evY, evM, isMv, mvs, isV, k_HOLES, g, g2]
    · simp [f_is_hole, retV, exCs, exC, evE, evS, evK, evI, evC, evO, evAnd, evOr, seqV, seqL, keepV, fresh, pur, purs, itFr, retOk, ite_ok, ite_pair, tgSet, unpSet, muV, isB_bl, slV, mtA, evD, itDyn, evY, evM, isMv, mvs, isV, k_HOLES, g]
  · simp [f_is_hole, retV, exCs, exC, evE, evS, evK, evI, evC, evO, evAnd, evOr, seqV, seqL, keepV, fresh, pur, purs, itFr, retOk, ite_ok, ite_pair, tgSet, unpSet, muV, isB_bl, slV, mtA, evD, itDyn, evY, evM, isMv, mvs, isV]
  · simp [f_is_hole, retV, exCs, exC, evE, evS, evK, evI, evC, evO, evAnd, evOr, seqV, seqL, keepV, fresh, pur, purs, itFr, retOk, ite_ok, ite_pair, tgSet, unpSet, muV, isB_bl, slV, mtA, evD, itDyn, evY, evM, isMv, mvs, isV]
  · simp [f_is_hole, retV, exCs, exC, evE, evS, evK, evI, evC, evO, evAnd, evOr, seqV, seqL, keepV, fresh, pur, purs, itFr, retOk, ite_ok, ite_pair, tgSet, unpSet, muV, isB_bl, slV, mtA, evD, itDyn, evY, evM, isMv, mvs, isV]
  · simp [f_is_hole, retV, exCs, exC, evE, evS, evK, evI, evC, evO, evAnd, evOr, seqV, seqL, keepV, fresh, pur, purs, itFr, retOk, ite_ok, ite_pair, tgSet, unpSet, muV, isB_bl, slV, mtA, evD, itDyn, evY, evM, isMv, mvs, isV]
  · have hd : dr S (.ref n) = .lst [.int 3] := by simp [dr, h]
    simp [f_is_hole, retV, exCs, exC, evE, evS, evK, evI, evC, evO, evAnd, evOr, seqV, seqL, keepV, fresh, pur, purs, itFr, retOk, ite_ok, ite_pair, tgSet, unpSet, muV, isB_bl, slV, mtA, evD, itDyn, evY, evM, isMv, mvs, isV, hd]
theorem made_good (d : Nat) {S : Sto} (m : Nat) (row : List Val) (hm : S[m]? = some (.lst row)) : ∀ (l : List Int) (found : List Int) (o : Option Val), (∀ x, x ∈ l → 0 ≤ x ∧ x < 60) → found.length + l.length ≤ 2000 →
    ∃ o', forRL (fun v env S => exCs pg (call pg (d + 1)) o_strip_made g_strip_made_1 (env.set 2 (some v)) S) (m, row) (l.map .int) [some (.ref m), some (.lst (found.map .int)), o] S = .ok .nx [some (.ref m), some (.lst ((l.foldl insZ found).map .int)), o'] S
  | [], found, o, _, _ => ⟨o, by rw [List.map_nil, forRL, if_pos hm, List.foldl_nil]⟩
  | x :: l, found, o, h, hl => by
    rw [List.length_cons] at hl
    have hh := hole_yes d x (h x List.mem_cons_self) S
    have hf : found.length < LIM := by unfold LIM; omega
    have hln := ins_len2 found x
    obtain ⟨o', e⟩ := made_good d m row hm l (insZ found x) (some (.int x)) (fun y hy => h y (List.mem_cons_of_mem _ hy)) (by omega)
    have ho : o_strip_made[1]? = some true := rfl
    have step : exCs pg (call pg (d + 1)) o_strip_made g_strip_made_1 ([some (.ref m), some (.lst (found.map .int)), o].set 2 (some (.int x))) S = .ok .nx [some (.ref m), some (.lst ((insZ found x).map .int)), some (.int x)] S := by
      by_cases g : x ∈ found
      · simp [g_strip_made_1, ho, exCs, exC, evE, evS, evK, evI, evC, evO, evAnd, evOr, seqV, seqL, keepV, fresh, pur, purs, itFr, retOk, ite_ok, ite_pair, tgSet, unpSet, muV, isB_bl, slV, mtA, evD, itDyn, evY, evM, isMv, mvs, hh, insZ, g]
      · simp [g_strip_made_1, ho, exCs, exC, evE, evS, evK, evI, evC, evO, evAnd, evOr, seqV, seqL, keepV, fresh, pur, purs, itFr, retOk, ite_ok, ite_pair, tgSet, unpSet, muV, isB_bl, slV, mtA, evD, itDyn, evY, evM, isMv, mvs, hh, insZ, g, hf]
    refine ⟨o', ?_⟩
    rw [List.map_cons, forRL, if_pos hm]
    show (exCs pg (call pg (d + 1)) o_strip_made g_strip_made_1 ([some (.ref m), some (.lst (found.map .int)), o].set 2 (some (.int x))) S).seq _ = _
    rw [step, seq_nx, e, List.foldl_cons]
theorem made_bad (d : Nat) {S : Sto} (m : Nat) (row : List Val) (hm : S[m]? = some (.lst row)) : ∀ (l : List Val) (found : List Int) (o : Option Val), (∀ v, v ∈ l → Hole2 v ∨ Odd2 S v) → (∃ v, v ∈ l ∧ Odd2 S v) → found.length + l.length ≤ 2000 →
    ∃ env', forRL (fun v env S => exCs pg (call pg (d + 1)) o_strip_made g_strip_made_1 (env.set 2 (some v)) S) (m, row) l [some (.ref m), some (.lst (found.map .int)), o] S = .exc 1 env' S
  | [], found, o, _, ⟨v, hv, _⟩, _ => by cases hv
  | y :: l, found, o, h, hb, hl => by
    rw [List.length_cons] at hl
    rcases h y List.mem_cons_self with ⟨x, rfl, hx⟩ | ho
    · have hh := hole_yes d x hx S
      have hf : found.length < LIM := by unfold LIM; omega
      have hln := ins_len2 found x
      have hb2 : ∃ v, v ∈ l ∧ Odd2 S v := by
        obtain ⟨v, hv, ho⟩ := hb
        rcases List.mem_cons.mp hv with rfl | hv
        · have := hole_no d ho
          rw [hh] at this
          cases this
        · exact ⟨v, hv, ho⟩
      obtain ⟨env', e⟩ := made_bad d m row hm l (insZ found x) (some (.int x)) (fun y hy => h y (List.mem_cons_of_mem _ hy)) hb2 (by omega)
      have ho : o_strip_made[1]? = some true := rfl
      have step : exCs pg (call pg (d + 1)) o_strip_made g_strip_made_1 ([some (.ref m), some (.lst (found.map .int)), o].set 2 (some (.int x))) S = .ok .nx [some (.ref m), some (.lst ((insZ found x).map .int)), some (.int x)] S := by
        by_cases g : x ∈ found
        · simp [g_strip_made_1, ho, exCs, exC, evE, evS, evK, evI, evC, evO, evAnd, evOr, seqV, seqL, keepV, fresh, pur, purs, itFr, retOk, ite_ok, ite_pair, tgSet, unpSet, muV, isB_bl, slV, mtA, evD, itDyn, evY, evM, isMv, mvs, hh, insZ, g]
        · simp [g_strip_made_1, ho, exCs, exC, evE, evS, evK, evI, evC, evO, evAnd, evOr, seqV, seqL, keepV, fresh, pur, purs, itFr, retOk, ite_ok, ite_pair, tgSet, unpSet, muV, isB_bl, slV, mtA, evD, itDyn, evY, evM, isMv, mvs, hh, insZ, g, hf]
      refine ⟨env', ?_⟩
      rw [forRL, if_pos hm]
      show (exCs pg (call pg (d + 1)) o_strip_made g_strip_made_1 ([some (.ref m), some (.lst (found.map .int)), o].set 2 (some (.int x))) S).seq _ = _
      rw [step, seq_nx, e]
    · have hh := hole_no d ho
      have step : exCs pg (call pg (d + 1)) o_strip_made g_strip_made_1 ([some (.ref m), some (.lst (found.map .int)), o].set 2 (some y)) S = .exc 1 [some (.ref m), some (.lst (found.map .int)), some y] S := by
        simp [g_strip_made_1, exCs, exC, evE, evS, evK, evI, evC, evO, evAnd, evOr, seqV, seqL, keepV, fresh, pur, purs, itFr, retOk, ite_ok, ite_pair, tgSet, unpSet, muV, isB_bl, slV, mtA, evD, itDyn, evY, evM, isMv, mvs, hh]
      refine ⟨[some (.ref m), some (.lst (found.map .int)), some y], ?_⟩
      rw [forRL, if_pos hm]
      show (exCs pg (call pg (d + 1)) o_strip_made g_strip_made_1 ([some (.ref m), some (.lst (found.map .int)), o].set 2 (some y)) S).seq _ = _
      rw [step, seq_exc]
theorem strip2_good (d : Nat) {S : Sto} (m : Nat) (l : List Int) (hm : S[m]? = some (.lst (l.map .int))) (h : ∀ x, x ∈ l → 0 ≤ x ∧ x < 60) (hl : l.length ≤ 2000) : call pg (d + 2) 1 [.ref m] S = .ok (eS (sortI (once l)), S) := by
  obtain ⟨o', e⟩ := made_good d m (l.map .int) hm l [] none h (by simpa using hl)
  have hls : lstR S (.ref m) = .ok (m, l.map .int) := by simp [lstR, hm]
  rw [List.map_nil] at e
  rw [call_eq e_strip_made]
  simp [f_strip_made, retV, exCs, exC, evE, evS, evK, evI, evC, evO, evAnd, evOr, seqV, seqL, keepV, fresh, pur, purs, itFr, retOk, ite_ok, ite_pair, tgSet, unpSet, muV, isB_bl, slV, mtA, evD, itDyn, evY, evM, isMv, mvs, hls, e, fold_sort2]
theorem strip2_bad (d : Nat) {S : Sto} (m : Nat) (row : List Val) (hm : S[m]? = some (.lst row)) (h : ∀ v, v ∈ row → Hole2 v ∨ Odd2 S v) (hb : ∃ v, v ∈ row ∧ Odd2 S v) (hl : row.length ≤ 2000) : call pg (d + 2) 1 [.ref m] S = .exc 1 S := by
  obtain ⟨env', e⟩ := made_bad d m row hm row [] none h hb (by simpa using hl)
  have hls : lstR S (.ref m) = .ok (m, row) := by simp [lstR, hm]
  rw [List.map_nil] at e
  rw [call_eq e_strip_made]
  simp [f_strip_made, retV, exCs, exC, evE, evS, evK, evI, evC, evO, evAnd, evOr, seqV, seqL, keepV, fresh, pur, purs, itFr, retOk, ite_ok, ite_pair, tgSet, unpSet, muV, isB_bl, slV, mtA, evD, itDyn, evY, evM, isMv, mvs, hls, e]
/-! the whole rest -/
def Ok2 (q : List (List Int)) : Prop := ∀ s, s ∈ q → (∀ x, x ∈ s → 0 ≤ x ∧ x < 60) ∧ s.length ≤ 1000
theorem comp2_good {f : Val → Sto → Res (Option Val × Sto)} {S : Sto} {g : List Int → Val} (hf : ∀ (m : Nat) (l : List Int), S[m]? = some (.lst (l.map .int)) → (∀ x, x ∈ l → 0 ≤ x ∧ x < 60) → l.length ≤ 1000 → f (.ref m) S = .ok (some (g l), S)) : ∀ {vs : List Val} {q : List (List Int)}, RowsAt S vs (q.map fun s => s.map .int) → Ok2 q → mapR f vs S = .ok (q.map g, S)
  | [], [], _, _ => rfl
  | _ :: vs, s :: q, ⟨⟨m, e, h⟩, k⟩, hp => by
    subst e
    have h1 := hp s List.mem_cons_self
    rw [mapR, hf m s h h1.1 h1.2, bind_ok, comp2_good hf k fun x hx => hp x (List.mem_cons_of_mem _ hx), bind_ok]
    rfl
theorem rest2_good (d : Nat) {S : Sto} {vs : List Val} {q : List (List Int)} (h : RowsAt S vs (q.map fun s => s.map .int)) (hq : Ok2 q) (hl : q.length ≤ 60) : call pg (d + 3) 2 [.lst vs] S = .ok (eR (sortR (q.map fun s => sortI (once s))), S) := by
  have hm := comp2_good (g := fun s => eS (sortI (once s))) (f := fun v S => (call pg (d + 2) 1 [v] S).bind fun r => .ok (some r.1, r.2)) (fun m l h1 h2 h3 => by rw [strip2_good d m l h1 h2 (by omega)]; rfl) h hq
  have hvl : vs.length = q.length := by rw [h.len, List.length_map]
  have h1 : ¬ (60 : Int) < (vs.length : Nat) := by omega
  have hs := b_sorted_eS (q.map fun s => sortI (once s))
  rw [List.map_map] at hs
  have hs : bltV .sorted [.lst (q.map fun s => eS (sortI (once s)))] = .ok (.lst ((sortR (q.map fun s => sortI (once s))).map eS)) := hs
  rw [call_eq e_rest_made]
  generalize (q.map fun s => eS (sortI (once s))) = Y at *
  simp [f_rest_made, retV, exCs, exC, evE, evS, evK, evI, evC, evO, evAnd, evOr, seqV, seqL, keepV, fresh, pur, purs, itFr, retOk, ite_ok, ite_pair, tgSet, unpSet, muV, isB_bl, slV, mtA, evD, itDyn, evY, evM, isMv, mvs, k_STRIPS, h1, hm, hs]
theorem rest2_many (d : Nat) {S : Sto} {vs : List Val} (h : 60 < vs.length) : call pg (d + 3) 2 [.lst vs] S = .exc 1 S := by
  have h1 : (60 : Int) < (vs.length : Nat) := by omega
  rw [call_eq e_rest_made]
  simp [f_rest_made, retV, exCs, exC, evE, evS, evK, evI, evC, evO, evAnd, evOr, seqV, seqL, keepV, fresh, pur, purs, itFr, retOk, ite_ok, ite_pair, tgSet, unpSet, muV, isB_bl, slV, mtA, evD, itDyn, evY, evM, isMv, mvs, k_STRIPS, h1]
theorem comp2_bad {f : Val → Sto → Res (Option Val × Sto)} {S : Sto} (hf : ∀ (m : Nat) (r : List Val), S[m]? = some (.lst r) → (∀ v, v ∈ r → Hole2 v ∨ Odd2 S v) → r.length ≤ 2000 → (∃ v, f (.ref m) S = .ok (some v, S) ∧ ¬ ∃ v, v ∈ r ∧ Odd2 S v) ∨ f (.ref m) S = .exc 1 S) : ∀ {vs : List Val} {rs : List (List Val)}, RowsAt S vs rs → (∀ r, r ∈ rs → (∀ v, v ∈ r → Hole2 v ∨ Odd2 S v) ∧ r.length ≤ 2000) → (∃ r, r ∈ rs ∧ ∃ v, v ∈ r ∧ Odd2 S v) → mapR f vs S = .exc 1 S
  | [], [], _, _, ⟨_, h, _⟩ => by cases h
  | _ :: vs, r :: rs, ⟨⟨m, e, h⟩, k⟩, hp, ⟨r', hr', hb⟩ => by
    subst e
    have h1 := hp r List.mem_cons_self
    rcases hf m r h h1.1 h1.2 with ⟨v, e, hn⟩ | e
    · have : r' ∈ rs := by
        rcases List.mem_cons.mp hr' with rfl | z
        · exact absurd hb hn
        · exact z
      rw [mapR, e, bind_ok, comp2_bad hf k (fun x hx => hp x (List.mem_cons_of_mem _ hx)) ⟨r', this, hb⟩]
      rfl
    · rw [mapR, e]; rfl
theorem ints_of {S : Sto} : ∀ {r : List Val}, (∀ v, v ∈ r → Hole2 v ∨ Odd2 S v) → (¬ ∃ v, v ∈ r ∧ Odd2 S v) → ∃ l : List Int, r = l.map .int ∧ ∀ x, x ∈ l → 0 ≤ x ∧ x < 60
  | [], _, _ => ⟨[], rfl, by simp⟩
  | v :: r, h, hn => by
    obtain ⟨l, e, hl⟩ := ints_of (r := r) (fun x hx => h x (List.mem_cons_of_mem _ hx)) fun ⟨x, hx, ho⟩ => hn ⟨x, List.mem_cons_of_mem _ hx, ho⟩
    rcases h v List.mem_cons_self with ⟨i, rfl, hi⟩ | ho
    · exact ⟨i :: l, by rw [e]; rfl, fun x hx => by
        rcases List.mem_cons.mp hx with rfl | hx
        · exact hi
        · exact hl x hx⟩
    · exact absurd ⟨v, List.mem_cons_self, ho⟩ hn
theorem rest2_bad (d : Nat) {S : Sto} {vs : List Val} {rs : List (List Val)} (h : RowsAt S vs rs) (hq : ∀ r, r ∈ rs → (∀ v, v ∈ r → Hole2 v ∨ Odd2 S v) ∧ r.length ≤ 2000) (hb : 60 < rs.length ∨ ∃ r, r ∈ rs ∧ ∃ v, v ∈ r ∧ Odd2 S v) : call pg (d + 3) 2 [.lst vs] S = .exc 1 S := by
  by_cases g : 60 < vs.length
  · exact rest2_many d g
  · have h1 : ¬ (60 : Int) < (vs.length : Nat) := by omega
    have hb := hb.resolve_left (by rw [← h.len]; exact g)
    have hm := comp2_bad (f := fun v S => (call pg (d + 2) 1 [v] S).bind fun r => .ok (some r.1, r.2)) (fun m r e1 e2 e3 => by
      by_cases z : ∃ v, v ∈ r ∧ Odd2 S v
      · exact .inr (by rw [strip2_bad d m r e1 e2 z e3]; rfl)
      · obtain ⟨l, rfl, hl⟩ := ints_of e2 z
        exact .inl ⟨_, by rw [strip2_good d m l e1 hl (by simpa using e3)]; rfl, z⟩) h hq hb
    rw [call_eq e_rest_made]
    simp [f_rest_made, retV, exCs, exC, evE, evS, evK, evI, evC, evO, evAnd, evOr, seqV, seqL, keepV, fresh, pur, purs, itFr, retOk, ite_ok, ite_pair, tgSet, unpSet, muV, isB_bl, slV, mtA, evD, itDyn, evY, evM, isMv, mvs, k_STRIPS, h1, hm]
theorem kinds2 (d : Nat) {S : Sto} {a : Val} (h : call pg (d + 3) 2 [a] S = .exc 1 S) : ∃ S2, call pg (d + 4) 10 [a] S = .ok (.lst [.bl true, .bl true, .bl false], S ++ S2) := by
  have c1 : 1 ∈ pg.xs := by decide
  have ho : o__law_kinds[1]?.getD false = true := rfl
  have ex : excR (S ++ [Ob.xo 1]) (some (some (.ref S.length))) = .ok 1 := by simp [excR]
  have s0 : subc 1 0 = true := rfl
  have s1 : subc 1 100 = true := rfl
  have s2 : subc 1 1 = true := rfl
  have t2 : subc 1 2 = false := rfl
  have t3 : subc 1 3 = false := rfl
  have t4 : subc 1 4 = false := rfl
  have t5 : subc 1 5 = false := rfl
  have t6 : subc 1 6 = false := rfl
  have t7 : subc 1 7 = false := rfl
  have t8 : subc 1 8 = false := rfl
  have t9 : subc 1 9 = false := rfl
  have t10 : subc 1 10 = false := rfl
  have hany : bltV .any [.lst [.bl false, .bl false, .bl false, .bl false]] = .ok (.bl false) := rfl
  refine ⟨[.xo 1], ?_⟩
  rw [call_eq e__law_kinds]
  simp [f__law_kinds, o__law_kinds, retV, exCs, exC, evE, evS, evK, evI, evC, evO, evAnd, evOr, seqV, seqL, keepV, fresh, pur, purs, itFr, retOk, ite_ok, ite_pair, tgSet, unpSet, muV, isB_bl, slV, mtA, evD, itDyn, evY, evM, isMv, mvs, exHs, h, c1, ex, s0, s1, s2, t2, t3, t4, t5, t6, t7, t8, t9, t10, hany]

theorem row2_ok (d : Nat) (c : Int) (S : Sto) : ∃ s : List Int, call pg (d + 2) 5 [.int c] S = .ok (eL s, S) ∧ (∀ x, x ∈ s → 0 ≤ x ∧ x < 60) ∧ s.length ≤ 11 := by
  have ho : o__law_row[3]? = some true := rfl
  have ho2 : o__law_row[3]?.getD false = true := rfl
  have h1 : 0 ≤ mixZ c 1181783497276652981 % 10 ∧ mixZ c 1181783497276652981 % 10 < 10 := ⟨Int.emod_nonneg _ (by decide), Int.emod_lt_of_pos _ (by decide)⟩
  generalize hz : mixZ c 1181783497276652981 % 10 = z at h1
  have hr : rngV [.int z] = .ok (range 0 z.toNat) := rng_ok z (by omega) (by omega)
  rw [range0] at hr
  obtain ⟨env', e, l, s, o4, rfl, h2, h3⟩ := forL_n (S := S) (l := List.range z.toNat) (f := fun (i : Nat) env S => exCs pg (call pg (d + 1)) o__law_row g__law_row_1 (env.set 4 (some (.int (i : Nat)))) S)
    (env := [some (.int c), some (.int (mixZ c 1181783497276652981 / 10)), some (.int z), some (.lst []), none])
    (P := fun n env => ∃ (l : Int) (s : List Int) (o4 : Option Val), env = [some (.int c), some (.int l), some (.int z), some (.lst (s.map .int)), o4] ∧ (∀ x, x ∈ s → 0 ≤ x ∧ x < 60) ∧ s.length ≤ n)
    ⟨_, [], none, rfl, by simp, by simp⟩ (fun i j hj env ⟨l, s, o4, he, h2, h3⟩ => by
      subst he
      have hi := (List.getElem?_eq_some_iff.mp hj).1
      rw [List.length_range] at hi
      rw [List.getElem?_range hi] at hj
      cases hj
      have hln : s.length < LIM := by unfold LIM; omega
      refine ⟨[some (.int c), some (.int (l / 60)), some (.int z), some (.lst ((s ++ [l % 60]).map .int)), some (.int (i : Nat))], ?_, _, _, _, rfl, fun x hx => ?_, by rw [List.length_append, List.length_singleton]; omega⟩
      · simp [g__law_row_1, ho, exCs, exC, evE, evS, evK, evI, evC, evO, evAnd, evOr, seqV, seqL, keepV, fresh, pur, purs, itFr, retOk, ite_ok, ite_pair, tgSet, unpSet, muV, isB_bl, slV, mtA, evD, itDyn, evY, evM, isMv, mvs, mod_int, fdiv_int, hln]
      · rcases List.mem_append.mp hx with hx | hx
        · exact h2 x hx
        · rw [List.mem_singleton.mp hx]
          exact ⟨Int.emod_nonneg _ (by decide), Int.emod_lt_of_pos _ (by decide)⟩)
  rw [List.length_range] at h3
  rw [call_eq e__law_row]
  by_cases g : c % 3 = 1
  · have hc := cut_take s 2
    have hadd : binV .add (.lst (s.map .int)) (.lst ((s.take 2).map .int)) = .ok (.lst ((s ++ s.take 2).map .int)) := by
      have hp : ∀ t : List Int, purs (t.map .int) = true := fun t => by simp
      have h2 : (s.map Val.int).length + ((s.take 2).map Val.int).length ≤ LIM := by rw [List.length_map, List.length_map, List.length_take]; unfold LIM; omega
      have e : binV .add (.lst (s.map .int)) (.lst ((s.take 2).map .int)) = guard' (decide ((s.map Val.int).length + ((s.take 2).map Val.int).length ≤ LIM) && purs (s.map .int) && purs ((s.take 2).map .int)) (.ok (.lst (s.map .int ++ (s.take 2).map .int))) := rfl
      rw [e, hp, hp, decide_eq_true h2, List.map_append]
      rfl
    refine ⟨s ++ s.take 2, ?_, fun x hx => ?_, ?_⟩
    · simp only [List.map_append, List.map_take] at hadd ⊢
      have hc2 : cut s none (some 2) = s.take 2 := hc
      simp [f__law_row, retV, exCs, exC, evE, evS, evK, evI, evC, evO, evAnd, evOr, seqV, seqL, keepV, fresh, pur, purs, itFr, retOk, ite_ok, ite_pair, tgSet, unpSet, muV, isB_bl, slV, mtA, evD, itDyn, evY, evM, isMv, mvs, mixed_ok, mod_int, fdiv_int, hz, hr, e, g, ho2, hc2, hadd]
    · rcases List.mem_append.mp hx with hx | hx
      · exact h2 x hx
      · exact h2 x (List.mem_of_mem_take hx)
    · rw [List.length_append, List.length_take]; omega
  · exact ⟨s, by simp [f__law_row, retV, exCs, exC, evE, evS, evK, evI, evC, evO, evAnd, evOr, seqV, seqL, keepV, fresh, pur, purs, itFr, retOk, ite_ok, ite_pair, tgSet, unpSet, muV, isB_bl, slV, mtA, evD, itDyn, evY, evM, isMv, mvs, mixed_ok, mod_int, fdiv_int, hz, hr, e, g, ho2], h2, by omega⟩
theorem strange2 (d : Nat) (c : Int) (S : Sto) : ∃ v, call pg (d + 1) 9 [.int c] S = .ok (v, S ++ [.lst [.int 3]]) ∧ pur v = true ∧ ∀ S' : Sto, S'[S.length]? = some (.lst [.int 3]) → Odd2 S' v := by
  have f0 : 0 ≤ c / 11 % 10 ^ 60 := Int.emod_nonneg _ (by decide)
  have hp : binV .pow (.int 10) (.int 60) = .ok (.int (10 ^ 60)) := rfl
  have hm := mod_int (c / 11) (10 ^ 60) (by decide)
  have hx : boxO (.lst [.int 3]) = .ok (.lst [.int 3]) := rfl
  generalize hpw : (10 : Int) ^ 60 = pw at *
  generalize c / 11 % pw = far at *
  have s3 : PyData.strOk ("3" : Str) = true := by decide +kernel
  have s0 : PyData.strOk ("" : Str) = true := by decide +kernel
  have h6 : c % 11 = 0 ∨ c % 11 = 1 ∨ c % 11 = 2 ∨ c % 11 = 3 ∨ c % 11 = 4 ∨ c % 11 = 5 ∨ c % 11 = 6 ∨ c % 11 = 7 ∨ c % 11 = 8 ∨ c % 11 = 9 ∨ c % 11 = 10 := by omega
  have key : ∀ k : Int, c % 11 = k → ∀ v, ixV (.lst [.bl true, .bl false, .non, .str "3", .str "", .int (-1), .int 60, .int (61 + far), .int (-2 - far), .tup [.int 3], .ref S.length]) (.int k) = .ok v → pur v = true → call pg (d + 1) 9 [.int c] S = .ok (v, S ++ [.lst [.int 3]]) := fun k hk v hv hpv => by
    rw [call_eq e__law_strange]
    simp [f__law_strange, retV, exCs, exC, evE, evS, evK, evI, evC, evO, evAnd, evOr, seqV, seqL, keepV, fresh, pur, purs, itFr, retOk, ite_ok, ite_pair, tgSet, unpSet, muV, isB_bl, slV, mtA, evD, itDyn, evY, evM, isMv, mvs, fdiv_int, mod_int, hp, hm, hx, hk, hv, hpv]
  rcases h6 with h | h | h | h | h | h | h | h | h | h | h
  · exact ⟨_, key 0 h _ rfl rfl, rfl, fun S' hS => .inr (.inl ⟨_, rfl⟩)⟩
  · exact ⟨_, key 1 h _ rfl rfl, rfl, fun S' hS => .inr (.inl ⟨_, rfl⟩)⟩
  · exact ⟨_, key 2 h _ rfl rfl, rfl, fun S' hS => .inr (.inr (.inl rfl))⟩
  · exact ⟨_, key 3 h _ rfl rfl, rfl, fun S' hS => .inr (.inr (.inr (.inl ⟨_, rfl, s3⟩)))⟩
  · exact ⟨_, key 4 h _ rfl rfl, rfl, fun S' hS => .inr (.inr (.inr (.inl ⟨_, rfl, s0⟩)))⟩
  · exact ⟨_, key 5 h _ rfl rfl, rfl, fun S' hS => .inl ⟨_, rfl, by decide⟩⟩
  · exact ⟨_, key 6 h _ rfl rfl, rfl, fun S' hS => .inl ⟨_, rfl, by decide⟩⟩
  · exact ⟨_, key 7 h _ rfl rfl, rfl, fun S' hS => .inl ⟨_, rfl, by omega⟩⟩
  · exact ⟨_, key 8 h _ rfl rfl, rfl, fun S' hS => .inl ⟨_, rfl, by omega⟩⟩
  · exact ⟨_, key 9 h _ rfl rfl, rfl, fun S' hS => .inr (.inr (.inr (.inr (.inl rfl))))⟩
  · exact ⟨_, key 10 h _ rfl rfl, rfl, fun S' hS => .inr (.inr (.inr (.inr (.inr ⟨_, rfl, hS⟩))))⟩
/-- the rows of the script -/
theorem rows2_ok (d : Nat) : ∀ (cs : List Int) (S : Sto), ∃ (vs : List Val) (q : List (List Int)), mapR (fun (x : Int) S => ((call pg (d + 2) 5 [.int x] S).bind fun p => (boxO p.1).bind fun o => Res.ok (Val.ref p.2.length, p.2 ++ [o])).bind fun r => .ok (some r.1, r.2)) cs S = .ok (vs, S ++ q.map fun s => Ob.lst (s.map .int)) ∧ RowsAt (S ++ q.map fun s => Ob.lst (s.map .int)) vs (q.map fun s => s.map .int) ∧ q.length = cs.length ∧ ∀ s, s ∈ q → (∀ x, x ∈ s → 0 ≤ x ∧ x < 60) ∧ s.length ≤ 11
  | [], S => ⟨[], [], by simp [mapR], trivial, rfl, by simp⟩
  | c :: cs, S => by
    obtain ⟨s, e, h1, h2⟩ := row2_ok d c S
    obtain ⟨vs, q, e2, r, hl, hq⟩ := rows2_ok d cs (S ++ [.lst (s.map .int)])
    have hx : boxO (eL s) = .ok (.lst (s.map .int)) := by simp [boxO]
    have ha : S ++ [Ob.lst (s.map .int)] ++ q.map (fun s => Ob.lst (s.map .int)) = S ++ (s :: q).map fun s => Ob.lst (s.map .int) := by simp
    rw [ha] at e2 r
    refine ⟨.ref S.length :: vs, s :: q, ?_, ⟨⟨_, rfl, ?_⟩, r⟩, by rw [List.length_cons, List.length_cons, hl], fun t ht => ?_⟩
    · rw [mapR, e, bind_ok, hx, bind_ok, bind_ok, bind_ok, e2, bind_ok]
    · rw [List.getElem?_append_right (Nat.le_refl _), Nat.sub_self]; rfl
    · rcases List.mem_cons.mp ht with rfl | ht
      · exact ⟨h1, h2⟩
      · exact hq t ht
theorem box_many {α : Type} {f : α → Sto → Res (Option Val × Sto)} {g : α → List Val} (S0 : Sto) : ∀ (l : List α) (T : Sto), (∀ x T, x ∈ l → f x (S0 ++ T) = .ok (some (.ref (S0 ++ T).length), S0 ++ T ++ [.lst (g x)])) → mapR f l (S0 ++ T) = .ok ((List.range l.length).map fun i => .ref ((S0 ++ T).length + i), S0 ++ T ++ (l.map g).map .lst)
  | [], T, _ => by simp [mapR]
  | x :: l, T, hf => by
    have h := box_many (f := f) (g := g) S0 l (T ++ [.lst (g x)]) fun y T hy => hf y T (List.mem_cons_of_mem _ hy)
    rw [← List.append_assoc] at h
    rw [mapR, hf x T List.mem_cons_self, bind_ok, h, bind_ok]
    simp only [List.length_cons, List.range_succ_eq_map, List.map_cons, List.map_map, List.append_assoc, List.singleton_append, List.length_append, List.length_nil, Nat.add_zero, Nat.zero_add]
    congr 3
    refine List.map_congr_left fun i _ => ?_
    show Val.ref _ = Val.ref _
    congr 1
    show _ = S0.length + T.length + (i + 1)
    omega
/-- what the rows are, read through the store -/
theorem RowsAt.drDs {S : Sto} {vs : List Val} {rs : List (List Val)} (h : RowsAt S vs rs) : drD S (.lst vs) = .lst (rs.map fun r => .lst (r.map (dr S))) := by
  show Val.lst (vs.map (drE S)) = _
  congr 1
  induction rs generalizing vs with
  | nil => cases vs with
    | nil => rfl
    | cons _ _ => cases h
  | cons r rs ih => cases vs with
    | nil => cases h
    | cons v vs =>
      obtain ⟨⟨n, e, h⟩, k⟩ := h
      subst e
      rw [List.map_cons, List.map_cons, ih k]
      simp [drE, dr, h]
theorem isD_item {S : Sto} {v : Val} (h : Hole2 v ∨ Odd2 S v) : isD (dr S v) = true ∧ dep (dr S v) ≤ 1 := by
  rcases h with ⟨i, rfl, _⟩ | ⟨i, rfl, _⟩ | ⟨b, rfl⟩ | rfl | ⟨s, rfl, h⟩ | rfl | ⟨n, rfl, h⟩
  · exact ⟨rfl, Nat.zero_le _⟩
  · exact ⟨rfl, Nat.zero_le _⟩
  · exact ⟨rfl, Nat.zero_le _⟩
  · exact ⟨rfl, Nat.zero_le _⟩
  · exact ⟨h, Nat.zero_le _⟩
  · exact ⟨rfl, Nat.le_refl _⟩
  · have hd : dr S (.ref n) = .lst [.int 3] := by simp [dr, h]
    rw [hd]
    exact ⟨rfl, Nat.le_refl _⟩
theorem isDs_all {l : List Val} (h : ∀ v, v ∈ l → isD v = true) : isDs l = true := by
  induction l with
  | nil => rfl
  | cons v l ih => rw [isDs, h v List.mem_cons_self, ih fun x hx => h x (List.mem_cons_of_mem _ hx)]; rfl
theorem deps_all {n : Nat} {l : List Val} (h : ∀ v, v ∈ l → dep v ≤ n) : deps l ≤ n := by
  induction l with
  | nil => exact Nat.zero_le _
  | cons v l ih =>
    rw [deps]
    exact Nat.max_le.mpr ⟨h v List.mem_cons_self, ih fun x hx => h x (List.mem_cons_of_mem _ hx)⟩
theorem ne_rows {S : Sto} {rs : List (List Val)} (h : ∀ r, r ∈ rs → ∀ v, v ∈ r → Hole2 v ∨ Odd2 S v) : cmpV .ne (.lst (rs.map fun r => .lst (r.map (dr S)))) (.lst (rs.map fun r => .lst (r.map (dr S)))) = .ok (.bl false) := by
  refine ne_same _ ?_ ?_
  · rw [isD]
    refine isDs_all fun v hv => ?_
    obtain ⟨r, hr, rfl⟩ := List.mem_map.mp hv
    rw [isD]
    refine isDs_all fun v hv => ?_
    obtain ⟨x, hx, rfl⟩ := List.mem_map.mp hv
    exact (isD_item (h r hr x hx)).1
  · have : deps (rs.map fun r => Val.lst (r.map (dr S))) ≤ 2 := deps_all fun v hv => by
      obtain ⟨r, hr, rfl⟩ := List.mem_map.mp hv
      have : deps (r.map (dr S)) ≤ 1 := deps_all fun v hv => by
        obtain ⟨x, hx, rfl⟩ := List.mem_map.mp hv
        exact (isD_item (h r hr x hx)).2
      rw [dep]; omega
    rw [dep]; omega
theorem pur_item {S : Sto} {v : Val} (h : Hole2 v ∨ Odd2 S v) : pur v = true := by
  rcases h with ⟨i, rfl, _⟩ | ⟨i, rfl, _⟩ | ⟨b, rfl⟩ | rfl | ⟨s, rfl, h⟩ | rfl | ⟨n, rfl, h⟩ <;> rfl
theorem purs_items {S : Sto} {r : List Val} (h : ∀ v, v ∈ r → Hole2 v ∨ Odd2 S v) : purs r = true := by
  induction r with
  | nil => rfl
  | cons v r ih => rw [purs, pur_item (h v List.mem_cons_self), ih fun x hx => h x (List.mem_cons_of_mem _ hx)]; rfl

/-! ### statement by statement -/
theorem rt_nx {cl : CallT} {ow : List Bool} {c : C} {cs : Cs} {env env' : Env} {S S' : Sto} {r : Res (Val × Sto)} (h1 : exC pg cl ow c env S = .ok .nx env' S') (h2 : retV (exCs pg cl ow cs env' S') = r) : retV (exCs pg cl ow (.cons c cs) env S) = r := by
  rw [exCs, h1, seq_nx]; exact h2
theorem rt_rt {cl : CallT} {ow : List Bool} {c : C} {cs : Cs} {env env' : Env} {S S' : Sto} {v : Val} (h1 : exC pg cl ow c env S = .ok (.rt v) env' S') : retV (exCs pg cl ow (.cons c cs) env S) = .ok (v, S') := by
  rw [exCs, h1]; rfl
def csDrop : Nat → Cs → Cs
  | 0, c => c
  | n + 1, .cons _ cs => csDrop n cs
  | _ + 1, .nil => .nil

theorem set2 {S : Sto} {vs : List Val} {q : List (List Int)} (h : RowsAt S vs (q.map fun s => s.map .int)) (hq : Ok2 q) : mapR (fun (x : Val) S => ((((((bltV Bt.set [dr S x]).bind fun v => Res.ok (v, S)).bind fun p => Res.ok ([p.fst], p.snd)).bind fun p => (bltV Bt.sorted (p.fst.map (dr p.snd))).bind fun v => Res.ok (v, p.snd)).bind fun p => Res.ok ([p.fst], p.snd)).bind fun p => (bltV Bt.tuple (p.fst.map (dr p.snd))).bind fun v => Res.ok (v, p.snd)).bind fun r => Res.ok (some r.fst, r.snd)) vs S = .ok (q.map fun s => eS (sortI (once s)), S) :=
  comp2_good (g := fun s => eS (sortI (once s))) (fun m l h1 h2 h3 => by
    have hd : dr S (.ref m) = .lst (l.map .int) := by simp [dr, h1]
    have e1 : bltV .set [.lst (l.map .int)] = .ok (.set (once l)) := b_set_lint l (by omega)
    have e2 := b_sorted_set (once l) (by
      have h3 := nodup_bound 60 (once l) (onceZ_nodup l) fun x hx => h2 x ((onceZ_mem l x).mp hx)
      omega)
    simp [hd, e1, e2]) h hq
theorem tail2 {ns : List Int} {S : Sto} {vsR vsH : List Val} {Q : List (List Int)} {rs : List (List Val)} (kd : Val) (x2 x5 x6 x7 : Option Val) (hR : RowsAt S vsR (Q.map fun s => s.map .int)) (hQ : Ok2 Q) (hl : Q.length ≤ 60) (hH : RowsAt S vsH rs) (hi : ∀ r, r ∈ rs → (∀ v, v ∈ r → Hole2 v ∨ Odd2 S v) ∧ r.length ≤ 2000) (hb : 60 < rs.length ∨ ∃ r, r ∈ rs ∧ ∃ v, v ∈ r ∧ Odd2 S v) :
    ∃ Sf, retV (exCs pg (call pg 9) o_law_v1 (csDrop 5 f_law_v1.body) [some (.scr ns), some (.lst vsR), x2, some kd, some (.lst vsH), x5, x6, x7, none, none] S) = .ok (.bl true, Sf) := by
  have hbx := box_rows (f := fun v S => (((bltV .list [dr S v]).bind fun v => .ok (v, S)).bind fun p => (boxO p.1).bind fun o => .ok (Val.ref p.2.length, p.2 ++ [o])).bind fun r => .ok (some r.1, r.2)) (fun n r S hn hp => by
    have hd : dr S (.ref n) = .lst r := by simp [dr, hn]
    have hb : bltV .list [.lst r] = .ok (.lst r) := by simp [bltV, hp]
    have hb2 : boxO (.lst r) = .ok (.lst r) := by simp [boxO, hp]
    simp only [hd, hb, hb2, bind_ok]) S hH fun r hr => purs_items (hi r hr).1
  have hK := rows_new S rs []
  rw [List.append_nil, List.length_nil, Nat.add_zero] at hK
  have hH2 := hH.more (rs.map .lst)
  have hR2 := hR.more (rs.map .lst)
  have hi2 : ∀ r, r ∈ rs → (∀ v, v ∈ r → Hole2 v ∨ Odd2 (S ++ rs.map Ob.lst) v) ∧ r.length ≤ 2000 := fun r hr => ⟨fun v hv => by
    rcases (hi r hr).1 v hv with h | h
    · exact .inl h
    · exact .inr (h.more _), (hi r hr).2⟩
  have hb2 : 60 < rs.length ∨ ∃ r, r ∈ rs ∧ ∃ v, v ∈ r ∧ Odd2 (S ++ rs.map Ob.lst) v := by
    rcases hb with h | ⟨r, hr, v, hv, h⟩
    · exact .inl h
    · exact .inr ⟨r, hr, v, hv, h.more _⟩
  generalize (List.range rs.length).map (fun i => Val.ref (S.length + i)) = vsK at *
  generalize hS6 : S ++ rs.map Ob.lst = S6 at *
  have m1 := rest2_bad 6 hH2 hi2 hb2
  have d1 := hH2.drDs
  have d2 := hK.drDs
  have hne := ne_rows fun r hr => (hi2 r hr).1
  generalize Val.lst (rs.map fun r => Val.lst (r.map (dr S6))) = X at *
  obtain ⟨S7, m2⟩ := kinds2 5 (rest2_bad 5 hH2 hi2 hb2)
  have hR3 := hR2.more S7
  generalize S6 ++ S7 = S8 at *
  have m3 := rest2_good 6 hR3 hQ hl
  have m4 := set2 hR3 hQ
  have hs := b_sorted_eS (Q.map fun s => sortI (once s))
  rw [List.map_map] at hs
  have hs : bltV .sorted [.lst (Q.map fun s => eS (sortI (once s)))] = .ok (.lst ((sortR (Q.map fun s => sortI (once s))).map eS)) := hs
  have ht : bltV .tuple [.lst ((sortR (Q.map fun s => sortI (once s))).map eS)] = .ok (eR (sortR (Q.map fun s => sortI (once s)))) := by simp [bltV, eR]
  have heq : cmpV .eq (eR (sortR (Q.map fun s => sortI (once s)))) (eR (sortR (Q.map fun s => sortI (once s)))) = .ok (.bl true) := (eq_eR _ _).trans (by simp)
  have hdE : ∀ S, drD S (eR (sortR (Q.map fun s => sortI (once s)))) = eR (sortR (Q.map fun s => sortI (once s))) := fun _ => rfl
  have hpE : pur (eR (sortR (Q.map fun s => sortI (once s)))) = true := by simp [eR, pur]
  generalize eR (sortR (Q.map fun s => sortI (once s))) = RV at *
  generalize (sortR (Q.map fun s => sortI (once s))).map eS = RL at *
  generalize (Q.map fun s => eS (sortI (once s))) = QL at *
  have hd3 : ∀ S, drD S (.lst [.bl true, .bl true, .bl false]) = .lst [.bl true, .bl true, .bl false] := fun _ => rfl
  have hn3 : cmpV .ne (.lst [.bl true, .bl true, .bl false]) (.lst [.bl true, .bl true, .bl false]) = .ok (.bl false) := rfl
  have hdr : ∀ S l, dr S (.lst l) = .lst l := fun _ _ => rfl
  have c1 : 1 ∈ pg.xs := by decide
  have s1 : subc 1 1 = true := rfl
  refine ⟨S8, ?_⟩
  unfold f_law_v1
  simp only [csDrop]
  refine rt_nx (env' := [some (.scr ns), some (.lst vsR), x2, some kd, some (.lst vsH), x5, x6, x7, some (.lst vsK), none]) (S' := S6) (by simp [exCs, exC, evE, evS, evK, evI, evC, evO, evAnd, evOr, seqV, seqL, keepV, fresh, pur, purs, itFr, retOk, ite_ok, ite_pair, tgSet, unpSet, muV, isB_bl, slV, mtA, evD, itDyn, evY, evM, isMv, mvs, hbx]) ?_
  refine rt_nx (env' := [some (.scr ns), some (.lst vsR), x2, some kd, some (.lst vsH), x5, x6, x7, some (.lst vsK), some (.bl false)]) (S' := S6) (by simp [exCs, exC, evE, evS, evK, evI, evC, evO, evAnd, evOr, seqV, seqL, keepV, fresh, pur, purs, itFr, retOk, ite_ok, ite_pair, tgSet, unpSet, muV, isB_bl, slV, mtA, evD, itDyn, evY, evM, isMv, mvs]) ?_
  refine rt_nx (env' := [some (.scr ns), some (.lst vsR), x2, some kd, some (.lst vsH), x5, x6, x7, some (.lst vsK), some (.bl true)]) (S' := S6) (by simp [exCs, exC, evE, evS, evK, evI, evC, evO, evAnd, evOr, seqV, seqL, keepV, fresh, pur, purs, itFr, retOk, ite_ok, ite_pair, tgSet, unpSet, muV, isB_bl, slV, mtA, evD, itDyn, evY, evM, isMv, mvs, exHs, m1, c1, s1]) ?_
  refine rt_nx (env' := [some (.scr ns), some (.lst vsR), x2, some kd, some (.lst vsH), x5, x6, x7, some (.lst vsK), some (.bl true)]) (S' := S6) (by simp [exCs, exC, evE, evS, evK, evI, evC, evO, evAnd, evOr, seqV, seqL, keepV, fresh, pur, purs, itFr, retOk, ite_ok, ite_pair, tgSet, unpSet, muV, isB_bl, slV, mtA, evD, itDyn, evY, evM, isMv, mvs, d1, d2, hne]) ?_
  refine rt_nx (env' := [some (.scr ns), some (.lst vsR), x2, some kd, some (.lst vsH), x5, x6, x7, some (.lst vsK), some (.bl true)]) (S' := S8) (by simp [exCs, exC, evE, evS, evK, evI, evC, evO, evAnd, evOr, seqV, seqL, keepV, fresh, pur, purs, itFr, retOk, ite_ok, ite_pair, tgSet, unpSet, muV, isB_bl, slV, mtA, evD, itDyn, evY, evM, isMv, mvs, m2, hd3, hn3]) ?_
  exact rt_rt (env' := [some (.scr ns), some (.lst vsR), x2, some kd, some (.lst vsH), x5, x6, x7, some (.lst vsK), some (.bl true)]) (by simp [exCs, exC, evE, evS, evK, evI, evC, evO, evAnd, evOr, seqV, seqL, keepV, fresh, pur, purs, itFr, retOk, ite_ok, ite_pair, tgSet, unpSet, muV, isB_bl, slV, mtA, evD, itDyn, evY, evM, isMv, mvs, retOk, m3, m4, hs, ht, hdE, heq])
/-- the strange thing put in -/
theorem put2 {ns : List Int} {SB : Sto} {vsR : List Val} {Q H : List (List Int)} (kd : Int) (hk0 : kd ≠ 0) (x2 x5 x6 x7 : Option Val) (hR : RowsAt SB vsR (Q.map fun s => s.map .int)) (hQ : Ok2 Q) (hl : Q.length ≤ 60) (hH : Ok2 H) (hp : 1 ≤ H.length) (hHl : H.length ≤ 1000) :
    ∃ Sf, retV (exCs pg (call pg 9) o_law_v1 (csDrop 4 f_law_v1.body) [some (.scr ns), some (.lst vsR), x2, some (.int kd), some (.lst ((List.range H.length).map fun i => .ref (SB.length + i))), x5, x6, x7, none, none] (SB ++ (H.map fun s => s.map Val.int).map .lst)) = .ok (.bl true, Sf) := by
  have hH1 := rows_new SB (H.map fun s => s.map .int) []
  rw [List.append_nil, List.length_nil, Nat.add_zero, List.length_map] at hH1
  have c1 := cell_ok 8 ns 1 (by decide)
  have c2 := cell_ok 8 ns 2 (by decide)
  have c3 := cell_ok 8 ns 3 (by decide)
  generalize cellZ ns 1 = z1 at *
  generalize cellZ ns 2 = z2 at *
  generalize cellZ ns 3 = z3 at *
  have m0 : 0 ≤ z1 % (H.length : Nat) := Int.emod_nonneg _ (by omega)
  have m1 : z1 % (H.length : Nat) < (H.length : Nat) := Int.emod_lt_of_pos _ (by omega)
  obtain ⟨k, hk⟩ : ∃ k : Nat, z1 % (H.length : Nat) = k := ⟨(z1 % (H.length : Nat)).toNat, by omega⟩
  have hk2 : k < H.length := by omega
  obtain ⟨s, hs⟩ : ∃ s, H[k]? = some s := ⟨_, List.getElem?_eq_getElem hk2⟩
  obtain ⟨hs1, hs2⟩ := hH s (List.mem_of_getElem? hs)
  have p0 : 0 ≤ z2 / 40 % ((s.length : Nat) + 1) := Int.emod_nonneg _ (by omega)
  have p1 : z2 / 40 % ((s.length : Nat) + 1) < (s.length : Nat) + 1 := Int.emod_lt_of_pos _ (by omega)
  obtain ⟨p, hp⟩ : ∃ p : Nat, z2 / 40 % ((s.length : Nat) + 1) = p := ⟨(z2 / 40 % ((s.length : Nat) + 1)).toNat, by omega⟩
  obtain ⟨x, e3, x1, x2'⟩ := strange2 8 z3 (SB ++ (H.map fun s => s.map Val.int).map .lst)
  have hm1 := mod_int z1 (H.length : Nat) (by omega)
  have hm2 := mod_int (z2 / 40) ((s.length : Nat) + 1) (by omega)
  rw [hk] at hm1
  rw [hp] at hm2
  have hix : ixV (.lst ((List.range H.length).map fun i => .ref (SB.length + i))) (.int k) = .ok (.ref (SB.length + k)) := by simp [ixV, at', hk2]
  have hbl : bltV .len [.lst ((List.range H.length).map fun i => Val.ref (SB.length + i))] = .ok (.int H.length) := by rw [b_len_lst, List.length_map, List.length_range]
  have hg : (SB ++ (H.map fun s => s.map Val.int).map Ob.lst)[SB.length + k]? = some (.lst (s.map .int)) := by
    rw [List.getElem?_append_right (by omega), show SB.length + k - SB.length = k by omega, List.getElem?_map, List.getElem?_map, hs]
    rfl
  have hd1 : dr (SB ++ (H.map fun s => s.map Val.int).map Ob.lst) (.ref (SB.length + k)) = .lst (s.map .int) := by simp only [dr, hg]
  have hl1 : lstR (SB ++ (H.map fun s => s.map Val.int).map Ob.lst) (.ref (SB.length + k)) = .ok (SB.length + k, s.map .int) := by
    unfold lstR; simp only [hg]
  have hg2 := get_more [Ob.lst [.int 3]] hg
  have hl2 : lstR (SB ++ (H.map fun s => s.map Val.int).map Ob.lst ++ [.lst [.int 3]]) (.ref (SB.length + k)) = .ok (SB.length + k, s.map .int) := by
    unfold lstR; simp only [hg2]
  have hbl2 : bltV .len [.lst (s.map .int)] = .ok (.int s.length) := by rw [b_len_lst, List.length_map]
  obtain ⟨new, hnew⟩ : ∃ new, (s.map Val.int).take p ++ [x] ++ (s.map Val.int).drop p = new := ⟨_, rfl⟩
  have hmu : muR .insert (s.map .int) [.int p, x] = .ok new := by
    have : s.length < LIM := by unfold LIM; omega
    have p2 : p ≤ s.length := by omega
    rw [← hnew]
    simp [muR, x1, this, p2]
  have hset : (SB ++ (H.map fun s => s.map Val.int).map Ob.lst ++ [Ob.lst [Val.int 3]]).set (SB.length + k) (Ob.lst new) = SB ++ ((H.map fun s => s.map Val.int).set k new).map Ob.lst ++ [Ob.lst [Val.int 3]] := by
    rw [List.set_append_left _ _ (by simp; omega), List.set_append_right _ _ (by omega), show SB.length + k - SB.length = k by omega, List.map_set]
  have hr := rows_new SB ((H.map fun s => s.map Val.int).set k new) []
  rw [List.length_set, List.length_map, List.append_nil, List.length_nil, Nat.add_zero] at hr
  have hr := hr.more [Ob.lst [Val.int 3]]
  have hR5 := hR.more (((H.map fun s => s.map Val.int).set k new).map Ob.lst ++ [Ob.lst [Val.int 3]])
  rw [← List.append_assoc] at hR5
  have hx5 : Odd2 (SB ++ ((H.map fun s => s.map Val.int).set k new).map Ob.lst ++ [Ob.lst [Val.int 3]]) x := x2' _ (by
    rw [List.getElem?_append_right (by simp)]
    simp)
  have hgood : ∀ r, r ∈ (H.map fun s => s.map Val.int).set k new → (∀ v, v ∈ r → Hole2 v ∨ Odd2 (SB ++ ((H.map fun s => s.map Val.int).set k new).map Ob.lst ++ [Ob.lst [Val.int 3]]) v) ∧ r.length ≤ 2000 := fun r hr => by
    rcases List.mem_or_eq_of_mem_set hr with h | h
    · obtain ⟨t, ht, rfl⟩ := List.mem_map.mp h
      refine ⟨fun v hv => ?_, by have := (hH t ht).2; rw [List.length_map]; omega⟩
      obtain ⟨i, hi, rfl⟩ := List.mem_map.mp hv
      exact .inl ⟨i, rfl, (hH t ht).1 i hi⟩
    · subst h
      rw [← hnew]
      refine ⟨fun v hv => ?_, by simp; omega⟩
      have hv : v ∈ s.map Val.int ∨ v = x := by
        rcases List.mem_append.mp hv with hv | hv
        · rcases List.mem_append.mp hv with hv | hv
          · exact .inl (List.mem_of_mem_take hv)
          · exact .inr (List.mem_singleton.mp hv)
        · exact .inl (List.mem_of_mem_drop hv)
      rcases hv with hv | rfl
      · obtain ⟨i, hi, rfl⟩ := List.mem_map.mp hv
        exact .inl ⟨i, rfl, hs1 i hi⟩
      · rw [hnew]; exact .inr hx5
  have hbad : 60 < ((H.map fun s => s.map Val.int).set k new).length ∨ ∃ r, r ∈ (H.map fun s => s.map Val.int).set k new ∧ ∃ v, v ∈ r ∧ Odd2 (SB ++ ((H.map fun s => s.map Val.int).set k new).map Ob.lst ++ [Ob.lst [Val.int 3]]) v :=
    .inr ⟨new, List.mem_set (by simpa using hk2) _, x, by rw [← hnew]; simp, hx5⟩
  obtain ⟨Sf, hf⟩ := tail2 (ns := ns) (.int kd) x2 (some (.ref (SB.length + k))) x6 x7 hR5 hQ hl hr hgood hbad
  rw [← hset] at hf
  refine ⟨Sf, ?_⟩
  generalize hSH : SB ++ (H.map fun s => s.map Val.int).map Ob.lst = SH at *
  generalize (List.range H.length).map (fun i => Val.ref (SB.length + i)) = vsH at *
  generalize (s.map Val.int) = sm at *
  have hkd : cmpV .ne (.int kd) (.int 0) = .ok (.bl true) := by simp [cmpV, eqWhat, isD, dep, veq, hk0]
  have hdi : ∀ (S : Sto) (i : Int), drD S (.int i) = .int i := fun _ _ => rfl
  have hdl : ∀ (S : Sto) l, dr S (.lst l) = .lst l := fun _ _ => rfl
  unfold f_law_v1 at hf ⊢
  simp only [csDrop] at hf ⊢
  exact rt_nx (by simp [exCs, exC, evE, evS, evK, evI, evC, evO, evAnd, evOr, seqV, seqL, keepV, fresh, pur, purs, itFr, retOk, ite_ok, ite_pair, tgSet, unpSet, muV, isB_bl, slV, mtA, evD, itDyn, evY, evM, isMv, mvs, c1, c2, c3, hm1, hm2, hkd, hdi, hdl, hix, hbl, hd1, hl1, e3, x1, hl2, hbl2, hmu, fdiv_int]) hf

theorem ranges (n : Nat) : rngV [.int n] = .ok ((List.range n).map fun i => .int (i : Nat)) ∨ 1000000 < n := by
  by_cases h : n ≤ 1000000
  · left
    rw [rng_ok n (by omega) (by omega), Int.toNat_natCast, range0]
  · right; omega
theorem the_law (ns : List Int) (hl : ns.length ≤ 63) : ∃ Sf, call pg (9 + 1) 11 [.scr ns] [] = .ok (.bl true, Sf) := by
  have hcs : (cut ns (some 4) (some 63)).length ≤ 59 := cut_len ns 4 63 (by decide) (by decide)
  obtain ⟨vs, q, e1, hr, hql, hq⟩ := rows2_ok 7 (cut ns (some 4) (some 63)) []
  rw [List.nil_append] at e1 hr
  have c0 := cell_ok 8 ns 0 (by decide)
  have c2 := cell_ok 8 ns 2 (by decide)
  have m0 := mod_int (cellZ ns 0) 3 (by decide)
  have m2 := mod_int (cellZ ns 2) 40 (by decide)
  have hsl : slV (.scr ns) (some 4) (some 63) = .ok (.lst ((cut ns (some 4) (some 63)).map .int)) := rfl
  have hpv := hr.pur
  have hvl : vs.length = q.length := by rw [hr.len, List.length_map]
  generalize hS1 : (q.map fun s => Ob.lst (s.map Val.int)) = S1 at *
  have hbx0 : boxO (.lst []) = .ok (.lst []) := rfl
  have hnew : RowsAt (S1 ++ [Ob.lst []]) [Val.ref S1.length] [[]] := ⟨⟨_, rfl, by rw [List.getElem?_append_right (Nat.le_refl _), Nat.sub_self]; rfl⟩, trivial⟩
  have hR := (hr.more [Ob.lst []]).app hnew
  have hadd : binV .add (.lst vs) (.lst [.ref S1.length]) = .ok (.lst (vs ++ [.ref S1.length])) := by
    have z1 : vs.length + 1 ≤ LIM := by unfold LIM; omega
    have z3 : purs [Val.ref S1.length] = true := rfl
    simp only [binV, List.length_singleton, z1, hpv, z3, decide_true, Bool.and_self, guard_true]
  obtain ⟨Q, hQ'⟩ : ∃ Q : List (List Int), q ++ [[]] = Q := ⟨_, rfl⟩
  have hRQ : (q.map fun s => s.map Val.int) ++ [[]] = Q.map fun s => s.map Val.int := by rw [← hQ']; simp
  rw [hRQ] at hR
  have hQl : Q.length = q.length + 1 := by rw [← hQ']; simp
  have hQ : Ok2 Q := fun s hs => by
    rw [← hQ'] at hs
    rcases List.mem_append.mp hs with h | h
    · exact ⟨(hq s h).1, by have := (hq s h).2; omega⟩
    · rw [List.mem_singleton.mp h]; simp
  obtain ⟨vsR, hvR⟩ : ∃ vsR, vs ++ [Val.ref S1.length] = vsR := ⟨_, rfl⟩
  rw [hvR] at hR hadd
  obtain ⟨S2, hS2⟩ : ∃ S2, S1 ++ [Ob.lst []] = S2 := ⟨_, rfl⟩
  rw [hS2] at hR
  have hbx := box_rows (f := fun v S => (((bltV .list [dr S v]).bind fun v => .ok (v, S)).bind fun p => (boxO p.1).bind fun o => .ok (Val.ref p.2.length, p.2 ++ [o])).bind fun r => .ok (some r.1, r.2)) (fun n r S hn hp => by
    have hd : dr S (.ref n) = .lst r := by simp [dr, hn]
    have hb : bltV .list [.lst r] = .ok (.lst r) := by simp [bltV, hp]
    have hb2 : boxO (.lst r) = .ok (.lst r) := by simp [boxO, hp]
    simp only [hd, hb, hb2, bind_ok]) S2 hR fun r hr => by
      obtain ⟨s, _, rfl⟩ := List.mem_map.mp hr
      exact purs_int s
  rw [List.length_map] at hbx
  have hR3 := hR.more ((Q.map fun s => s.map Val.int).map Ob.lst)
  have k0 : 0 ≤ cellZ ns 0 % 3 := Int.emod_nonneg _ (by decide)
  have k1 : cellZ ns 0 % 3 < 3 := Int.emod_lt_of_pos _ (by decide)
  have n0 : 0 ≤ cellZ ns 2 % 40 := Int.emod_nonneg _ (by decide)
  have n1 : cellZ ns 2 % 40 < 40 := Int.emod_lt_of_pos _ (by decide)
  obtain ⟨n, hn⟩ : ∃ n : Nat, 61 + cellZ ns 2 % 40 = n := ⟨(61 + cellZ ns 2 % 40).toNat, by omega⟩
  have hrg := (ranges n).resolve_right (by omega)
  have pre : ∀ r, retV (exCs pg (call pg 9) o_law_v1 (csDrop 3 f_law_v1.body) [some (.scr ns), some (.lst vsR), none, some (.int (cellZ ns 0 % 3)), some (.lst ((List.range Q.length).map fun i => .ref (S2.length + i))), none, none, none, none, none] (S2 ++ (Q.map fun s => s.map Val.int).map Ob.lst)) = r → call pg (9 + 1) 11 [.scr ns] [] = r := by
    intro r hr
    rw [call_eq e_law_v1, if_pos (show [Val.scr ns].length = f_law_v1.np from rfl)]
    show retV (exCs pg (call pg 9) o_law_v1 f_law_v1.body [some (.scr ns), none, none, none, none, none, none, none, none, none] []) = r
    generalize (List.range Q.length).map (fun i => Val.ref (S2.length + i)) = vs3 at *
    generalize hS3 : S2 ++ (Q.map fun s => s.map Val.int).map Ob.lst = S3 at *
    generalize cut ns (some 4) (some 63) = CT at *
    unfold f_law_v1 at hr ⊢
    refine rt_nx (env' := [some (.scr ns), some (.lst vsR), none, none, none, none, none, none, none, none]) (S' := S2) (by simp [exCs, exC, evE, evS, evK, evI, evC, evO, evAnd, evOr, seqV, seqL, keepV, fresh, pur, purs, itFr, retOk, ite_ok, ite_pair, tgSet, unpSet, isB_bl, mtA, evD, itDyn, evY, evM, isMv, mvs, hsl, e1, hbx0, hadd, hS2]) ?_
    refine rt_nx (env' := [some (.scr ns), some (.lst vsR), none, some (.int (cellZ ns 0 % 3)), none, none, none, none, none, none]) (S' := S2) (by simp [exCs, exC, evE, evS, evK, evI, evC, evO, evAnd, evOr, seqV, seqL, keepV, fresh, pur, purs, itFr, retOk, ite_ok, ite_pair, tgSet, unpSet, muV, isB_bl, slV, mtA, evD, itDyn, evY, evM, isMv, mvs, c0, m0]) ?_
    exact rt_nx (env' := [some (.scr ns), some (.lst vsR), none, some (.int (cellZ ns 0 % 3)), some (.lst vs3), none, none, none, none, none]) (S' := S3) (by simp [exCs, exC, evE, evS, evK, evI, evC, evO, evAnd, evOr, seqV, seqL, keepV, fresh, pur, purs, itFr, retOk, ite_ok, ite_pair, tgSet, unpSet, muV, isB_bl, slV, mtA, evD, itDyn, evY, evM, isMv, mvs, hbx]) hr
  have hdi : ∀ (S : Sto) (i : Int), drD S (.int i) = .int i := fun _ _ => rfl
  have hdl : ∀ (S : Sto) l, dr S (.lst l) = .lst l := fun _ _ => rfl
  have hne1 : ∀ a b : Int, cmpV .ne (.int a) (.int b) = .ok (.bl (!decide (a = b))) := fun a b => by
    simp [cmpV, eqWhat, isD, dep, veq]
    by_cases h : a = b <;> simp [h]
  generalize hkd : cellZ ns 0 % 3 = kd at *
  by_cases g1 : kd = 1
  · obtain ⟨Sf, hf⟩ := put2 (ns := ns) kd (by omega) none none none none hR hQ (by omega) hQ (by omega) (by omega)
    refine ⟨Sf, pre _ ?_⟩
    generalize (List.range Q.length).map (fun i => Val.ref (S2.length + i)) = vs3 at *
    generalize hS3 : S2 ++ (Q.map fun s => s.map Val.int).map Ob.lst = S3 at *
    unfold f_law_v1 at hf ⊢
    simp only [csDrop] at hf ⊢
    exact rt_nx (by simp [exCs, exC, evE, evS, evK, evI, evC, evO, evAnd, evOr, seqV, seqL, keepV, fresh, pur, purs, itFr, retOk, ite_ok, ite_pair, tgSet, unpSet, muV, isB_bl, slV, mtA, evD, itDyn, evY, evM, isMv, mvs, hdi, hne1, g1]) hf
  · have hQp : 0 < Q.length := by omega
    have hvRl : vsR.length = Q.length := by rw [hR.len, List.length_map]
    have hpk : ∀ i : Nat, ∃ s, Q[i % Q.length]? = some s := fun i => ⟨_, List.getElem?_eq_getElem (Nat.mod_lt _ hQp)⟩
    have hb := box_many (S2 ++ (Q.map fun s => s.map Val.int).map Ob.lst) (g := fun i => ((Q[i % Q.length]?).getD []).map Val.int) (f := fun (x : Nat) S => ((((((binV BOp.mod (Val.int x) (Val.int vsR.length)).bind fun v => Res.ok (v, S)).bind fun q => (ixV (Val.lst vsR) q.fst).bind fun v => Res.ok (v, q.snd)).bind fun p => Res.ok ([p.fst], p.snd)).bind fun p => (bltV Bt.list (List.map (dr p.snd) p.fst)).bind fun v => Res.ok (v, p.snd)).bind fun p => (boxO p.fst).bind fun o => Res.ok (Val.ref (List.length p.snd), p.snd ++ [o])).bind fun r => Res.ok (some r.fst, r.snd)) (List.range n) [] (fun i T _ => by
      obtain ⟨s, hs⟩ := hpk i
      obtain ⟨m, h1, h2⟩ := (hR3.more T).get (i % Q.length) (r := s.map Val.int) (by rw [List.getElem?_map, hs]; rfl)
      have hm := mod_int i vsR.length (by omega)
      have hz : ((i : Int) % (vsR.length : Nat)) = ((i % Q.length : Nat) : Int) := by rw [hvRl]; rfl
      rw [hz] at hm
      have hix : ixV (.lst vsR) (.int ((i % Q.length : Nat) : Int)) = .ok (.ref m) := by
        show of (at' vsR ((i % Q.length : Nat) : Int)) = _
        rw [at', if_pos (Int.natCast_nonneg _), Int.toNat_natCast, h1]; rfl
      have hd : dr (S2 ++ (Q.map fun s => s.map Val.int).map Ob.lst ++ T) (.ref m) = .lst (s.map .int) := by simp only [dr, h2]
      have hb1 : bltV .list [.lst (s.map .int)] = .ok (.lst (s.map .int)) := by simp [bltV]
      have hb2 : boxO (.lst (s.map .int)) = .ok (.lst (s.map .int)) := by simp [boxO]
      simp only [hm, bind_ok, hix, List.map_cons, List.map_nil, hd, hb1, hb2, hs, Option.getD_some])
    have hPP : (List.range n).map (fun i => ((Q[i % Q.length]?).getD []).map Val.int) = ((List.range n).map (fun i => (Q[i % Q.length]?).getD [])).map fun s => s.map Val.int := by rw [List.map_map]; rfl
    rw [hPP, List.append_nil, List.length_range] at hb
    have hP2 : Ok2 ((List.range n).map (fun i => (Q[i % Q.length]?).getD [])) := fun s hs => by
      obtain ⟨i, _, rfl⟩ := List.mem_map.mp hs
      obtain ⟨t, ht⟩ := hpk i
      rw [ht]
      exact hQ t (List.mem_of_getElem? ht)
    have hPl : ((List.range n).map (fun i => (Q[i % Q.length]?).getD [])).length = n := by rw [List.length_map, List.length_range]
    generalize hP : (List.range n).map (fun i => (Q[i % Q.length]?).getD []) = P at *
    have hn2 : 61 ≤ n := by omega
    have hnP : n = P.length := hPl.symm
    have step : exC pg (call pg 9) o_law_v1 (.ite (.cmpD .ne (.var 3) (.int 1)) (.cons (.set 6 (.bin .add (.int 61) (.bin .mod (.call 3 (.cons (.var 0) (.cons (.int 2) .nil))) (.int 40)))) (.cons (.set 4 (.comp (.box (.blt .list (.cons (.ix (.var 1) (.bin .mod (.var 7) (.blt .len (.cons (.var 1) .nil)))) .nil))) 7 (.rng (.cons (.var 6) .nil)) .nil)) .nil)) .nil) [some (.scr ns), some (.lst vsR), none, some (.int kd), some (.lst ((List.range Q.length).map fun i => .ref (S2.length + i))), none, none, none, none, none] (S2 ++ (Q.map fun s => s.map Val.int).map Ob.lst) = .ok .nx [some (.scr ns), some (.lst vsR), none, some (.int kd), some (.lst ((List.range P.length).map fun i => .ref ((S2 ++ (Q.map fun s => s.map Val.int).map Ob.lst).length + i))), none, some (.int n), none, none, none] (S2 ++ (Q.map fun s => s.map Val.int).map Ob.lst ++ (P.map fun s => s.map Val.int).map Ob.lst) := by
      rw [hPl]
      generalize (List.range Q.length).map (fun i => Val.ref (S2.length + i)) = vs3 at *
      generalize hS3 : S2 ++ (Q.map fun s => s.map Val.int).map Ob.lst = S3 at *
      generalize (P.map fun s => s.map Val.int).map Ob.lst = PB at *
      generalize (List.range n).map (fun i => Val.ref (S3.length + i)) = vs4 at *
      simp [exCs, exC, evE, evS, evK, evI, evC, evO, evAnd, evOr, seqV, seqL, keepV, fresh, pur, purs, itFr, retOk, ite_ok, ite_pair, tgSet, unpSet, muV, isB_bl, slV, mtA, evD, itDyn, evY, evM, isMv, mvs, hdi, hne1, g1, c2, m2, hn, hrg, hdl, hb]
    have fin : ∀ r, retV (exCs pg (call pg 9) o_law_v1 (csDrop 4 f_law_v1.body) [some (.scr ns), some (.lst vsR), none, some (.int kd), some (.lst ((List.range P.length).map fun i => .ref ((S2 ++ (Q.map fun s => s.map Val.int).map Ob.lst).length + i))), none, some (.int n), none, none, none] (S2 ++ (Q.map fun s => s.map Val.int).map Ob.lst ++ (P.map fun s => s.map Val.int).map Ob.lst)) = r → call pg (9 + 1) 11 [.scr ns] [] = r := fun r hr => pre r (rt_nx step hr)
    by_cases g0 : kd = 0
    · have hH := rows_new (S2 ++ (Q.map fun s => s.map Val.int).map Ob.lst) (P.map fun s => s.map Val.int) []
      rw [List.append_nil, List.length_nil, Nat.add_zero, List.length_map] at hH
      obtain ⟨Sf, hf⟩ := tail2 (ns := ns) (.int kd) none none (some (.int n)) none (hR3.more ((P.map fun s => s.map Val.int).map Ob.lst)) hQ (by omega) hH (fun r hr => by
        obtain ⟨t, ht, rfl⟩ := List.mem_map.mp hr
        refine ⟨fun v hv => ?_, by have := (hP2 t ht).2; rw [List.length_map]; omega⟩
        obtain ⟨i, hi, rfl⟩ := List.mem_map.mp hv
        exact .inl ⟨i, rfl, (hP2 t ht).1 i hi⟩) (.inl (by rw [List.length_map]; omega))
      refine ⟨Sf, fin _ ?_⟩
      generalize (List.range P.length).map (fun i => Val.ref ((S2 ++ (Q.map fun s => s.map Val.int).map Ob.lst).length + i)) = vs3 at *
      generalize S2 ++ (Q.map fun s => s.map Val.int).map Ob.lst ++ (P.map fun s => s.map Val.int).map Ob.lst = S3 at *
      unfold f_law_v1 at hf ⊢
      simp only [csDrop] at hf ⊢
      exact rt_nx (by simp [exCs, exC, evE, evS, evK, evI, evC, evO, evAnd, evOr, seqV, seqL, keepV, fresh, pur, purs, itFr, retOk, ite_ok, ite_pair, tgSet, unpSet, muV, isB_bl, slV, mtA, evD, itDyn, evY, evM, isMv, mvs, hdi, hne1, g0]) hf
    · obtain ⟨Sf, hf⟩ := put2 (ns := ns) kd g0 none none (some (.int n)) none hR3 hQ (by omega) hP2 (by omega) (by omega)
      exact ⟨Sf, fin _ hf⟩

end Ev
/-! Snd1: what a value stands for in the abstract heap; frames. -/
namespace Ev
open PySem PySem.Spec PyProof.Rows L2

/-- what never changes -/
def immut : HO → Prop
  | .tup _ => True
  | .frz _ _ => True
  | _ => False

def keyV : L2.Key → Val
  | .inl i => .int i
  | .inr s => .str s
-- a value at the heap H: F are the addresses of the lists, dicts and sets within
mutual
inductive Rep (K : PySem.W.Frag) (w : World) (H : Hp) (r : List Addr) : Val → V → List Addr → Prop
  | non : Rep K w H r .non .non []
  | bl (b : Bool) : Rep K w H r (.bl b) (.bl b) []
  | int (i : Int) : Rep K w H r (.int i) (.int i) []
  | str (s : Str) : Rep K w H r (.str s) (.str s) []
  | tup {a : Addr} {vs : List V} {xs : List Val} {F : List Addr} : H a = some (.tup vs) → RepL K w H r xs vs F → Rep K w H r (.tup xs) (.ref a) F
  | lst {a : Addr} {vs : List V} {xs : List Val} {F : List Addr} : H a = some (.lst vs) → RepL K w H r xs vs F → Rep K w H r (.lst xs) (.ref a) (a :: F)
  | scr {a : Addr} {ks : List Int} : (∀ H' : Hp, (∀ b o, H b = some o → immut o → H' b = some o) → SqL K H' a (ks.map V.int)) → Rep K w H r (.scr ks) (.ref a) []
  | scrL {a : Addr} {ks : List Int} : H a = some (.lst (ks.map V.int)) → Rep K w H r (.scr ks) (.ref a) [a]
  | dicK {a : Addr} {qs : List (L2.Key × V)} {kvs : List (Val × Val)} : H a = some (.dK qs) → RepK K w H r kvs qs → Rep K w H r (.dic false kvs) (.ref a) [a]
  | dicT {a : Addr} {qs : List (List L2.Key × V)} {kvs : List (Val × Val)} : H a = some (.dT qs) → RepT K w H r kvs qs → Rep K w H r (.dic true kvs) (.ref a) [a]
  | set {a : Addr} {ks : List Int} : ks.Nodup → H a = some (SetO w a (fun k => decide (k ∈ ks)) ks.length) → Rep K w H r (.set ks) (.ref a) [a]
  | ref {n : Nat} {a : Addr} : r[n]? = some a → Rep K w H r (.ref n) (.ref a) []
inductive RepL (K : PySem.W.Frag) (w : World) (H : Hp) (r : List Addr) : List Val → List V → List Addr → Prop
  | nil : RepL K w H r [] [] []
  | cons {x : Val} {v : V} {xs : List Val} {vs : List V} {F G : List Addr} : Rep K w H r x v F → RepL K w H r xs vs G → RepL K w H r (x :: xs) (v :: vs) (F ++ G)
inductive RepK (K : PySem.W.Frag) (w : World) (H : Hp) (r : List Addr) : List (Val × Val) → List (L2.Key × V) → Prop
  | nil : RepK K w H r [] []
  | int {i : Int} {y : Val} {v : V} {kvs : List (Val × Val)} {qs : List (L2.Key × V)} : Rep K w H r y v [] → RepK K w H r kvs qs → RepK K w H r ((.int i, y) :: kvs) ((.inl i, v) :: qs)
  | str {s : Str} {y : Val} {v : V} {kvs : List (Val × Val)} {qs : List (L2.Key × V)} : Rep K w H r y v [] → RepK K w H r kvs qs → RepK K w H r ((.str s, y) :: kvs) ((.inr s, v) :: qs)
inductive RepT (K : PySem.W.Frag) (w : World) (H : Hp) (r : List Addr) : List (Val × Val) → List (List L2.Key × V) → Prop
  | nil : RepT K w H r [] []
  | cons {ks : List L2.Key} {y : Val} {v : V} {kvs : List (Val × Val)} {qs : List (List L2.Key × V)} : Rep K w H r y v [] → RepT K w H r kvs qs →
      RepT K w H r ((.tup (ks.map keyV), y) :: kvs) ((ks, v) :: qs)
end

/-- from H to H': what is at F stays, tuples stay -/
structure Kp (H H' : Hp) (F : List Addr) : Prop where
  at_ : ∀ a o, a ∈ F → H a = some o → H' a = some o
  im : ∀ a o, H a = some o → immut o → H' a = some o
theorem Kp.sub {H H' : Hp} {F G : List Addr} (k : Kp H H' F) (h : ∀ a, a ∈ G → a ∈ F) : Kp H H' G := ⟨fun a o m => k.at_ a o (h a m), k.im⟩
theorem Kp.rdT {H H' : Hp} {F : List Addr} (k : Kp H H' F) {a : Addr} {vs : List V} (h : Rd H a (.tup vs)) : Rd H' a (.tup vs) := by
  rcases h with h | ⟨o, h⟩
  · exact .inl (k.im _ _ h trivial)
  · exact .inr ⟨o, k.im _ _ h trivial⟩
theorem Kp.sqT {K : PySem.W.Frag} {H H' : Hp} {F : List Addr} (k : Kp H H' F) {a : Addr} {vs : List V} (h : SqT K H a vs) : SqT K H' a vs := by
  rcases h with h | h
  · exact .inl (k.rdT h)
  · exact .inr h
theorem Kp.rd {H H' : Hp} {F : List Addr} (k : Kp H H' F) {a : Addr} {u : HO} (ha : a ∈ F) (h : Rd H a u) : Rd H' a u := by
  rcases h with h | ⟨o, h⟩
  · exact .inl (k.at_ _ _ ha h)
  · exact .inr ⟨o, k.at_ _ _ ha h⟩

mutual
theorem Rep.keep {K : PySem.W.Frag} {w : World} {H H' : Hp} {r r' : List Addr} (hr : ∀ (n : Nat) (a : Addr), r[n]? = some a → r'[n]? = some a) : ∀ {x : Val} {v : V} {F : List Addr}, Rep K w H r x v F → Kp H H' F → Rep K w H' r' x v F
  | _, _, _, .non, _ => .non
  | _, _, _, .bl b, _ => .bl b
  | _, _, _, .int i, _ => .int i
  | _, _, _, .str s, _ => .str s
  | _, _, _, .tup h l, k => .tup (k.im _ _ h trivial) (RepL.keep hr l k)
  | _, _, _, .scr h, k => .scr fun H2 g => h H2 fun b o e i => g b o (k.im b o e i) i
  | _, _, _, .scrL h, k => .scrL (k.at_ _ _ List.mem_cons_self h)
  | _, _, _, .lst h l, k => .lst (k.at_ _ _ List.mem_cons_self h) (RepL.keep hr l (k.sub fun _ m => List.mem_cons_of_mem _ m))
  | _, _, _, .dicK h l, k => .dicK (k.at_ _ _ List.mem_cons_self h) (RepK.keep hr l (k.sub fun _ m => by cases m))
  | _, _, _, .dicT h l, k => .dicT (k.at_ _ _ List.mem_cons_self h) (RepT.keep hr l (k.sub fun _ m => by cases m))
  | _, _, _, .set n h, k => .set n (k.at_ _ _ List.mem_cons_self h)
  | _, _, _, .ref h, _ => .ref (hr _ _ h)
theorem RepL.keep {K : PySem.W.Frag} {w : World} {H H' : Hp} {r r' : List Addr} (hr : ∀ (n : Nat) (a : Addr), r[n]? = some a → r'[n]? = some a) : ∀ {xs : List Val} {vs : List V} {F : List Addr}, RepL K w H r xs vs F → Kp H H' F → RepL K w H' r' xs vs F
  | _, _, _, .nil, _ => .nil
  | _, _, _, .cons h l, k => .cons (Rep.keep hr h (k.sub fun _ m => List.mem_append_left _ m)) (RepL.keep hr l (k.sub fun _ m => List.mem_append_right _ m))
theorem RepK.keep {K : PySem.W.Frag} {w : World} {H H' : Hp} {r r' : List Addr} (hr : ∀ (n : Nat) (a : Addr), r[n]? = some a → r'[n]? = some a) : ∀ {xs : List (Val × Val)} {vs : List (L2.Key × V)}, RepK K w H r xs vs → Kp H H' [] → RepK K w H' r' xs vs
  | _, _, .nil, _ => .nil
  | _, _, .int h l, k => .int (Rep.keep hr h k) (RepK.keep hr l k)
  | _, _, .str h l, k => .str (Rep.keep hr h k) (RepK.keep hr l k)
theorem RepT.keep {K : PySem.W.Frag} {w : World} {H H' : Hp} {r r' : List Addr} (hr : ∀ (n : Nat) (a : Addr), r[n]? = some a → r'[n]? = some a) : ∀ {xs : List (Val × Val)} {vs : List (List L2.Key × V)}, RepT K w H r xs vs → Kp H H' [] → RepT K w H' r' xs vs
  | _, _, .nil, _ => .nil
  | _, _, .cons h l, k => .cons (Rep.keep hr h k) (RepT.keep hr l k)
end
-- a plain value has no lists within
mutual
theorem Rep.pur {K : PySem.W.Frag} {w : World} {H : Hp} {r : List Addr} : ∀ {x : Val} {v : V} {F : List Addr}, Rep K w H r x v F → Ev.pur x = true → F = []
  | _, _, _, .non, _ => rfl
  | _, _, _, .bl b, _ => rfl
  | _, _, _, .int i, _ => rfl
  | _, _, _, .str s, _ => rfl
  | _, _, _, .tup h l, p => RepL.pur l (by simpa [Ev.pur] using p)
  | _, _, _, .lst h l, p => by simp [Ev.pur] at p
  | _, _, _, .scr h, p => by simp [Ev.pur] at p
  | _, _, _, .scrL h, p => by simp [Ev.pur] at p
  | _, _, _, .dicK h l, p => by simp [Ev.pur] at p
  | _, _, _, .dicT h l, p => by simp [Ev.pur] at p
  | _, _, _, .set n h, p => by simp [Ev.pur] at p
  | _, _, _, .ref h, _ => rfl
theorem RepL.pur {K : PySem.W.Frag} {w : World} {H : Hp} {r : List Addr} : ∀ {xs : List Val} {vs : List V} {F : List Addr}, RepL K w H r xs vs F → purs xs = true → F = []
  | _, _, _, .nil, _ => rfl
  | _, _, _, .cons h l, p => by
    rw [purs, Bool.and_eq_true] at p
    rw [Rep.pur h p.1, RepL.pur l p.2]
    rfl
end
-- what is at F is tracked
mutual
theorem Rep.there {K : PySem.W.Frag} {w : World} {H : Hp} {r : List Addr} : ∀ {x : Val} {v : V} {F : List Addr}, Rep K w H r x v F → ∀ a, a ∈ F → H a ≠ none
  | _, _, _, .non, _, m => by cases m
  | _, _, _, .bl b, _, m => by cases m
  | _, _, _, .int i, _, m => by cases m
  | _, _, _, .str s, _, m => by cases m
  | _, _, _, .tup h l, a, m => RepL.there l a m
  | _, _, _, .lst h l, a, m => by
    rcases List.mem_cons.mp m with rfl | m
    · rw [h]; exact fun e => nomatch e
    · exact RepL.there l a m
  | _, _, _, .scr h, a, m => by cases m
  | _, _, _, .scrL h, a, m => by
    rcases List.mem_cons.mp m with rfl | m
    · rw [h]; exact fun e => nomatch e
    · cases m
  | _, _, _, .dicK h l, a, m => by
    rcases List.mem_cons.mp m with rfl | m
    · rw [h]; exact fun e => nomatch e
    · cases m
  | _, _, _, .dicT h l, a, m => by
    rcases List.mem_cons.mp m with rfl | m
    · rw [h]; exact fun e => nomatch e
    · cases m
  | _, _, _, .set n h, a, m => by
    rcases List.mem_cons.mp m with rfl | m
    · rw [h]; exact fun e => nomatch e
    · cases m
  | _, _, _, .ref h, _, m => by cases m
theorem RepL.there {K : PySem.W.Frag} {w : World} {H : Hp} {r : List Addr} : ∀ {xs : List Val} {vs : List V} {F : List Addr}, RepL K w H r xs vs F → ∀ a, a ∈ F → H a ≠ none
  | _, _, _, .nil, _, m => by cases m
  | _, _, _, .cons h l, a, m => (List.mem_append.mp m).elim (Rep.there h a) (RepL.there l a)
end
theorem RepL.length {K : PySem.W.Frag} {w : World} {H : Hp} {r : List Addr} : ∀ {xs : List Val} {vs : List V} {F : List Addr}, RepL K w H r xs vs F → xs.length = vs.length
  | _, _, _, .nil => rfl
  | _, _, _, .cons _ l => by rw [List.length_cons, List.length_cons, l.length]
theorem RepL.get {K : PySem.W.Frag} {w : World} {H : Hp} {r : List Addr} : ∀ {xs : List Val} {vs : List V} {F : List Addr} {i : Nat} {x : Val}, RepL K w H r xs vs F → xs[i]? = some x → ∃ v G, vs[i]? = some v ∧ Rep K w H r x v G ∧ ∀ a, a ∈ G → a ∈ F
  | _, _, _, _, _, .nil, e => by simp at e
  | _, _, _, 0, _, .cons h l, e => by
    simp at e; subst e
    exact ⟨_, _, rfl, h, fun a m => List.mem_append_left _ m⟩
  | _, _, _, i + 1, _, .cons h l, e => by
    obtain ⟨v, G, h1, h2, h3⟩ := RepL.get (i := i) l (by simpa using e)
    exact ⟨v, G, by simpa using h1, h2, fun a m => List.mem_append_right _ (h3 a m)⟩
theorem RepL.getV {K : PySem.W.Frag} {w : World} {H : Hp} {r : List Addr} {xs : List Val} {vs : List V} {F : List Addr} {i : Nat} {v : V} (h : RepL K w H r xs vs F) (e : vs[i]? = some v) : ∃ x G, xs[i]? = some x ∧ Rep K w H r x v G ∧ ∀ a, a ∈ G → a ∈ F := by
  have hl := h.length
  obtain ⟨hi, _⟩ := List.getElem?_eq_some_iff.mp e
  have e' : xs[i]? = some xs[i] := List.getElem?_eq_getElem (by omega)
  obtain ⟨v', G, h1, h2, h3⟩ := h.get e'
  rw [e] at h1; cases h1
  exact ⟨_, G, e', h2, h3⟩
theorem RepL.append {K : PySem.W.Frag} {w : World} {H : Hp} {r : List Addr} : ∀ {xs ys : List Val} {vs ws : List V} {F G : List Addr}, RepL K w H r xs vs F → RepL K w H r ys ws G → RepL K w H r (xs ++ ys) (vs ++ ws) (F ++ G)
  | _, _, _, _, _, _, .nil, s => s
  | _, _, _, _, _, _, .cons h l, s => by
    rw [List.append_assoc]
    exact .cons h (RepL.append l s)
theorem RepL.snoc {K : PySem.W.Frag} {w : World} {H : Hp} {r : List Addr} {xs : List Val} {y : Val} {vs : List V} {v : V} {F G : List Addr} (l : RepL K w H r xs vs F) (h : Rep K w H r y v G) : RepL K w H r (xs ++ [y]) (vs ++ [v]) (F ++ G) := by
  have q := l.append (.cons h .nil)
  rwa [List.append_nil] at q
end Ev

/-! SndO: classes and fields by number; dicts whose keys are tuples within tuples. -/
namespace Ev
open PySem PySem.Spec PyProof.Rows L2

def clsL : List Str := ["LoomError", "NoRest", "TooLarge", "NoLoom", "NoRibbon", "NoHole", "Taken", "Over", "NoDeed", "NoPage", "NoPaper", "Table", "Player", "Rower", "Weigher", "Follower", "Words"]
def fldL : List Str := ["loom", "opener", "taken", "hand", "row", "done", "reply", "held", "paper"]
def clsS (c : Nat) : Str := clsL.getD c ""
def fldS (f : Nat) : Str := fldL.getD f ""
def clsA (K : PySem.W.Frag) (c : Nat) : Addr := He.ga K (clsS c)
theorem fldS_ne : ∀ f, f < 9 → ∀ g, g ≠ f → fldS g ≠ fldS f := by
  have h : ∀ f, f < 9 → ∀ g, g < 9 → g ≠ f → fldS g ≠ fldS f := by decide +kernel
  have h0 : ∀ f, f < 9 → (("" : Str) ≠ fldS f) := by decide +kernel
  intro f hf g hg
  by_cases h9 : g < 9
  · exact h f hf g h9 hg
  · have : fldS g = "" := by
      unfold fldS
      rw [List.getD_eq_getElem?_getD, List.getElem?_eq_none (by show 9 ≤ g; omega)]
      rfl
    rw [this]
    exact h0 f hf
mutual
def toNK : Val → NestedKey
  | .int i => .num i
  | .str s => .text s
  | .tup xs => .tup (toNKs xs)
  | _ => .none
def toNKs : List Val → List NestedKey
  | [] => []
  | x :: xs => toNK x :: toNKs xs
end
mutual
theorem nk_depth : ∀ x : Val, (toNK x).depth ≤ dep x
  | .tup xs => by simp only [toNK, NestedKey.depth, dep]; exact Nat.succ_le_succ (nks_depth xs)
  | .non => by simp [toNK, NestedKey.depth]
  | .bl _ => by simp [toNK, NestedKey.depth]
  | .int _ => by simp [toNK, NestedKey.depth]
  | .str _ => by simp [toNK, NestedKey.depth]
  | .lst _ => by simp [toNK, NestedKey.depth]
  | .dic _ _ => by simp [toNK, NestedKey.depth]
  | .set _ => by simp [toNK, NestedKey.depth]
  | .ref _ => by simp [toNK, NestedKey.depth]
  | .exc _ => by simp [toNK, NestedKey.depth]
  | .scr _ => by simp [toNK, NestedKey.depth]
theorem nks_depth : ∀ xs : List Val, NestedKey.depthAll (toNKs xs) ≤ deps xs
  | [] => by simp [toNKs, NestedKey.depthAll]
  | x :: xs => by
    simp only [toNKs, NestedKey.depthAll, deps]
    have h1 := nk_depth x
    have h2 := nks_depth xs
    omega
end
mutual
theorem nk_eq : ∀ x y : Val, isNK x = true → isNK y = true → veq x y = NestedKey.beq (toNK x) (toNK y)
  | .int a, y, _, h => by cases y <;> first | (simp [isNK] at h; done) | (simp [veq, toNK, NestedKey.beq]; try rfl)
  | .str a, y, _, h => by cases y <;> first | (simp [isNK] at h; done) | (simp [veq, toNK, NestedKey.beq]; try rfl)
  | .tup xs, y, hx, h => by
    cases y <;> first
      | (simp [isNK] at h; done)
      | (simp only [veq, toNK, NestedKey.beq]; exact nks_eq _ _ (by simpa [isNK] using hx) (by simpa [isNK] using h))
      | (simp [veq, toNK, NestedKey.beq]; done)
  | .non, y, h, _ => by simp [isNK] at h
  | .bl _, y, h, _ => by simp [isNK] at h
  | .lst _, y, h, _ => by simp [isNK] at h
  | .dic _ _, y, h, _ => by simp [isNK] at h
  | .set _, y, h, _ => by simp [isNK] at h
  | .ref _, y, h, _ => by simp [isNK] at h
  | .exc _, y, h, _ => by simp [isNK] at h
  | .scr _, y, h, _ => by simp [isNK] at h
theorem nks_eq : ∀ xs ys : List Val, isNKs xs = true → isNKs ys = true → veqs xs ys = NestedKey.beqAll (toNKs xs) (toNKs ys)
  | [], [], _, _ => by simp [veqs, toNKs, NestedKey.beqAll]
  | [], _ :: _, _, _ => by simp [veqs, toNKs, NestedKey.beqAll]
  | _ :: _, [], _, _ => by simp [veqs, toNKs, NestedKey.beqAll]
  | x :: xs, y :: ys, hx, hy => by
    rw [isNKs, Bool.and_eq_true] at hx hy
    simp only [veqs, toNKs, NestedKey.beqAll]
    rw [nk_eq x y hx.1 hy.1, nks_eq xs ys hx.2 hy.2]
end
theorem nkey_nk {x : Val} (h : nkey x = true) : isNK x = true := by
  cases x <;> simp [nkey] at h
  simp [isNK, h.1]
theorem nkey_depth {x : Val} (h : nkey x = true) : (toNK x).depth ≤ 8 := by
  refine Nat.le_trans (nk_depth x) ?_
  cases x <;> simp [nkey] at h
  simp only [dep]
  omega
theorem nkey_eq {x y : Val} (hx : nkey x = true) (hy : nkey y = true) : veq x y = decide (toNK x = toNK y) := by
  rw [nk_eq x y (nkey_nk hx) (nkey_nk hy), NestedKey.decide_eq]

/-- such a dict: its keys, where they stand, its values -/
def NdR (w : World) (h : Heap) (d : Addr) (xs : List (NestedKey × Addr × V)) : Prop := (d == sysModules) = false ∧ xs.length ≤ sizeLine ∧ ∃ us : List (NestedKey × Addr × Value), Paired (fun p q => p.1 = q.1 ∧ p.2.1 = q.2.1 ∧ RelV p.2.2 q.2.2) xs us ∧
  ∃ o es ep, h.get? d = some o ∧ o.ExactDict ∧ o.data = .dict es ep ∧ es.toList = us.map (fun x => ⟨NestedKey.hash w x.1, .ref x.2.1, x.2.2⟩) ∧ (us.map (·.1)).Nodup
def NdO (w : World) (d : Addr) (xs : List (NestedKey × Addr × V)) : HO := .ext fun h => NdR w h d xs
theorem NdR.at {w : World} {h h' : Heap} {d : Addr} {xs : List (NestedKey × Addr × V)} (x : NdR w h d xs) (k : ∀ o, h.get? d = some o → h'.get? d = some o) : NdR w h' d xs := by
  obtain ⟨h1, h2, us, p, o, es, ep, e, r⟩ := x
  exact ⟨h1, h2, us, p, o, es, ep, k o e, r⟩
theorem ndO_ok {P : Program} {w : World} {H : Hp} {h : Heap} {d : Addr} {xs : List (NestedKey × Addr × V)} (x : NdR w h d xs) : ObjOk P w H h d (NdO w d xs) := by
  have ⟨_, _, _, _, o, _, _, e, _⟩ := x
  exact ⟨x, ⟨o, e⟩, fun h1 h2 p k => NdR.at p k⟩
end Ev

namespace Ev
open PySem PySem.Spec PyProof.Rows L2

/-! ### the store; steps -/
def RepF (K : PySem.W.Frag) (w : World) (H : Hp) (r : List Addr) : List (Nat × Val) → List (Str × V) → Prop
  | [], [] => True
  | (f, x) :: fs, (g, v) :: qs => g = fldS f ∧ f < 9 ∧ Rep K w H r x v [] ∧ RepF K w H r fs qs
  | _, _ => False
def RepN (K : PySem.W.Frag) (w : World) (H : Hp) (r : List Addr) : List (Val × Val) → List (NestedKey × Addr × V) → Prop
  | [], [] => True
  | (k, y) :: kvs, (n, b, v) :: xs => n = toNK k ∧ nkey k = true ∧ Rep K w H r k (.ref b) [] ∧ Rep K w H r y v [] ∧ RepN K w H r kvs xs
  | _, _ => False
/-- a caught exception of an own class -/
def ExO (K : PySem.W.Frag) (c : Nat) (a : Addr) : HO := .ext fun h => ∃ oe, h.get? a = some oe ∧ oe.cls = .ref (clsA K c) ∧ oe.dict = none ∧ ∃ vs, oe.data = .fields vs ∧ vs[2]? = some .none
def RepOb (K : PySem.W.Frag) (w : World) (H : Hp) (r : List Addr) : Ob → Addr → Prop
  | .lst xs, a => ∃ vs, H a = some (.lst vs) ∧ RepL K w H r xs vs []
  | .dic t kvs, a => (t = false ∧ ∃ qs, H a = some (.dK qs) ∧ RepK K w H r kvs qs) ∨ (t = true ∧ ∃ qs, H a = some (.dT qs) ∧ RepT K w H r kvs qs)
  | .ins c fs, a => ∃ dx qs, H a = some (.ins (clsA K c) dx qs) ∧ H dx = some (.own a) ∧ RepF K w H r fs qs
  | .dicN kvs, a => ∃ xs, H a = some (NdO w a xs) ∧ RepN K w H r kvs xs
  | .xo c, a => H a = some (ExO K c a)
section
variable {K : PySem.W.Frag} {w : World} {H H' : Hp} {r r' : List Addr}
theorem RepF.keep (hr : ∀ (n : Nat) (a : Addr), r[n]? = some a → r'[n]? = some a) (k : Kp H H' []) : ∀ {fs : List (Nat × Val)} {qs : List (Str × V)}, RepF K w H r fs qs → RepF K w H' r' fs qs
  | [], [], _ => trivial
  | (_, _) :: _, (_, _) :: _, ⟨h1, h0, h2, h3⟩ => ⟨h1, h0, h2.keep hr k, RepF.keep hr k h3⟩
  | [], _ :: _, h => h.elim
  | _ :: _, [], h => h.elim
theorem RepN.keep (hr : ∀ (n : Nat) (a : Addr), r[n]? = some a → r'[n]? = some a) (k : Kp H H' []) : ∀ {fs : List (Val × Val)} {qs : List (NestedKey × Addr × V)}, RepN K w H r fs qs → RepN K w H' r' fs qs
  | [], [], _ => trivial
  | (_, _) :: _, (_, _, _) :: _, ⟨h1, h2, h3, h4, h5⟩ => ⟨h1, h2, h3.keep hr k, h4.keep hr k, RepN.keep hr k h5⟩
  | [], _ :: _, h => h.elim
  | _ :: _, [], h => h.elim
theorem RepOb.keep {o : Ob} {a : Addr} (h : RepOb K w H r o a) (hr : ∀ (n : Nat) (a : Addr), r[n]? = some a → r'[n]? = some a) (ka : ∀ u, H a = some u → H' a = some u) (ko : ∀ b, H b = some (.own a) → H' b = some (.own a)) (kp : Kp H H' []) : RepOb K w H' r' o a := by
  cases o with
  | lst xs => obtain ⟨vs, h1, h2⟩ := h; exact ⟨vs, ka _ h1, h2.keep hr kp⟩
  | dic t kvs =>
    rcases h with ⟨ht, qs, h1, h2⟩ | ⟨ht, qs, h1, h2⟩
    · exact .inl ⟨ht, qs, ka _ h1, h2.keep hr kp⟩
    · exact .inr ⟨ht, qs, ka _ h1, h2.keep hr kp⟩
  | ins c fs => obtain ⟨dx, qs, h1, h2, h3⟩ := h; exact ⟨dx, qs, ka _ h1, ko _ h2, h3.keep hr kp⟩
  | dicN kvs => obtain ⟨xs, h1, h2⟩ := h; exact ⟨xs, ka _ h1, h2.keep hr kp⟩
  | xo c => exact ka _ h
theorem RepOb.there {o : Ob} {a : Addr} (h : RepOb K w H r o a) : H a ≠ none := by
  cases o with
  | lst xs => obtain ⟨vs, h1, _⟩ := h; rw [h1]; exact fun z => nomatch z
  | dic t kvs => rcases h with ⟨_, qs, h1, _⟩ | ⟨_, qs, h1, _⟩ <;> rw [h1] <;> exact fun z => nomatch z
  | ins c fs => obtain ⟨_, _, h1, _⟩ := h; rw [h1]; exact fun z => nomatch z
  | dicN kvs => obtain ⟨_, h1, _⟩ := h; rw [h1]; exact fun z => nomatch z
  | xo c => intro e; have h : H a = some (ExO K c a) := h; rw [h] at e; cases e
/-- what stands in the store may be written -/
theorem RepOb.mut {o : Ob} {a : Addr} (h : RepOb K w H r o a) : ∃ u, H a = some u ∧ ¬immut u ∧ ∀ x, u ≠ .own x := by
  cases o with
  | lst xs => obtain ⟨vs, h1, _⟩ := h; exact ⟨_, h1, fun z => z, fun x z => nomatch z⟩
  | dic t kvs => rcases h with ⟨_, qs, h1, _⟩ | ⟨_, qs, h1, _⟩ <;> exact ⟨_, h1, fun z => z, fun x z => nomatch z⟩
  | ins c fs => obtain ⟨_, _, h1, _⟩ := h; exact ⟨_, h1, fun z => z, fun x z => nomatch z⟩
  | dicN kvs => obtain ⟨_, h1, _⟩ := h; exact ⟨_, h1, fun z => z, fun x z => nomatch z⟩
  | xo c => exact ⟨_, h, fun z => z, fun x z => nomatch z⟩
end
structure RSto (K : PySem.W.Frag) (w : World) (H : Hp) (r : List Addr) (S : Sto) : Prop where
  len : S.length = r.length
  nd : r.Nodup
  at_ : ∀ (n : Nat) (o : Ob), S[n]? = some o → ∃ a, r[n]? = some a ∧ RepOb K w H r o a
/-- a step of an expression -/
structure Stp (H H' : Hp) (r r' : List Addr) : Prop where
  keep : ∀ b o, H b = some o → b ∉ r → H' b = some o
  there : ∀ b, H b ≠ none → H' b ≠ none
  im : ∀ a o, H a = some o → immut o → H' a = some o
  ext : ∃ more, r' = r ++ more ∧ ∀ a, a ∈ more → H a = none
theorem Stp.same {H H' : Hp} {r : List Addr} (h : Same H H') : Stp H H' r r :=
  ⟨fun b o e _ => h b o e, fun b e => by
    cases q : H b with
    | none => exact absurd q e
    | some o => (rw [h b o q]; exact (fun z => nomatch z)), fun a o e _ => h a o e, ⟨[], by simp, by simp⟩⟩
theorem Stp.refl {H : Hp} {r : List Addr} : Stp H H r r := .same (Same.refl H)
theorem Stp.sub {H H' : Hp} {r r' : List Addr} (s : Stp H H' r r') (n : Nat) (a : Addr) (h : r[n]? = some a) : r'[n]? = some a := by
  obtain ⟨more, e, _⟩ := s.ext
  rw [e, List.getElem?_append_left (List.getElem?_eq_some_iff.mp h).1]
  exact h
theorem Stp.mem {H H' : Hp} {r r' : List Addr} (s : Stp H H' r r') {a : Addr} (h : a ∈ r) : a ∈ r' := by
  obtain ⟨more, e, _⟩ := s.ext
  rw [e]; exact List.mem_append_left _ h
theorem Stp.back {H H' : Hp} {r r' : List Addr} (s : Stp H H' r r') {a : Addr} (h : a ∈ r') (e : H a ≠ none) : a ∈ r := by
  obtain ⟨more, q, f⟩ := s.ext
  rw [q] at h
  rcases List.mem_append.mp h with m | m
  · exact m
  · exact absurd (f a m) e
theorem Stp.trans {H H1 H2 : Hp} {r r1 r2 : List Addr} (s : Stp H H1 r r1) (t : Stp H1 H2 r1 r2) : Stp H H2 r r2 where
  keep := fun b o e n => t.keep b o (s.keep b o e n) fun m => n (s.back m (by rw [e]; exact fun z => nomatch z))
  there := fun b e => t.there b (s.there b e)
  im := fun a o e i => t.im a o (s.im a o e i) i
  ext := by
    obtain ⟨m1, e1, f1⟩ := s.ext
    obtain ⟨m2, e2, f2⟩ := t.ext
    refine ⟨m1 ++ m2, by rw [e2, e1, List.append_assoc], fun a m => ?_⟩
    rcases List.mem_append.mp m with m | m
    · exact f1 a m
    · cases q : H a with
      | none => rfl
      | some o => exact absurd (f2 a m) (s.there a (by rw [q]; exact fun z => nomatch z))
theorem Stp.kp {H H' : Hp} {r r' F : List Addr} (s : Stp H H' r r') (h : ∀ a, a ∈ F → a ∉ r) : Kp H H' F := ⟨fun a o m e => s.keep a o e (h a m), s.im⟩
section
variable {K : PySem.W.Frag} {w : World} {H H' : Hp} {r r' : List Addr}
theorem Rep.step {x : Val} {v : V} {F : List Addr} (h : Rep K w H r x v F) (n : ∀ a, a ∈ F → a ∉ r) (s : Stp H H' r r') : Rep K w H' r' x v F := h.keep s.sub (s.kp n)
theorem RepL.step {x : List Val} {v : List V} {F : List Addr} (h : RepL K w H r x v F) (n : ∀ a, a ∈ F → a ∉ r) (s : Stp H H' r r') : RepL K w H' r' x v F := h.keep s.sub (s.kp n)
/-- footprints stay off the store -/
theorem Stp.off {F : List Addr} (s : Stp H H' r r') (t : ∀ a, a ∈ F → H a ≠ none) (n : ∀ a, a ∈ F → a ∉ r) : ∀ a, a ∈ F → a ∉ r' := fun a m z => n a m (s.back z (t a m))
theorem RSto.same {S : Sto} (h : RSto K w H r S) (e : Same H H') : RSto K w H' r S :=
  ⟨h.len, h.nd, fun n o q => by
    obtain ⟨a, ha, ob⟩ := h.at_ n o q
    exact ⟨a, ha, ob.keep (fun _ _ z => z) (fun u => e a u) (fun b => e b _) ⟨fun a o m => (by cases m), fun a o q _ => e a o q⟩⟩⟩
theorem RSto.there {S : Sto} (h : RSto K w H r S) {a : Addr} (m : a ∈ r) : H a ≠ none := by
  obtain ⟨n, hn, e⟩ := List.getElem_of_mem m
  have hs : n < S.length := by rw [h.len]; exact hn
  obtain ⟨b, hb, ob⟩ := h.at_ n S[n] (List.getElem?_eq_getElem hs)
  rw [List.getElem?_eq_getElem hn] at hb
  have : b = a := by rw [← e]; exact (Option.some.inj hb).symm
  subst this
  exact ob.there
theorem RSto.get {S : Sto} (h : RSto K w H r S) {n : Nat} {a : Addr} {o : Ob} (hr : r[n]? = some a) (hs : S[n]? = some o) : RepOb K w H r o a := by
  obtain ⟨b, hb, ob⟩ := h.at_ n o hs
  rw [hr] at hb
  cases hb
  exact ob
/-- a value as it is read: a list of the store by its items -/
theorem Rep.dr {S : Sto} {x : Val} {v : V} {F : List Addr} (h : Rep K w H r x v F) (st : RSto K w H r S) : ∃ G, Rep K w H r (Ev.dr S x) v G := by
  cases h with
  | ref e =>
    rename_i n a
    show ∃ G, Rep K w H r (Ev.dr S (.ref n)) (.ref a) G
    have hn : n < S.length := by rw [st.len]; exact (List.getElem?_eq_some_iff.mp e).1
    obtain ⟨b, hb, ob⟩ := st.at_ n S[n] (List.getElem?_eq_getElem hn)
    rw [e] at hb
    obtain rfl : a = b := Option.some.inj hb
    unfold Ev.dr
    simp only [List.getElem?_eq_getElem hn]
    cases o : S[n] with
    | lst xs => rw [o] at ob; obtain ⟨vs, h1, h2⟩ := ob; exact ⟨_, .lst h1 h2⟩
    | dic t kvs => rw [o] at ob; rcases ob with ⟨ht, qs, h1, h2⟩ | ⟨ht, qs, h1, h2⟩ <;> subst ht; exact ⟨_, .dicK h1 h2⟩; exact ⟨_, .dicT h1 h2⟩
    | ins c fs => exact ⟨_, .ref e⟩
    | dicN kvs => exact ⟨_, .ref e⟩
    | xo c => exact ⟨_, .ref e⟩
  | non => exact ⟨_, .non⟩
  | bl b => exact ⟨_, .bl b⟩
  | int i => exact ⟨_, .int i⟩
  | str s => exact ⟨_, .str s⟩
  | tup a b => exact ⟨_, .tup a b⟩
  | lst a b => exact ⟨_, .lst a b⟩
  | scr a => exact ⟨_, .scr a⟩
  | scrL a => exact ⟨_, .scrL a⟩
  | dicK a b => exact ⟨_, .dicK a b⟩
  | dicT a b => exact ⟨_, .dicT a b⟩
  | set a b => exact ⟨_, .set a b⟩
end

/-! ### a new value -/
def New (K : PySem.W.Frag) (w : World) (H H' : Hp) (r : List Addr) (x : Val) (v : V) : Prop :=
  ∃ F, Rep K w H' r x v F ∧ F.Nodup ∧ (∀ a, a ∈ F → H a = none) ∧ Same H H'
theorem same_upd {H : Hp} {p : Addr} {o : HO} (h : H p = none) : Same H (upd H p o) := fun b u e => by
  rw [upd_ne (ne_of_none e h)]; exact e
section
variable {K : PySem.W.Frag} {w : World} {H : Hp} {r : List Addr}
theorem New.non : New K w H H r .non .non := ⟨[], .non, List.nodup_nil, by simp, Same.refl H⟩
theorem New.bl (b : Bool) : New K w H H r (.bl b) (.bl b) := ⟨[], .bl b, List.nodup_nil, by simp, Same.refl H⟩
theorem New.int (i : Int) : New K w H H r (.int i) (.int i) := ⟨[], .int i, List.nodup_nil, by simp, Same.refl H⟩
theorem New.str (i : Str) : New K w H H r (.str i) (.str i) := ⟨[], .str i, List.nodup_nil, by simp, Same.refl H⟩
/-- a new list, a new tuple of plain items -/
theorem New.lst {p : Addr} {xs : List Val} {vs : List V} (h : H p = none) (l : RepL K w H r xs vs []) : New K w H (upd H p (.lst vs)) r (.lst xs) (.ref p) := by
  refine ⟨[p], .lst upd_same (l.keep (fun _ _ z => z) ⟨fun a o m => (by cases m), fun a o q _ => same_upd h a o q⟩), List.nodup_cons.mpr ⟨by simp, List.nodup_nil⟩, fun a m => ?_, same_upd h⟩
  rcases List.mem_cons.mp m with rfl | m
  · exact h
  · cases m
theorem New.tup {p : Addr} {xs : List Val} {vs : List V} (h : H p = none) (l : RepL K w H r xs vs []) : New K w H (upd H p (.tup vs)) r (.tup xs) (.ref p) :=
  ⟨[], .tup upd_same (l.keep (fun _ _ z => z) ⟨fun a o m => (by cases m), fun a o q _ => same_upd h a o q⟩), List.nodup_nil, by simp, same_upd h⟩
/-- an old plain value -/
theorem New.old {x : Val} {v : V} (h : Rep K w H r x v []) : New K w H H r x v := ⟨[], h, List.nodup_nil, by simp, Same.refl H⟩
theorem Rep.plain {x : Val} {v : V} {F : List Addr} (h : Rep K w H r x v F) (p : Ev.pur x = true) : Rep K w H r x v [] := by
  have e := h.pur p
  rwa [e] at h
theorem RepL.plain {x : List Val} {v : List V} {F : List Addr} (h : RepL K w H r x v F) (p : purs x = true) : RepL K w H r x v [] := by
  have e := h.pur p
  rwa [e] at h

/-! ### read as data -/
mutual
theorem Rep.dp : ∀ {x : Val} {v : V} {F : List Addr}, Rep K w H r x v F → isD x = true → Dp K H v (toD x)
  | _, _, _, .non, _ => .non
  | _, _, _, .bl b, _ => .bl b
  | _, _, _, .int i, _ => .int i
  | _, _, _, .str s, _ => .str s
  | _, _, _, .tup h l, d => .tup (.of h) (RepL.dp l (by simpa [isD] using d))
  | _, _, _, .lst h l, d => .lst (.of h) (RepL.dp l (by simpa [isD] using d))
  | _, _, _, .scr h, d => by simp [isD] at d
  | _, _, _, .scrL h, d => by simp [isD] at d
  | _, _, _, .dicK h l, d => by simp [isD] at d
  | _, _, _, .dicT h l, d => by simp [isD] at d
  | _, _, _, .set n h, d => by simp [isD] at d
  | _, _, _, .ref h, d => by simp [isD] at d
theorem RepL.dp : ∀ {xs : List Val} {vs : List V} {F : List Addr}, RepL K w H r xs vs F → isDs xs = true → DpAll K H vs (toDs xs)
  | _, _, _, .nil, _ => .nil
  | _, _, _, .cons h l, d => by
    rw [isDs, Bool.and_eq_true] at d
    exact .cons (Rep.dp h d.1) (RepL.dp l d.2)
end
end
mutual
theorem eqv_toD : ∀ (x y : Val), isD x = true → isD y = true → PyData.eqv (toD x) (toD y) = veq x y
  | .non, y, _, h => by cases y <;> first | rfl | simp [isD] at h
  | .bl a, y, _, h => by cases y <;> first | rfl | simp [isD] at h
  | .int a, y, _, h => by cases y <;> first | rfl | simp [isD] at h
  | .str a, y, _, h => by cases y <;> first | rfl | simp [isD] at h
  | .tup xs, y, hx, h => by
    cases y <;> first
      | (simp only [toD, PyData.eqv, veq]; exact eqvs_toD _ _ (by simpa [isD] using hx) (by simpa [isD] using h))
      | (simp [toD, PyData.eqv, veq]; done)
      | simp [isD] at h
  | .lst xs, y, hx, h => by
    cases y <;> first
      | (simp only [toD, PyData.eqv, veq]; exact eqvs_toD _ _ (by simpa [isD] using hx) (by simpa [isD] using h))
      | (simp [toD, PyData.eqv, veq]; done)
      | simp [isD] at h
  | .dic _ _, _, h, _ => by simp [isD] at h
  | .set _, _, h, _ => by simp [isD] at h
  | .ref _, _, h, _ => by simp [isD] at h
  | .exc _, _, h, _ => by simp [isD] at h
  | .scr _, _, h, _ => by simp [isD] at h
theorem eqvs_toD : ∀ (xs ys : List Val), isDs xs = true → isDs ys = true → PyData.eqvAll (toDs xs) (toDs ys) = veqs xs ys
  | [], [], _, _ => by simp [toDs, PyData.eqvAll, veqs]
  | [], y :: ys, _, _ => by simp [toDs, PyData.eqvAll, veqs]
  | x :: xs, [], _, _ => by simp [toDs, PyData.eqvAll, veqs]
  | x :: xs, y :: ys, hx, hy => by
    rw [isDs, Bool.and_eq_true] at hx hy
    simp only [toDs, PyData.eqvAll, veqs]
    rw [eqv_toD x y hx.1 hy.1, eqvs_toD xs ys hx.2 hy.2]
end
mutual
theorem lay_toD : ∀ x : Val, isD x = true → (toD x).canLay0 = true
  | .non, _ => by simp [toD, PyData.canLay0]
  | .bl _, _ => by simp [toD, PyData.canLay0]
  | .int _, _ => by simp [toD, PyData.canLay0]
  | .str _, h => by simp only [toD, PyData.canLay0]; simpa [isD] using h
  | .tup xs, h => by simp only [toD, PyData.canLay0]; exact lays_toD xs (by simpa [isD] using h)
  | .lst xs, h => by simp only [toD, PyData.canLay0]; exact lays_toD xs (by simpa [isD] using h)
  | .dic _ _, h => by simp [isD] at h
  | .set _, h => by simp [isD] at h
  | .ref _, h => by simp [isD] at h
  | .exc _, h => by simp [isD] at h
  | .scr _, h => by simp [isD] at h
theorem lays_toD : ∀ xs : List Val, isDs xs = true → PyData.canLayAll0 (toDs xs) = true
  | [], _ => by simp [toDs, PyData.canLayAll0]
  | x :: xs, h => by
    rw [isDs, Bool.and_eq_true] at h
    simp [toDs, PyData.canLayAll0, lay_toD x h.1, lays_toD xs h.2]
end
mutual
theorem dep_toD : ∀ x : Val, (toD x).depth ≤ dep x
  | .non => by simp [toD, PyData.depth]
  | .bl _ => by simp [toD, PyData.depth]
  | .int _ => by simp [toD, PyData.depth]
  | .str _ => by simp [toD, PyData.depth]
  | .tup xs => by simp only [toD, PyData.depth, dep]; exact Nat.succ_le_succ (deps_toD xs)
  | .lst xs => by simp only [toD, PyData.depth, dep]; exact Nat.succ_le_succ (deps_toD xs)
  | .dic _ _ => by simp [toD, PyData.depth]
  | .set _ => by simp [toD, PyData.depth]
  | .ref _ => by simp [toD, PyData.depth]
  | .exc _ => by simp [toD, PyData.depth]
  | .scr _ => by simp [toD, PyData.depth]
theorem deps_toD : ∀ xs : List Val, PyData.depthAll (toDs xs) ≤ deps xs
  | [] => by simp [toDs, PyData.depthAll]
  | x :: xs => by
    simp only [toDs, PyData.depthAll, deps]
    have h1 := dep_toD x
    have h2 := deps_toD xs
    omega
end
theorem anyEq_toD (a : Val) (ha : isD a = true) : ∀ xs : List Val, isDs xs = true → ((toDs xs).any fun z => PyData.eqv z (toD a)) = xs.any fun x => veq x a
  | [], _ => rfl
  | x :: xs, h => by
    rw [isDs, Bool.and_eq_true] at h
    simp only [toDs, List.any_cons]
    rw [eqv_toD x a h.1 ha, anyEq_toD a ha xs h.2]
end Ev

/-! Snd3: operators by values. -/
namespace Ev
open PySem PySem.Spec PyProof.Rows L2

theorem guard_ok {α : Type} {b : Bool} {r : Res α} {a : α} (h : guard' b r = .ok a) : b = true ∧ r = .ok a := by
  unfold guard' at h
  split at h
  · exact ⟨by assumption, h⟩
  · cases h
theorem bind_ok' {α β : Type} {r : Res α} {f : α → Res β} {b : β} (h : r.bind f = .ok b) : ∃ a, r = .ok a ∧ f a = .ok b := by
  cases r with
  | ok a => exact ⟨a, rfl, h⟩
  | exc c S => cases h
  | stuck => cases h
theorem of_ok {α : Type} {o : Option α} {a : α} (h : of o = .ok a) : o = some a := by
  cases o with
  | none => cases h
  | some b => cases h; rfl
theorem ok_inj {α : Type} {a b : α} (h : (Res.ok a : Res α) = .ok b) : a = b := by cases h; rfl
theorem lim_line {n : Nat} (h : n ≤ LIM) : n ≤ sizeLine := Nat.le_trans h (by decide)
theorem lim_lt {n : Nat} (h : n < LIM) : n < sizeLine := Nat.lt_of_lt_of_le h (by decide)

def opOf : BOp → Operator
  | .add => .Add | .sub => .Sub | .mul => .Mult | .fdiv => .FloorDiv | .mod => .Mod | .pow => .Pow | .shr => .RShift
def cpOf : COp → CmpOp
  | .eq => .Eq | .ne => .NotEq | .lt => .Lt | .le => .LtE | .gt => .Gt | .ge => .GtE | .is_ => .Is | .isnt => .IsNot | .in_ => .In | .nin => .NotIn

/-- a two-place operation that the evaluator does by f -/
def r2V (K : PySem.W.Frag) (w : World) (f : Val → Val → Res Val) : R2 := fun x y H Q =>
  ∃ r t u p F G, Rep K w H r t x F ∧ Rep K w H r u y G ∧ f t u = .ok p ∧ ∀ v H', New K w H H' r p v → Q v H'

section
variable {X : Cx}
theorem vlst {K : PySem.W.Frag} {w : World} {H : Hp} {r : List Addr} {xs : List Val} {x : V} {F : List Addr} (h : Rep K w H r (.lst xs) x F) : ∃ a vs G, x = .ref a ∧ H a = some (.lst vs) ∧ RepL K w H r xs vs G := by
  cases h with
  | lst a b => exact ⟨_, _, _, rfl, a, b⟩
theorem vtup {K : PySem.W.Frag} {w : World} {H : Hp} {r : List Addr} {xs : List Val} {x : V} {F : List Addr} (h : Rep K w H r (.tup xs) x F) : ∃ a vs, x = .ref a ∧ H a = some (.tup vs) ∧ RepL K w H r xs vs F := by
  cases h with
  | tup a b => exact ⟨_, _, rfl, a, b⟩
theorem vscr {K : PySem.W.Frag} {w : World} {H : Hp} {r : List Addr} {ks : List Int} {x : V} {F : List Addr} (h : Rep K w H r (.scr ks) x F) : ∃ a, x = .ref a ∧ SqL K H a (ks.map V.int) := by
  cases h with
  | scr a => exact ⟨_, rfl, a H fun _ _ e _ => e⟩
  | scrL a => exact ⟨_, rfl, .of a⟩
theorem vint {K : PySem.W.Frag} {w : World} {H : Hp} {r : List Addr} {i : Int} {x : V} {F : List Addr} (h : Rep K w H r (.int i) x F) : x = .int i := by cases h; rfl
theorem vbl {K : PySem.W.Frag} {w : World} {H : Hp} {r : List Addr} {i : Bool} {x : V} {F : List Addr} (h : Rep K w H r (.bl i) x F) : x = .bl i := by cases h; rfl
theorem vstr {K : PySem.W.Frag} {w : World} {H : Hp} {r : List Addr} {i : Str} {x : V} {F : List Addr} (h : Rep K w H r (.str i) x F) : x = .str i := by cases h; rfl
theorem vnon {K : PySem.W.Frag} {w : World} {H : Hp} {r : List Addr} {x : V} {F : List Addr} (h : Rep K w H r .non x F) : x = .non := by cases h; rfl

theorem tmul_one (l : Addr) (items : Array Value) (n : Nat) (dd : Option Addr) (sl : Array (Option Value)) (u : Tok) :
    Meets (Builtin.«tuple.__mul__» ⟨[.ref l, .int 1 u], []⟩) (fun _ R s => s.heap.get? l = some { cls := .type "tuple", dict := dd, data := .seq items n, slots := sl } ∧ R (.ok (.ret (Value.ref l))) s) :=
  .of_wp fun prog w A R s h => by
    obtain ⟨hp, g, d, tk, os⟩ := s
    obtain ⟨hl, h⟩ := h
    have f1 := AutoSeq1.idx_int
    wp_walk using wpAny_loadPart' hl
    exact ⟨_, rfl, h⟩
theorem tmul_none (l : Addr) (items : Array Value) (n : Nat) (dd : Option Addr) (sl : Array (Option Value)) (u : Tok) (hne : items.isEmpty = false) :
    Meets (Builtin.«tuple.__mul__» ⟨[.ref l, .int 0 u], []⟩) (fun _ R s => s.heap.get? l = some { cls := .type "tuple", dict := dd, data := .seq items n, slots := sl } ∧
      R (.ok (.ret (Value.ref s.heap.objs.size))) { s with heap := s.heap.push { cls := Value.type "tuple", data := Data.seq #[] }, toks := s.toks }) :=
  .of_wp fun prog w A R s h => by
    obtain ⟨hp, g, d, tk, os⟩ := s
    obtain ⟨hl, h⟩ := h
    have f1 := AutoSeq1.idx_int
    wp_walk using wpAny_loadPart' hl
    exact ⟨_, rfl, h⟩
/-- t * n: once is t itself -/
theorem op_tmul {pins : List (Addr × Obj)} {s : Shared} {σ : L2.St} {H : Hp} {l : Addr} {k : Int} {xs : List V} {u : Value} {Q : VK} {y : V} (I : L2.Inv X pins σ H s) (hT : SqT X.K H l xs) (hne : xs ≠ []) (h0 : 0 ≤ k) (h2 : k ≤ 1000) (hz : xs.length ≤ 1000) (ry : RelV (.int k) u)
    (q1 : k = 1 → Q (.ref l) H) (q : ∀ p, H p = none → Q (.ref p) (upd H p (.tup (List.replicate k.toNat xs).flatten))) : wpAny (model X.prog X.w) X.A (binaryOp .Mult (.ref l) u) (EP X pins σ Q) X.xe s := by
  by_cases hk : 2 ≤ k
  · exact op_repT pins s σ H (.ref l) (.int k) (.ref l) u Q I rfl ry ⟨l, k, xs, rfl, rfl, hT, hne, hk, h2, hz, q⟩
  obtain ⟨t, rfl⟩ := ry
  obtain ⟨its, r, ⟨⟨cls, dd, data, sl⟩, ho, hc, n, hd⟩, hs⟩ := I.tuple hT
  simp only at hc hd
  subst hc hd
  have hn : its ≠ [] := fun e => hne (by
    rw [e] at r
    exact List.eq_nil_of_length_eq_zero r.length)
  have hi : its.toArray.isEmpty = false := by
    cases its with
    | nil => exact absurd rfl hn
    | cons a b => rfl
  have h01 : k = 0 ∨ k = 1 := by omega
  rcases h01 with rfl | rfl
  · refine wpAny_binaryOp_repeat_ref (T := "tuple") (U := "int") (by decide) ⟨_, ho, rfl⟩ (fun s' => typeIs_int s' 0 t) noFill_tuple_mul F.fills_int_mul F.slot_int_rmul repeat_tuple F.slot_int_index.lookup
      (call_meets F.slot_int_rmul (typeIs_int s 0 t) F.entry_int_rmul (F.args_int_rmul_2 _ _) (int_rmul_tuple 0 t l its.toArray n dd sl)
        ⟨ho, rfl, ⟨_, ho, rfl⟩, call_meets F.slot_tuple_mul ⟨_, ho, rfl⟩ F.entry_tuple_mul (F.args_tuple_mul_2 _ _) (tmul_none l its.toArray n dd sl t hi) ⟨ho, ?_⟩⟩)
    refine ⟨.ref s.heap.objs.size, _, I.laid (t' := s.toks) (o := .tup (List.replicate (0 : Int).toNat xs).flatten) (fun b ob q => Heap.get?_push_of_some _ q) (Nat.le_refl _) ?_, rfl, q _ (I.hok.fresh (Nat.le_refl _))⟩
    exact ⟨Nat.zero_le _, [], .nil, IsTup.new _ _⟩
  · refine wpAny_binaryOp_repeat_ref (T := "tuple") (U := "int") (by decide) ⟨_, ho, rfl⟩ (fun s' => typeIs_int s' 1 t) noFill_tuple_mul F.fills_int_mul F.slot_int_rmul repeat_tuple F.slot_int_index.lookup
      (call_meets F.slot_int_rmul (typeIs_int s 1 t) F.entry_int_rmul (F.args_int_rmul_2 _ _) (int_rmul_tuple 1 t l its.toArray n dd sl)
        ⟨ho, rfl, ⟨_, ho, rfl⟩, call_meets F.slot_tuple_mul ⟨_, ho, rfl⟩ F.entry_tuple_mul (F.args_tuple_mul_2 _ _) (tmul_one l its.toArray n dd sl t) ⟨ho, ?_⟩⟩)
    exact ⟨.ref l, H, I, rfl, q1 rfl⟩
theorem rep_size (x : Array Nat) : ∀ (n : Nat) (acc : Array Nat), ((List.replicate n x).foldl (· ++ ·) acc).size = acc.size + n * x.size
  | 0, acc => by simp
  | n + 1, acc => by
    rw [List.replicate_succ, List.foldl_cons, rep_size x n, Array.size_append, Nat.succ_mul]
    omega
theorem mul_text {prog : Program} {w : World} {A : Around} {E : Value → Shared → Prop} {s : Shared} {z : Str} {i : Int} {t u : Tok} {Q : Value → Shared → Prop} (g : 2 ≤ i ∧ i ≤ 1000 ∧ 1 ≤ z.length ∧ z.length ≤ 1000) (h : ∀ tk, Q (.str ⟨(List.replicate i.toNat z.cps).foldl (· ++ ·) #[]⟩ tk) { s with toks := s.toks + 1 }) :
    wpAny (model prog w) A (binaryOp .Mult (.str z t) (.int i u)) Q E s := by
  obtain ⟨g1, g2, g3, g4⟩ := g
  have hm : z.length * i.toNat ≤ 1000000 := Nat.mul_le_mul g4 (show i.toNat ≤ 1000 by omega)
  have n1 : ¬ i < 1 := by omega
  have n2 : (i == 1 || z.length == 0) = false := by
    rw [Bool.or_eq_false_iff]
    exact ⟨beq_false_of_ne (by omega), beq_false_of_ne (by omega)⟩
  refine P.mul_str ?_ (fun _ _ => ?_) (fun _ _ => ?_) ?_
  · rw [Bool.or_eq_false_iff]
    exact ⟨decide_eq_false (by omega), decide_eq_false (by omega)⟩
  · have h2 : (1000 : Int) ≤ (2 ^ 63 - 1) / i := by
      rw [Int.le_ediv_iff_mul_le (by omega)]
      omega
    omega
  · have hz : 1000000 ≤ sizeLine := by decide
    show decide (z.length * i.toNat > sizeLine) = false
    exact decide_eq_false (by omega)
  · rw [if_neg n1, if_neg (by rw [n2]; simp)]
    refine ⟨?_, h _⟩
    have := rep_size z.cps i.toNat #[]
    have h3 : (⟨(List.replicate i.toNat z.cps).foldl (· ++ ·) #[]⟩ : Str).length = i.toNat * z.length := by
      show ((List.replicate i.toNat z.cps).foldl (· ++ ·) #[]).size = _
      rw [this]; simp; rfl
    rw [h3, Nat.mul_comm]
    exact Nat.le_trans hm (by decide)
theorem op_binV (op : BOp) : OpR X (binaryOp (opOf op)) (r2V X.K X.w (binV op)) := by
  intro pins s σ H x y v u Q I rx ry h
  obtain ⟨r, t, q, p, F, G, h1, h2, hb, k⟩ := h
  have ii : ∀ {i j : Int}, t = .int i → q = .int j → x = .int i ∧ y = .int j := fun e1 e2 => by subst e1; subst e2; exact ⟨vint h1, vint h2⟩
  cases op with
  | add =>
    cases t <;> cases q <;> try (cases hb; done)
    · obtain ⟨rfl, rfl⟩ := ii rfl rfl
      exact op_add pins s σ H _ _ v u Q I rx ry ⟨_, _, rfl, rfl, k _ _ ((ok_inj hb) ▸ New.int _)⟩
    · obtain rfl := vstr h1
      obtain rfl := vstr h2
      obtain ⟨g, e⟩ := guard_ok hb
      exact op_add_str pins s σ H _ _ v u Q I rx ry ⟨_, _, rfl, rfl, lim_line (of_decide_eq_true g), k _ _ ((ok_inj e) ▸ New.str _)⟩
    · obtain ⟨g, e⟩ := guard_ok hb
      simp only [Bool.and_eq_true, decide_eq_true_eq] at g
      obtain ⟨a, vs, rfl, qa, la⟩ := vtup h1
      obtain ⟨b, ws, rfl, qb, lb⟩ := vtup h2
      have e := ok_inj e
      subst e
      refine op_catA pins s σ H _ _ v u Q I rx ry ⟨a, b, vs, ws, rfl, rfl, .of qa, .of qb, by rw [← la.length, ← lb.length]; exact lim_line g.1.1, fun e => ?_, fun _ e => ?_, fun _ _ p hp => ?_⟩
      · subst e
        cases la
        exact k _ _ (New.old (.tup qb (lb.plain g.2)))
      · subst e
        cases lb
        rw [List.append_nil] at k
        exact k _ _ (New.old (.tup qa (la.plain g.1.2)))
      · exact k _ _ (New.tup hp ((la.plain g.1.2).append (lb.plain g.2)))
    · obtain ⟨g, e⟩ := guard_ok hb
      simp only [Bool.and_eq_true, decide_eq_true_eq] at g
      obtain ⟨a, vs, Ga, rfl, qa, la⟩ := vlst h1
      obtain ⟨b, ws, Gb, rfl, qb, lb⟩ := vlst h2
      have e := ok_inj e
      subst e
      exact op_cat pins s σ H _ _ v u Q I rx ry ⟨a, b, vs, ws, rfl, rfl, qa, qb, by rw [← la.length, ← lb.length]; exact lim_line g.1.1, fun p hp => k _ _ (New.lst hp ((la.plain g.1.2).append (lb.plain g.2)))⟩
  | sub =>
    cases t <;> cases q <;> try (cases hb; done)
    obtain ⟨rfl, rfl⟩ := ii rfl rfl
    exact op_sub pins s σ H _ _ v u Q I rx ry ⟨_, _, rfl, rfl, k _ _ ((ok_inj hb) ▸ New.int _)⟩
  | mul =>
    cases t <;> cases q <;> try (cases hb; done)
    · obtain ⟨rfl, rfl⟩ := ii rfl rfl
      obtain ⟨g, e⟩ := guard_ok hb
      have g := of_decide_eq_true g
      exact op_mul pins s σ H _ _ v u Q I rx ry ⟨_, _, rfl, rfl, g, k _ _ ((ok_inj e) ▸ New.int _)⟩
    · obtain ⟨g, e⟩ := guard_ok hb
      have g := of_decide_eq_true g
      obtain rfl := vstr h1
      obtain rfl := vint h2
      have e := ok_inj e
      subst e
      obtain ⟨tk, rfl⟩ := rx
      obtain ⟨tk', rfl⟩ := ry
      rename_i z i
      exact mul_text g fun s' => ⟨.str _, H, I.tok _, ⟨_, rfl⟩, k _ _ (New.str _)⟩
    · obtain ⟨g, e⟩ := guard_ok hb
      simp only [Bool.and_eq_true, decide_eq_true_eq] at g
      obtain ⟨a, vs, rfl, qa, la⟩ := vtup h1
      obtain rfl := vint h2
      have e := ok_inj e
      subst e
      rename_i xs i
      have hl := la.length
      have rep : ∀ n : Nat, RepL X.K X.w H r (List.replicate n xs).flatten (List.replicate n vs).flatten [] := by
        intro n
        induction n with
        | zero => exact .nil
        | succ n ih =>
          rw [List.replicate_succ, List.replicate_succ, List.flatten_cons, List.flatten_cons]
          exact (la.plain g.2).append ih
      have hne : vs ≠ [] := fun e => g.1.2.2.2 (List.eq_nil_of_length_eq_zero (by rw [hl, e]; rfl))
      cases rx
      refine op_tmul (y := .int i) I (.of qa) hne g.1.1 g.1.2.1 (by omega) ry (fun e => ?_) fun p hp => k _ _ (New.tup hp (rep _))
      subst e
      have : (List.replicate (1 : Int).toNat xs).flatten = xs := by simp
      rw [this] at k
      exact k _ _ (New.old (.tup qa (la.plain g.2)))
    · obtain ⟨g, e⟩ := guard_ok hb
      simp only [Bool.and_eq_true, decide_eq_true_eq] at g
      obtain ⟨a, vs, Ga, rfl, qa, la⟩ := vlst h1
      obtain rfl := vint h2
      have e := ok_inj e
      subst e
      rename_i xs i
      have hn : i.toNat ≤ 1000 := by omega
      have hl := la.length
      have rep : ∀ n : Nat, RepL X.K X.w H r (List.replicate n xs).flatten (List.replicate n vs).flatten [] := by
        intro n
        induction n with
        | zero => exact .nil
        | succ n ih =>
          rw [List.replicate_succ, List.replicate_succ, List.flatten_cons, List.flatten_cons]
          exact (la.plain g.2).append ih
      refine op_rep pins s σ H _ _ v u Q I rx ry ⟨a, i, vs, rfl, rfl, qa, by omega, by omega, ?_, fun p hp => k _ _ (New.lst hp (rep _))⟩
      rw [← hl]
      exact Nat.le_trans (Nat.mul_le_mul g.1.2.2 hn) (by decide)
  | fdiv =>
    cases t <;> cases q <;> try (cases hb; done)
    obtain ⟨rfl, rfl⟩ := ii rfl rfl
    obtain ⟨g, e⟩ := guard_ok hb
    have g := of_decide_eq_true g
    exact op_fdiv pins s σ H _ _ v u Q I rx ry ⟨_, _, rfl, rfl, g, k _ _ ((ok_inj e) ▸ New.int _)⟩
  | mod =>
    cases t <;> cases q <;> try (cases hb; done)
    obtain ⟨rfl, rfl⟩ := ii rfl rfl
    obtain ⟨g, e⟩ := guard_ok hb
    exact op_mod pins s σ H _ _ v u Q I rx ry ⟨_, _, rfl, rfl, of_decide_eq_true g, k _ _ ((ok_inj e) ▸ New.int _)⟩
  | pow =>
    cases t <;> cases q <;> try (cases hb; done)
    obtain ⟨rfl, rfl⟩ := ii rfl rfl
    obtain ⟨g, e⟩ := guard_ok hb
    have g := of_decide_eq_true g
    exact op_pow pins s σ H _ _ v u Q I rx ry ⟨_, _, rfl, rfl, ⟨g.1, by omega, by omega⟩, k _ _ ((ok_inj e) ▸ New.int _)⟩
  | shr =>
    cases t <;> cases q <;> try (cases hb; done)
    obtain ⟨rfl, rfl⟩ := ii rfl rfl
    obtain ⟨g, e⟩ := guard_ok hb
    exact op_shr pins s σ H _ _ v u Q I rx ry ⟨_, _, rfl, rfl, of_decide_eq_true g, k _ _ ((ok_inj e) ▸ New.int _)⟩
end
end Ev

/-! Snd4: comparisons, dicts by values. -/
namespace Ev
open PySem PySem.Spec PyProof.Rows L2

/-! ### dicts -/
theorem str_beq (a b : Str) : (a == b) = decide (a = b) := by
  by_cases h : a = b
  · subst h; simp
  · rw [decide_eq_false h]; exact beq_eq_false_iff_ne.mpr h
theorem veq_keyV : ∀ (a b : L2.Key), veq (keyV a) (keyV b) = decide (a = b)
  | .inl i, .inl j => by
    show (i == j) = _
    by_cases h : i = j
    · subst h; simp
    · rw [decide_eq_false (fun e => h (Sum.inl.inj e))]; exact beq_eq_false_iff_ne.mpr h
  | .inl i, .inr s => by simp [veq, keyV]
  | .inr s, .inl i => by simp [veq, keyV]
  | .inr s, .inr t => by
    show (s == t) = _
    rw [str_beq]
    by_cases h : s = t
    · subst h; simp
    · rw [decide_eq_false h, decide_eq_false (fun e => h (Sum.inr.inj e))]
theorem veqs_keyV : ∀ (as bs : List L2.Key), veqs (as.map keyV) (bs.map keyV) = decide (as = bs)
  | [], [] => by simp [veqs]
  | [], b :: bs => by simp [veqs]
  | a :: as, [] => by simp [veqs]
  | a :: as, b :: bs => by
    rw [List.map_cons, List.map_cons, veqs, veq_keyV, veqs_keyV as bs]
    by_cases h : a = b <;> by_cases g : as = bs <;> simp [h, g]
theorem veq_keyT (as bs : List L2.Key) : veq (.tup (as.map keyV)) (.tup (bs.map keyV)) = decide (as = bs) := by
  rw [veq, veqs_keyV]
section
variable {K : PySem.W.Frag} {w : World} {H : Hp} {r : List Addr}
theorem RepK.dget (k : L2.Key) : ∀ {kvs : List (Val × Val)} {qs : List (L2.Key × V)}, RepK K w H r kvs qs →
    (Ev.dget kvs (keyV k) = none ∧ valV qs k = none) ∨ ∃ y v, Ev.dget kvs (keyV k) = some y ∧ valV qs k = some v ∧ Rep K w H r y v []
  | _, _, .nil => .inl ⟨rfl, rfl⟩
  | _, _, .int (i := i) h l => by
    have e : veq (.int i) (keyV k) = decide ((Sum.inl i : L2.Key) = k) := veq_keyV (.inl i) k
    by_cases q : (Sum.inl i : L2.Key) = k
    · refine .inr ⟨_, _, ?_, ?_, h⟩
      · simp [Ev.dget, List.find?_cons, e, q]
      · simp [valV, List.find?_cons, q]
    · have := RepK.dget k l
      simp only [Ev.dget, valV, List.find?_cons, e, decide_eq_false q] at this ⊢
      exact this
  | _, _, .str (s := s) h l => by
    have e : veq (.str s) (keyV k) = decide ((Sum.inr s : L2.Key) = k) := veq_keyV (.inr s) k
    by_cases q : (Sum.inr s : L2.Key) = k
    · refine .inr ⟨_, _, ?_, ?_, h⟩
      · simp [Ev.dget, List.find?_cons, e, q]
      · simp [valV, List.find?_cons, q]
    · have := RepK.dget k l
      simp only [Ev.dget, valV, List.find?_cons, e, decide_eq_false q] at this ⊢
      exact this
theorem RepT.dget (k : List L2.Key) : ∀ {kvs : List (Val × Val)} {qs : List (List L2.Key × V)}, RepT K w H r kvs qs →
    (Ev.dget kvs (.tup (k.map keyV)) = none ∧ valV qs k = none) ∨ ∃ y v, Ev.dget kvs (.tup (k.map keyV)) = some y ∧ valV qs k = some v ∧ Rep K w H r y v []
  | _, _, .nil => .inl ⟨rfl, rfl⟩
  | _, _, .cons (ks := ks) h l => by
    have e := veq_keyT ks k
    by_cases q : ks = k
    · have e' : veq (.tup (ks.map keyV)) (.tup (k.map keyV)) = true := by rw [e]; exact decide_eq_true q
      refine .inr ⟨_, _, ?_, ?_, h⟩
      · simp only [Ev.dget, List.find?_cons, e', Option.map_some]
      · simp [valV, List.find?_cons, q]
    · have := RepT.dget k l
      simp only [Ev.dget, valV, List.find?_cons, e, decide_eq_false q] at this ⊢
      exact this
theorem RepK.any (k : L2.Key) : ∀ {kvs : List (Val × Val)} {qs : List (L2.Key × V)}, RepK K w H r kvs qs → (kvs.any fun p => veq p.1 (keyV k)) = qs.any fun kv => decide (kv.1 = k)
  | _, _, .nil => rfl
  | _, _, .int (i := i) h l => by
    have e : veq (.int i) (keyV k) = decide ((Sum.inl i : L2.Key) = k) := veq_keyV (.inl i) k
    simp only [List.any_cons, e, RepK.any k l]
  | _, _, .str (s := s) h l => by
    have e : veq (.str s) (keyV k) = decide ((Sum.inr s : L2.Key) = k) := veq_keyV (.inr s) k
    simp only [List.any_cons, e, RepK.any k l]
theorem RepK.map (k : L2.Key) {y : Val} {v : V} (hv : Rep K w H r y v []) : ∀ {kvs : List (Val × Val)} {qs : List (L2.Key × V)}, RepK K w H r kvs qs →
    RepK K w H r (kvs.map fun p => if veq p.1 (keyV k) = true then (p.1, y) else p) (qs.map fun kv => if kv.1 = k then (kv.1, v) else kv)
  | _, _, .nil => .nil
  | _, _, .int (i := i) h l => by
    have e : veq (.int i) (keyV k) = decide ((Sum.inl i : L2.Key) = k) := veq_keyV (.inl i) k
    simp only [List.map_cons, e]
    by_cases q : (Sum.inl i : L2.Key) = k
    · rw [if_pos (decide_eq_true q), if_pos q]; exact .int hv (RepK.map k hv l)
    · rw [if_neg (by simpa using q), if_neg q]; exact .int h (RepK.map k hv l)
  | _, _, .str (s := s) h l => by
    have e : veq (.str s) (keyV k) = decide ((Sum.inr s : L2.Key) = k) := veq_keyV (.inr s) k
    simp only [List.map_cons, e]
    by_cases q : (Sum.inr s : L2.Key) = k
    · rw [if_pos (decide_eq_true q), if_pos q]; exact .str hv (RepK.map k hv l)
    · rw [if_neg (by simpa using q), if_neg q]; exact .str h (RepK.map k hv l)
theorem RepK.snoc (k : L2.Key) {y : Val} {v : V} (hv : Rep K w H r y v []) : ∀ {kvs : List (Val × Val)} {qs : List (L2.Key × V)}, RepK K w H r kvs qs → RepK K w H r (kvs ++ [(keyV k, y)]) (qs ++ [(k, v)])
  | _, _, .nil => by
    cases k with
    | inl i => exact .int hv .nil
    | inr s => exact .str hv .nil
  | _, _, .int h l => .int h (RepK.snoc k hv l)
  | _, _, .str h l => .str h (RepK.snoc k hv l)
theorem RepK.put (k : L2.Key) {y : Val} {v : V} (hv : Rep K w H r y v []) {kvs : List (Val × Val)} {qs : List (L2.Key × V)} (l : RepK K w H r kvs qs) : RepK K w H r (dput kvs (keyV k) y) (putK qs k v) := by
  unfold dput putK
  rw [l.any k]
  split
  · exact l.map k hv
  · exact l.snoc k hv
theorem RepT.any (k : List L2.Key) : ∀ {kvs : List (Val × Val)} {qs : List (List L2.Key × V)}, RepT K w H r kvs qs → (kvs.any fun p => veq p.1 (.tup (k.map keyV))) = qs.any fun kv => decide (kv.1 = k)
  | _, _, .nil => rfl
  | _, _, .cons (ks := ks) h l => by simp only [List.any_cons, veq_keyT ks k, RepT.any k l]
theorem RepT.map (k : List L2.Key) {y : Val} {v : V} (hv : Rep K w H r y v []) : ∀ {kvs : List (Val × Val)} {qs : List (List L2.Key × V)}, RepT K w H r kvs qs →
    RepT K w H r (kvs.map fun p => if veq p.1 (.tup (k.map keyV)) = true then (p.1, y) else p) (qs.map fun kv => if kv.1 = k then (kv.1, v) else kv)
  | _, _, .nil => .nil
  | _, _, .cons (ks := ks) h l => by
    simp only [List.map_cons, veq_keyT ks k]
    by_cases q : ks = k
    · rw [if_pos (decide_eq_true q), if_pos q]; exact .cons hv (RepT.map k hv l)
    · rw [if_neg (by simpa using q), if_neg q]; exact .cons h (RepT.map k hv l)
theorem RepT.snoc (k : List L2.Key) {y : Val} {v : V} (hv : Rep K w H r y v []) : ∀ {kvs : List (Val × Val)} {qs : List (List L2.Key × V)}, RepT K w H r kvs qs → RepT K w H r (kvs ++ [(.tup (k.map keyV), y)]) (qs ++ [(k, v)])
  | _, _, .nil => .cons hv .nil
  | _, _, .cons h l => .cons h (RepT.snoc k hv l)
theorem RepT.put (k : List L2.Key) {y : Val} {v : V} (hv : Rep K w H r y v []) {kvs : List (Val × Val)} {qs : List (List L2.Key × V)} (l : RepT K w H r kvs qs) : RepT K w H r (dput kvs (.tup (k.map keyV)) y) (putK qs k v) := by
  unfold dput putK
  rw [l.any k]
  split
  · exact l.map k hv
  · exact l.snoc k hv
theorem RepK.length : ∀ {kvs : List (Val × Val)} {qs : List (L2.Key × V)}, RepK K w H r kvs qs → kvs.length = qs.length
  | _, _, .nil => rfl
  | _, _, .int _ l => by rw [List.length_cons, List.length_cons, l.length]
  | _, _, .str _ l => by rw [List.length_cons, List.length_cons, l.length]
theorem RepT.length : ∀ {kvs : List (Val × Val)} {qs : List (List L2.Key × V)}, RepT K w H r kvs qs → kvs.length = qs.length
  | _, _, .nil => rfl
  | _, _, .cons _ l => by rw [List.length_cons, List.length_cons, l.length]
/-- keys -/
theorem key_false {k : Val} (h : isKey false k = true) : ∃ q, k = keyV q := by
  cases k <;> first
    | exact ⟨.inl _, rfl⟩
    | exact ⟨.inr _, rfl⟩
    | (simp [isKey] at h)
theorem keys_atoms : ∀ {xs : List Val}, xs.all isAtom = true → ∃ qs : List L2.Key, xs = qs.map keyV
  | [], _ => ⟨[], rfl⟩
  | x :: xs, h => by
    rw [List.all_cons, Bool.and_eq_true] at h
    obtain ⟨qs, e⟩ := keys_atoms h.2
    have : ∃ q, x = keyV q := by
      have h1 := h.1
      cases x <;> first
        | exact ⟨.inl _, rfl⟩
        | exact ⟨.inr _, rfl⟩
        | (simp [isAtom] at h1)
    obtain ⟨q, e1⟩ := this
    exact ⟨q :: qs, by rw [e, e1]; rfl⟩
theorem key_true {k : Val} (h : isKey true k = true) : ∃ qs : List L2.Key, k = .tup (qs.map keyV) := by
  cases k <;> first
    | (obtain ⟨qs, e⟩ := keys_atoms (show (List.all _ isAtom) = true by simpa [isKey] using h); exact ⟨qs, by rw [e]⟩)
    | (simp [isKey] at h)
theorem rep_keyV {k : L2.Key} {v : V} {F : List Addr} (h : Rep K w H r (keyV k) v F) : v = kV k := by
  cases k with
  | inl i => exact vint h
  | inr s => exact vstr h
theorem repL_keyV : ∀ {ks : List L2.Key} {vs : List V} {F : List Addr}, RepL K w H r (ks.map keyV) vs F → vs = ks.map kV
  | [], _, _, h => by cases h; rfl
  | k :: ks, _, _, h => by
    cases h with
    | cons a b => rw [rep_keyV a, repL_keyV b]; rfl
/-- what a dict holds at a key -/
theorem dgetV {t : Bool} {kvs : List (Val × Val)} {k : Val} {x y : V} {F G : List Addr} (hd : Rep K w H r (.dic t kvs) x F) (hk : Rep K w H r k y G) (ok : isKey t k = true) :
    ∃ a o, x = .ref a ∧ DGet H a y o ∧ ((Ev.dget kvs k = none ∧ o = none) ∨ ∃ z v, Ev.dget kvs k = some z ∧ o = some v ∧ Rep K w H r z v []) := by
  cases hd with
  | dicK e l =>
    obtain ⟨q, rfl⟩ := key_false ok
    obtain rfl := rep_keyV hk
    rcases l.dget q with ⟨h1, h2⟩ | ⟨z, v, h1, h2, h3⟩
    · exact ⟨_, _, rfl, h2 ▸ DGet.k (k := q) e, .inl ⟨h1, rfl⟩⟩
    · exact ⟨_, _, rfl, h2 ▸ DGet.k (k := q) e, .inr ⟨z, v, h1, rfl, h3⟩⟩
  | dicT e l =>
    obtain ⟨qs, rfl⟩ := key_true ok
    obtain ⟨b, vs, rfl, hb, lb⟩ := vtup hk
    obtain rfl := repL_keyV lb
    rcases l.dget qs with ⟨h1, h2⟩ | ⟨z, v, h1, h2, h3⟩
    · exact ⟨_, _, rfl, h2 ▸ DGet.t (k := qs) e hb, .inl ⟨h1, rfl⟩⟩
    · exact ⟨_, _, rfl, h2 ▸ DGet.t (k := qs) e hb, .inr ⟨z, v, h1, rfl, h3⟩⟩
end

/-! ### comparisons -/
section
variable {X : Cx}
theorem isnon_rep {K : PySem.W.Frag} {w : World} {H : Hp} {r : List Addr} {t : Val} {x : V} {F : List Addr} (h : Rep K w H r t x F) : decide (x = V.non) = isNon t := by
  cases h <;> first | rfl | exact decide_eq_false (fun e => nomatch e)
/-- a comparison by its answer, the other way round too -/
def rWhat (K : PySem.W.Frag) (w : World) (f : Val → Val → Res Bool) (neg : Bool) : R2 := fun x y H Q =>
  ∃ r t u b F G, Rep K w H r t x F ∧ Rep K w H r u y G ∧ f t u = .ok b ∧ Q (.bl (if neg = true then !b else b)) H
theorem op_eqWhat (hu : X.A.units + 200 < cLine) : OpR X (compareOp .Eq) (rWhat X.K X.w eqWhat false) := by
  intro pins s σ H x y v u Q I rx ry h
  obtain ⟨r, t, q, b, F, G, h1, h2, hb, k⟩ := h
  obtain ⟨g, e⟩ := guard_ok hb
  simp only [Bool.and_eq_true, decide_eq_true_eq] at g
  obtain ⟨as, r1⟩ := Dp.reads I (toD t) x v (h1.dp g.1.1) rx
  obtain ⟨bs, r2⟩ := Dp.reads I (toD q) y u (h2.dp g.1.2) ry
  have d1 := dep_toD t
  have d2 := dep_toD q
  refine SeqAt.compareEq_reads r1 r2 (lay_toD t g.1.1) (lay_toD q g.1.2) (by omega) ⟨.bl _, H, I, rfl, ?_⟩
  rw [eqv_toD t q g.1.1 g.1.2, ok_inj e]
  exact k
theorem op_neWhat (hu : X.A.units + 200 < cLine) : OpR X (compareOp .NotEq) (rWhat X.K X.w eqWhat true) := by
  intro pins s σ H x y v u Q I rx ry h
  obtain ⟨r, t, q, b, F, G, h1, h2, hb, k⟩ := h
  obtain ⟨g, e⟩ := guard_ok hb
  simp only [Bool.and_eq_true, decide_eq_true_eq] at g
  obtain ⟨as, r1⟩ := Dp.reads I (toD t) x v (h1.dp g.1.1) rx
  obtain ⟨bs, r2⟩ := Dp.reads I (toD q) y u (h2.dp g.1.2) ry
  have d1 := dep_toD t
  have d2 := dep_toD q
  refine SeqAt.compareNe_reads r1 r2 (lay_toD t g.1.1) (lay_toD q g.1.2) (by omega) ⟨.bl _, H, I, rfl, ?_⟩
  rw [eqv_toD t q g.1.1 g.1.2, ok_inj e]
  exact k
theorem op_isWhat : OpR X (compareOp .Is) (rWhat X.K X.w isWhat false) := by
  intro pins s σ H x y v u Q I rx ry h
  obtain ⟨r, t, q, b, F, G, h1, h2, hb, k⟩ := h
  cases q with
  | non =>
    obtain rfl := vnon h2
    refine op_isN pins s σ H _ _ v u Q I rx ry ⟨rfl, ?_⟩
    rw [isnon_rep h1, ok_inj hb]
    exact k
  | bl c =>
    cases t <;> try (cases hb; done)
    obtain rfl := vbl h1
    obtain rfl := vbl h2
    refine op_is_bl pins s σ H _ _ v u Q I rx ry ⟨_, _, rfl, rfl, ?_⟩
    rw [← Bool.beq_eq_decide_eq, ok_inj hb]
    exact k
  | _ => cases hb
theorem op_isntWhat : OpR X (compareOp .IsNot) (rWhat X.K X.w isWhat true) := by
  intro pins s σ H x y v u Q I rx ry h
  obtain ⟨r, t, q, b, F, G, h1, h2, hb, k⟩ := h
  cases q with
  | non =>
    obtain rfl := vnon h2
    refine op_notN pins s σ H _ _ v u Q I rx ry ⟨rfl, ?_⟩
    rw [isnon_rep h1, ok_inj hb]
    exact k
  | bl c =>
    cases t <;> try (cases hb; done)
    obtain rfl := vbl h1
    obtain rfl := vbl h2
    refine op_isnot_bl pins s σ H _ _ v u Q I rx ry ⟨_, _, rfl, rfl, ?_⟩
    rw [← Bool.beq_eq_decide_eq, ok_inj hb]
    exact k
  | _ => cases hb
theorem one_sign {a : Str} (g : a.length = 1) : ∃ c, a = ⟨#[c]⟩ := by
  obtain ⟨cps⟩ := a
  have g' : cps.size = 1 := g
  obtain ⟨l⟩ := cps
  match l, g' with
  | [c], _ => exact ⟨c, rfl⟩
theorem op_inWhat (hu : X.A.units + 200 < cLine) : OpR X (compareOp .In) (rWhat X.K X.w inWhat false) := by
  intro pins s σ H x y v u Q I rx ry h
  obtain ⟨r, t, q, b, F, G, h1, h2, hb, k⟩ := h
  cases q with
  | tup xs =>
    obtain ⟨g, e⟩ := guard_ok hb
    simp only [Bool.and_eq_true, decide_eq_true_eq] at g
    have gl : isD (.tup xs) = true := by simp only [isD]; exact g.1.2
    obtain ⟨as, r1⟩ := Dp.reads I (toD t) x v (h1.dp g.1.1) rx
    obtain ⟨bs, r2⟩ := Dp.reads I (.tuple (toDs xs)) y u (h2.dp gl) ry
    have d1 := dep_toD t
    refine SeqAt.in_tuple_reads r2 r1 (lays_toD _ g.1.2) (lay_toD t g.1.1) (by omega) ⟨.bl _, H, I, rfl, ?_⟩
    rw [anyEq_toD t g.1.1 xs g.1.2, ok_inj e]
    exact k
  | lst xs =>
    obtain ⟨g, e⟩ := guard_ok hb
    simp only [Bool.and_eq_true, decide_eq_true_eq] at g
    have gl : isD (.lst xs) = true := by simp only [isD]; exact g.1.2
    obtain ⟨as, r1⟩ := Dp.reads I (toD t) x v (h1.dp g.1.1) rx
    obtain ⟨bs, r2⟩ := Dp.reads I (.list (toDs xs)) y u (h2.dp gl) ry
    have d1 := dep_toD t
    refine SeqAt.in_list_reads r2 r1 (lays_toD _ g.1.2) (lay_toD t g.1.1) (by omega) ⟨.bl _, H, I, rfl, ?_⟩
    rw [anyEq_toD t g.1.1 xs g.1.2, ok_inj e]
    exact k
  | dic d kvs =>
    obtain ⟨g, e⟩ := guard_ok hb
    obtain ⟨a, o, rfl, dg, alt⟩ := dgetV h2 h1 g
    cases ry
    refine d_in (by omega) I dg rx fun s' I' => ⟨.bl o.isSome, H, I', rfl, ?_⟩
    have e : (Ev.dget kvs t).isSome = b := ok_inj e
    have eo : o.isSome = b := by rw [← e]; rcases alt with ⟨h1, h2⟩ | ⟨z, v', h1, h2, _⟩ <;> rw [h1, h2] <;> rfl
    rw [eo]
    exact k
  | str z =>
    cases t <;> try (cases hb; done)
    obtain ⟨g, e⟩ := guard_ok hb
    obtain rfl := vstr h1
    obtain rfl := vstr h2
    obtain ⟨c, rfl⟩ := one_sign (of_decide_eq_true g)
    refine op_in_sign pins s σ H _ _ v u Q I rx ry ⟨c, _, rfl, rfl, ?_⟩
    have e := ok_inj e
    have eo : decide (c ∈ z.cps.toList) = b := by rw [← e]; simp [List.contains_iff_mem]
    rw [eo]
    exact k
  | _ => cases hb
theorem op_ninWhat (hu : X.A.units + 200 < cLine) : OpR X (compareOp .NotIn) (rWhat X.K X.w inWhat true) := by
  intro pins s σ H x y v u Q I rx ry h
  obtain ⟨r, t, q, b, F, G, h1, h2, hb, k⟩ := h
  cases q with
  | tup xs =>
    obtain ⟨g, e⟩ := guard_ok hb
    simp only [Bool.and_eq_true, decide_eq_true_eq] at g
    have gl : isD (.tup xs) = true := by simp only [isD]; exact g.1.2
    obtain ⟨as, r1⟩ := Dp.reads I (toD t) x v (h1.dp g.1.1) rx
    obtain ⟨bs, r2⟩ := Dp.reads I (.tuple (toDs xs)) y u (h2.dp gl) ry
    have d1 := dep_toD t
    refine SeqAt.notIn_tuple_reads r2 r1 (lays_toD _ g.1.2) (lay_toD t g.1.1) (by omega) ⟨.bl _, H, I, rfl, ?_⟩
    rw [anyEq_toD t g.1.1 xs g.1.2, ok_inj e]
    exact k
  | lst xs =>
    obtain ⟨g, e⟩ := guard_ok hb
    simp only [Bool.and_eq_true, decide_eq_true_eq] at g
    have gl : isD (.lst xs) = true := by simp only [isD]; exact g.1.2
    obtain ⟨as, r1⟩ := Dp.reads I (toD t) x v (h1.dp g.1.1) rx
    obtain ⟨bs, r2⟩ := Dp.reads I (.list (toDs xs)) y u (h2.dp gl) ry
    have d1 := dep_toD t
    refine SeqAt.notIn_list_reads r2 r1 (lays_toD _ g.1.2) (lay_toD t g.1.1) (by omega) ⟨.bl _, H, I, rfl, ?_⟩
    rw [anyEq_toD t g.1.1 xs g.1.2, ok_inj e]
    exact k
  | dic d kvs =>
    obtain ⟨g, e⟩ := guard_ok hb
    obtain ⟨a, o, rfl, dg, alt⟩ := dgetV h2 h1 g
    cases ry
    refine d_notIn (by omega) I dg rx fun s' I' => ⟨.bl (!o.isSome), H, I', rfl, ?_⟩
    have e : (Ev.dget kvs t).isSome = b := ok_inj e
    have eo : o.isSome = b := by rw [← e]; rcases alt with ⟨h1, h2⟩ | ⟨z, v', h1, h2, _⟩ <;> rw [h1, h2] <;> rfl
    rw [eo]
    exact k
  | str z =>
    cases t <;> try (cases hb; done)
    obtain ⟨g, e⟩ := guard_ok hb
    obtain rfl := vstr h1
    obtain rfl := vstr h2
    obtain ⟨c, rfl⟩ := one_sign (of_decide_eq_true g)
    refine op_notIn_sign pins s σ H _ _ v u Q I rx ry ⟨c, _, rfl, rfl, ?_⟩
    have e := ok_inj e
    have eo : decide (c ∈ z.cps.toList) = b := by rw [← e]; simp [List.contains_iff_mem]
    rw [eo]
    exact k
  | _ => cases hb
theorem what_bl {r : Res Bool} {p : Val} (h : r.bl = .ok p) : ∃ b, r = .ok b ∧ p = .bl b := by
  obtain ⟨b, e, q⟩ := bind_ok' h
  exact ⟨b, e, (ok_inj q).symm⟩
theorem what_nbl {r : Res Bool} {p : Val} (h : r.nbl = .ok p) : ∃ b, r = .ok b ∧ p = .bl (!b) := by
  obtain ⟨b, e, q⟩ := bind_ok' h
  exact ⟨b, e, (ok_inj q).symm⟩
theorem op_cmpV (hu : X.A.units + 200 < cLine) (op : COp) : OpR X (compareOp (cpOf op)) (r2V X.K X.w (cmpV op)) := by
  intro pins s σ H x y v u Q I rx ry h
  obtain ⟨r, t, q, p, F, G, h1, h2, hb, k⟩ := h
  have hbl : ∀ b : Bool, p = .bl b → Q (.bl b) H := fun b e => k _ _ (e ▸ New.bl b)
  have ii : ∀ {i j : Int}, t = .int i → q = .int j → x = .int i ∧ y = .int j := fun e1 e2 => by subst e1; subst e2; exact ⟨vint h1, vint h2⟩
  cases op with
  | eq =>
    obtain ⟨b, e, z⟩ := what_bl hb
    exact op_eqWhat hu pins s σ H x y v u Q I rx ry ⟨r, t, q, b, F, G, h1, h2, e, hbl _ z⟩
  | ne =>
    obtain ⟨b, e, z⟩ := what_nbl hb
    exact op_neWhat hu pins s σ H x y v u Q I rx ry ⟨r, t, q, b, F, G, h1, h2, e, hbl _ z⟩
  | is_ =>
    obtain ⟨b, e, z⟩ := what_bl hb
    exact op_isWhat pins s σ H x y v u Q I rx ry ⟨r, t, q, b, F, G, h1, h2, e, hbl _ z⟩
  | isnt =>
    obtain ⟨b, e, z⟩ := what_nbl hb
    exact op_isntWhat pins s σ H x y v u Q I rx ry ⟨r, t, q, b, F, G, h1, h2, e, hbl _ z⟩
  | in_ =>
    obtain ⟨b, e, z⟩ := what_bl hb
    exact op_inWhat hu pins s σ H x y v u Q I rx ry ⟨r, t, q, b, F, G, h1, h2, e, hbl _ z⟩
  | nin =>
    obtain ⟨b, e, z⟩ := what_nbl hb
    exact op_ninWhat hu pins s σ H x y v u Q I rx ry ⟨r, t, q, b, F, G, h1, h2, e, hbl _ z⟩
  | lt =>
    cases t <;> cases q <;> try (cases hb; done)
    obtain ⟨rfl, rfl⟩ := ii rfl rfl
    exact op_lt pins s σ H _ _ v u Q I rx ry ⟨_, _, rfl, rfl, hbl _ (ok_inj hb).symm⟩
  | le =>
    cases t <;> cases q <;> try (cases hb; done)
    obtain ⟨rfl, rfl⟩ := ii rfl rfl
    exact op_le pins s σ H _ _ v u Q I rx ry ⟨_, _, rfl, rfl, hbl _ (ok_inj hb).symm⟩
  | gt =>
    cases t <;> cases q <;> try (cases hb; done)
    obtain ⟨rfl, rfl⟩ := ii rfl rfl
    exact op_gt pins s σ H _ _ v u Q I rx ry ⟨_, _, rfl, rfl, hbl _ (ok_inj hb).symm⟩
  | ge =>
    cases t <;> cases q <;> try (cases hb; done)
    obtain ⟨rfl, rfl⟩ := ii rfl rfl
    exact op_ge pins s σ H _ _ v u Q I rx ry ⟨_, _, rfl, rfl, hbl _ (ok_inj hb).symm⟩
end
end Ev

/-! Snd5: subscripts, slices by values. -/
namespace Ev
open PySem PySem.Spec PyProof.Rows L2
section
variable {X : Cx}
theorem ix_dict (hu : X.A.units + 200 < cLine) : IxR X (fun x y H Q => ∃ a v, x = .ref a ∧ DGet H a y (some v) ∧ Q v H) := by
  intro value slice pins s σ H x y v u Q I rx ry h hs
  obtain ⟨a, z, rfl, g, q⟩ := h
  cases rx
  have hu1 : X.A.units + 1 < cLine := by omega
  have ty := dict_typeIs I g
  rcases g with ⟨kvs, k, e, ey, l⟩ | ⟨kvs, k, b, e, ey, eb, l⟩
  · subst ey
    obtain ⟨zz, hd, vs, rel, dd⟩ := dk_rd I.hok e
    obtain ⟨w', hw, rw'⟩ := RelO.some_of (v := z) (o := valueAt vs k) (by rw [l]; exact rel.val k)
    exact subscriptTail_builtinR (x := w') ty PySem.F.slot_dict_getitem.lookup (wpAny_getItem_of (kV_is ry) dd.mapOf hw ⟨rfl, z, H, I.tok _, rw', q⟩) hs
  · subst ey
    cases (show u = Value.ref b from ry)
    obtain ⟨zz, hd, xs, rel, dd⟩ := dt_rd I.hok e
    obtain ⟨w', hw, rw'⟩ := RelO.some_of (v := z) (o := (atKey xs k).map (·.2)) (by rw [l]; exact rel.val k)
    obtain ⟨p, hp, hp2⟩ := Option.map_eq_some_iff.mp hw
    refine subscriptTail_builtinR (x := w') ty PySem.F.slot_dict_getitem.lookup (wpAny_getItem_heap (tupleKind_room_in1 hu1) (key_of I.hok eb) dd hp ?_) hs
    rw [hp2]
    exact ⟨rfl, z, H, I.tok _, rw', q⟩
theorem at_at {α : Type} (xs : List α) (i : Int) : at' xs i = atI xs i := by
  unfold at' atI ixN
  by_cases h0 : 0 ≤ i
  · rw [if_pos h0, if_pos h0]
    by_cases h1 : i < (xs.length : Int)
    · rw [if_pos h1]; rfl
    · rw [if_neg h1]
      exact List.getElem?_eq_none (by omega)
  · rw [if_neg h0, if_neg h0]
    by_cases h1 : -(xs.length : Int) ≤ i
    · rw [if_pos h1, if_pos h1]; rfl
    · rw [if_neg h1, if_neg h1]; rfl
theorem at_map {α β : Type} (f : α → β) (xs : List α) (i : Int) : at' (xs.map f) i = (at' xs i).map f := by
  unfold at'
  rw [List.length_map]
  split
  · rw [List.getElem?_map]
  · split
    · rw [List.getElem?_map]
    · rfl
theorem RepL.at {K : PySem.W.Frag} {w : World} {H : Hp} {r : List Addr} {xs : List Val} {vs : List V} {F : List Addr} {i : Int} {x : Val} (l : RepL K w H r xs vs F) (h : at' xs i = some x) :
    ∃ v G, atI vs i = some v ∧ Rep K w H r x v G ∧ ∀ a, a ∈ G → a ∈ F := by
  have hl := l.length
  rw [← at_at]
  unfold at' at h ⊢
  rw [← hl]
  split at h
  · rename_i h0
    rw [if_pos h0]
    obtain ⟨v, G, h1, h2, h3⟩ := l.get h
    exact ⟨v, G, h1, h2, h3⟩
  · rename_i h0
    rw [if_neg h0]
    split at h
    · rename_i h1
      rw [if_pos h1]
      obtain ⟨v, G, h1, h2, h3⟩ := l.get h
      exact ⟨v, G, h1, h2, h3⟩
    · cases h
/-- where an item's lists may stand -/
def inn (t : Val) (F : List Addr) : List Addr := match t with
  | .lst _ => F.tail
  | .dic _ _ => []
  | _ => F
theorem inn_sub {t : Val} {F : List Addr} {a : Addr} (h : a ∈ inn t F) : a ∈ F := by
  unfold inn at h
  split at h
  · exact List.mem_of_mem_tail h
  · cases h
  · exact h
/-- an item: F are the addresses of the whole -/
def rIxV (K : PySem.W.Frag) (w : World) : R2 := fun x y H Q =>
  ∃ r t u p F G, Rep K w H r t x F ∧ Rep K w H r u y G ∧ ixV t u = .ok p ∧ ∀ v F', Rep K w H r p v F' → (∀ a, a ∈ F' → a ∈ inn t F) → Q v H
theorem ix_V (hu : X.A.units + 200 < cLine) : IxR X (rIxV X.K X.w) := by
  intro value slice pins s σ H x y v u Q I rx ry h hs
  obtain ⟨r, t, q, p, F, G, h1, h2, hb, k⟩ := h
  cases t with
  | lst xs =>
    cases q <;> try (cases hb; done)
    obtain rfl := vint h2
    cases h1 with
    | lst e l =>
      obtain ⟨z, G', e1, e2, e3⟩ := l.at (of_ok hb)
      exact ix_list value slice pins s σ H _ _ v u Q I rx ry ⟨_, _, _, z, rfl, rfl, .of e, e1, k z G' e2 fun a m => e3 a m⟩ hs
  | tup xs =>
    cases q <;> try (cases hb; done)
    obtain rfl := vint h2
    obtain ⟨a, vs, rfl, e, l⟩ := vtup h1
    obtain ⟨z, G', e1, e2, e3⟩ := l.at (of_ok hb)
    exact ix_tup value slice pins s σ H _ _ v u Q I rx ry ⟨_, _, _, z, rfl, rfl, .of e, e1, k z G' e2 e3⟩ hs
  | scr ks =>
    cases q <;> try (cases hb; done)
    obtain rfl := vint h2
    obtain ⟨a, rfl, e⟩ := vscr h1
    obtain ⟨n, e1, e2⟩ := bind_ok' hb
    have e2 := ok_inj e2
    subst e2
    refine ix_list value slice pins s σ H _ _ v u Q I rx ry ⟨_, _, _, .int n, rfl, rfl, e, ?_, k _ [] (.int n) (by simp)⟩ hs
    rw [← at_at, at_map, of_ok e1]
    rfl
  | dic d kvs =>
    obtain ⟨g, e⟩ := guard_ok (show guard' (isKey d q) (of (dget kvs q)) = .ok p by cases q <;> exact hb)
    obtain ⟨a, o, rfl, dg, alt⟩ := dgetV h1 h2 g
    rcases alt with ⟨h3, h4⟩ | ⟨z, v', h3, h4, h5⟩
    · rw [h3] at e; cases e
    · rw [h3] at e
      have e := ok_inj e
      subst e; subst h4
      exact ix_dict hu value slice pins s σ H _ _ v u Q I rx ry ⟨a, v', rfl, dg, k v' [] h5 (by simp)⟩ hs
  | str z =>
    cases q <;> try (cases hb; done)
    obtain rfl := vint h2
    obtain rfl := vstr h1
    obtain ⟨c, e1, e2⟩ := bind_ok' hb
    obtain ⟨g, e2⟩ := guard_ok e2
    have e2 := ok_inj e2
    subst e2
    exact ix_str value slice pins s σ H _ _ v u Q I rx ry ⟨_, _, c, rfl, rfl, lim_line (of_decide_eq_true g), by rw [← at_at]; exact of_ok e1, k _ [] (.str _) (by simp)⟩ hs
  | _ => cases q <;> cases hb

/-! ### slices -/
theorem clip_sIx (n d : Nat) (o : Option Int) : clip n d o = HT.sIx n d o := by cases o <;> rfl
theorem cut_map {α β : Type} (f : α → β) (xs : List α) (lo hi : Option Int) : cut (xs.map f) lo hi = (cut xs lo hi).map f := by
  unfold cut
  rw [List.length_map, List.map_take, List.map_drop]
theorem RepL.take {K : PySem.W.Frag} {w : World} {H : Hp} {r : List Addr} : ∀ {xs : List Val} {vs : List V} (n : Nat), RepL K w H r xs vs [] → RepL K w H r (xs.take n) (vs.take n) []
  | _, _, 0, _ => .nil
  | _, _, n + 1, l => by
    cases hx : (rfl : ([] : List Addr) = []) with
    | refl => 
    generalize hF : ([] : List Addr) = F at l
    cases l with
    | nil => exact hF ▸ .nil
    | cons h t =>
      rename_i F1 G1
      have e := List.append_eq_nil_iff.mp hF.symm
      obtain ⟨rfl, rfl⟩ := e
      exact .cons h (RepL.take n t)
theorem RepL.drop {K : PySem.W.Frag} {w : World} {H : Hp} {r : List Addr} : ∀ {xs : List Val} {vs : List V} (n : Nat), RepL K w H r xs vs [] → RepL K w H r (xs.drop n) (vs.drop n) []
  | _, _, 0, l => l
  | _, _, n + 1, l => by
    generalize hF : ([] : List Addr) = F at l
    cases l with
    | nil => exact hF ▸ .nil
    | cons h t =>
      have e := List.append_eq_nil_iff.mp hF.symm
      obtain ⟨rfl, rfl⟩ := e
      exact RepL.drop n t
def rSlV (K : PySem.W.Frag) (w : World) : V → Option Int → Option Int → Hp → VK → Prop := fun x lo hi H Q =>
  ∃ r t p F, Rep K w H r t x F ∧ slV t lo hi = .ok p ∧ ∀ v H', New K w H H' r p v → Q v H'
theorem cutV_cut {K : PySem.W.Frag} {w : World} {H : Hp} {r : List Addr} {xs : List Val} {vs : List V} (l : RepL K w H r xs vs []) (lo hi : Option Int) : RepL K w H r (cut xs lo hi) (cutV vs lo hi) [] := by
  unfold cut cutV
  rw [clip_sIx, clip_sIx, l.length]
  exact (l.drop _).take _
theorem repL_ints {K : PySem.W.Frag} {w : World} {H : Hp} {r : List Addr} : ∀ ks : List Int, RepL K w H r (ks.map .int) (ks.map .int) []
  | [] => .nil
  | k :: ks => .cons (F := []) (.int k) (repL_ints ks)
theorem sl_V : SlR X (rSlV X.K X.w) := by
  intro pins s σ H x v vl vu lo hi sl Q I rx hs pl pu h
  obtain ⟨r, t, p, F, h1, hb, k⟩ := h
  cases t with
  | lst xs =>
    obtain ⟨g, e⟩ := guard_ok hb
    have e := ok_inj e
    subst e
    obtain ⟨a, vs, G, rfl, qa, la⟩ := vlst h1
    exact sl_list pins s σ H _ v vl vu lo hi sl Q I rx hs pl pu ⟨_, _, rfl, .of qa, fun p hp => k _ _ (New.lst hp (cutV_cut (la.plain g) lo hi))⟩
  | tup xs =>
    obtain ⟨g, e⟩ := guard_ok hb
    have e := ok_inj e
    subst e
    obtain ⟨a, vs, rfl, qa, la⟩ := vtup h1
    refine sl_tupA pins s σ H _ v vl vu lo hi sl Q I rx hs pl pu ⟨_, _, rfl, .of qa, fun hw => ?_, fun _ p hp => k _ _ (New.tup hp (cutV_cut (la.plain g) lo hi))⟩
    have e : cut xs lo hi = xs := by
      unfold cut
      rw [clip_sIx, clip_sIx, la.length, hw.1, hw.2, List.drop_zero, Nat.sub_zero, ← la.length, List.take_length]
    rw [e] at k
    exact k _ _ (New.old (.tup qa (la.plain g)))
  | scr ks =>
    have e := ok_inj hb
    subst e
    obtain ⟨a, rfl, qa⟩ := vscr h1
    refine sl_list pins s σ H _ v vl vu lo hi sl Q I rx hs pl pu ⟨_, _, rfl, qa, fun p hp => k _ _ (New.lst hp ?_)⟩
    have := cutV_cut (K := X.K) (w := X.w) (H := H) (r := r) (repL_ints ks) lo hi
    rwa [cut_map] at this
  | str z =>
    obtain ⟨g, e⟩ := guard_ok hb
    have e := ok_inj e
    subst e
    obtain rfl := vstr h1
    have ec : (⟨(cut z.cps.toList lo hi).toArray⟩ : Str) = cutS z lo hi := by
      unfold cut cutS
      rw [clip_sIx, clip_sIx, Array.length_toList]; rfl
    rw [ec] at k
    exact sl_str pins s σ H _ v vl vu lo hi sl Q I rx hs pl pu ⟨z, rfl, lim_line (of_decide_eq_true g), k _ _ (New.str _)⟩
  | _ => cases hb
end
end Ev

/-! SndS: sorted of data: whole numbers, texts, tuples of these of any lengths (the empty one too). -/
namespace Ev
open PySem PySem.Spec PySem.W PyProof.Rows
open PySem.SeqAt (EqAt RcLt tuple_ltAt pairEq)

/-! ### tuples, one against another -/
section
variable {prog : Program} {w : World} {A : Around} {E : Value → Shared → Prop} {s : Shared}
theorem lt_tuples {f : Bool} {p q : List PyData} {a b : Value} {aa bb : List Addr} {Q : Bool → Shared → Prop} (ra : Reads s.heap a (.tuple p) aa) (rb : Reads s.heap b (.tuple q) bb) (al : alikeAll p q = true)
    (hu : A.units + min (PyData.tuple p).depth (PyData.tuple q).depth < cLine) (hq : Q (dataLt (.tuple p) (.tuple q)) s) : wpAny (model prog w) A (oneLt' f a b) Q E s := by
  cases f with
  | false => exact oneLt_alike (fun z => absurd z Bool.false_ne_true) ra rb (by simpa [alike] using al) (fun z => nomatch z) hu hq
  | true =>
    cases ra with
    | @tuple pa oa va na _ _ a1 a2 a3 a4 =>
      cases rb with
      | @tuple pb ob vb nb _ _ b1 b2 b3 b4 =>
        have la : va.size = p.length := by simpa using SeqAt.ReadsAll.length _ _ _ a4
        have lb : vb.size = q.length := by simpa using SeqAt.ReadsAll.length _ _ _ b4
        rw [dataLt_tuple, ← firstLt_toks p q al, ← la, ← lb] at hq
        obtain ⟨ca, da, ta, sa⟩ := oa
        obtain ⟨cb, db, tb, sb⟩ := ob
        simp only at a2 a3 b2 b3
        subst a2 a3 b2 b3
        have room : A.in1.units + min (PyData.depthAll p) (PyData.depthAll q) < cLine := SeqAt.room_in hu
        have E1 : ∀ j (h1 : j < va.size) (h2 : j < vb.size), EqAt A.in1 s va[j] vb[j] (pairEq p q j) := fun j h1 h2 => by
          have z := eqAt_alikeAll p q A.in1 s va.toList vb.toList _ _ a4 b4 al room j (by simpa using h1) (by simpa using h2)
          simpa using z
        have R1 : ∀ j (h1 : j < va.size) (h2 : j < vb.size), pairEq p q j = false → RcLt A.in1 s va[j] vb[j] (dataLt (p.getD j .none) (q.getD j .none)) := fun j h1 h2 hj => by
          have z := rcLt_alikeAll p q A.in1 s va.toList vb.toList _ _ a4 b4 al room j (by simpa using h1) (by simpa using h2) hj
          simpa using z
        rw [oneLt'_eq]
        simp only [if_true]
        refine wpAny_bind (wpAny_cRoomFor (SeqAt.room_here hu) (wpAny_bind (wpAny_callSpecialIfBound?_slot (T := "tuple") ⟨_, a1, rfl⟩ F.slot_tuple_lt ?_)))
        exact call_meets F.slot_tuple_lt ⟨_, a1, rfl⟩ F.entry_tuple_lt (F.args_tuple_lt_2 _ _) (tuple_ltAt pa pb va vb na nb da db sa sb (pairEq p q) fun j => dataLt (p.getD j .none) (q.getD j .none)) ⟨a1, b1, E1, R1, wpAny_truthy_bool hq⟩
theorem firsts_mix {M : Model} {A : Around} {s : Shared} : ∀ {vs : List Value} {ds : List PyData}, EachIs (fun v d => ∃ as, Reads s.heap v d as) vs ds → (∀ d, d ∈ ds → ∃ xs, d = .tuple xs) →
    ∃ os : List (Option Value), os.length = vs.length ∧ (∀ (i : Nat) (xs : List PyData), ds[i]? = some (.tuple xs) → ∃ o, os[i]? = some o ∧ (o.isSome = !xs.isEmpty)) ∧
      ∀ (E : Value → Shared → Prop) (Q : List (Option Value) → Shared → Prop), Q os s → wpAny M A (vs.mapM firstOfTuple') Q E s
  | _, _, .nil, _ => ⟨[], rfl, fun i xs h => by simp at h, fun E Q h => by rw [List.mapM_nil]; exact wpAny_pure h⟩
  | _, _, .cons (b := d) ⟨as, r⟩ t, ht => by
    obtain ⟨os, h1, h2, h3⟩ := firsts_mix (M := M) (A := A) t fun d hd => ht d (List.mem_cons_of_mem _ hd)
    obtain ⟨xs, rfl⟩ := ht d List.mem_cons_self
    cases r with
    | @tuple a o va n _ _ ho hc hd hr =>
      have hl : va.size = xs.length := by simpa using SeqAt.ReadsAll.length _ _ _ hr
      refine ⟨va[0]? :: os, by simp [h1], fun i ys hi => ?_, fun E Q hq => ?_⟩
      · cases i with
        | zero =>
          simp only [List.getElem?_cons_zero, Option.some.injEq, PyData.tuple.injEq] at hi
          subst hi
          refine ⟨va[0]?, rfl, ?_⟩
          cases xs with
          | nil =>
            rw [List.length_nil] at hl
            rw [Array.getElem?_eq_none (by omega)]; rfl
          | cons x r =>
            rw [List.length_cons] at hl
            rw [Array.getElem?_eq_getElem (by omega)]; rfl
        | succ i =>
          obtain ⟨o', e1, e2⟩ := h2 i ys (by simpa using hi)
          exact ⟨o', by simpa using e1, e2⟩
      · rw [List.mapM_cons]
        refine wpAny_bind ?_
        rw [kas_first_eq]
        refine wpAny_bind (Looks.here (show Looks M s.heap (typeOf (.ref a)) o.cls from (Looks.ld ho).andThen .now) ?_)
        rw [hc, if_neg (by first | decide | simp)]
        exact wpAny_bind (listItems_at ho hd (wpAny_pure (wpAny_bind (h3 E _ (wpAny_pure hq)))))
theorem tuples_type {M : Model} {s : Shared} {vs : List Value} {ds : List PyData} (e : EachIs (fun v d => ∃ as, Reads s.heap v d as) vs ds) (ht : ∀ d, d ∈ ds → ∃ xs, d = .tuple xs) :
    ∀ v, v ∈ vs → Looks M s.heap (typeOf v) (.type "tuple") := fun v hv => by
  obtain ⟨d, hd, as, r⟩ := e.left v hv
  obtain ⟨xs, rfl⟩ := ht d hd
  exact looks_reads r
/-- how tuples are compared, when one of them is empty -/
theorem kind_mix {M : Model} {A : Around} {s : Shared} {vs : List Value} {ds : List PyData} (e : EachIs (fun v d => ∃ as, Reads s.heap v d as) vs ds) (ht : ∀ d, d ∈ ds → ∃ xs, d = .tuple xs) (hn : .tuple [] ∈ ds) :
    ∃ kd, (kd = general' ∨ kd = oneType') ∧ ∀ (E : Value → Shared → Prop) (Q : SortKind → Shared → Prop), Q kd s → wpAny M A (keyKind' vs.toArray) Q E s := by
  obtain ⟨os, h1, h2, h3⟩ := firsts_mix (M := M) (A := A) e ht
  have hall : (os.toArray.all fun x => x.isSome) = false := by
    obtain ⟨i, hi, ei⟩ := List.getElem_of_mem hn
    obtain ⟨o, e1, e2⟩ := h2 i [] (by rw [List.getElem?_eq_getElem hi, ei])
    rw [List.all_toArray, List.all_eq_false]
    exact ⟨o, List.mem_of_getElem? e1, by rw [e2]; simp⟩
  have one : ∀ (E : Value → Shared → Prop) (Q : Option Value → Shared → Prop), (∀ r, r.isSome = true → Q r s) → wpAny M A (oneTypeOnly' vs.toArray) Q E s := fun E Q hq => by
    rw [oneTypeOnly'_eq, List.mapM_toArray, map_eq_pure_bind]
    refine wpAny_bind (wpAny_bind (kas_mapM (r := Value.type "tuple") _ (fun v hv Q' hq' => (tuples_type e ht v hv).here hq') (wpAny_pure ?_)))
    cases vs with
    | nil =>
      have := e.length
      rw [List.length_nil] at this
      rw [List.eq_nil_of_length_eq_zero this.symm] at hn
      cases hn
    | cons v vs =>
      have q : (List.map (fun _ => Value.type "tuple") (v :: vs)).toArray[0]? = some (Value.type "tuple") := by simp
      rw [q]
      have q2 : ((List.map (fun _ => Value.type "tuple") (v :: vs)).toArray.all fun x => x == Value.type "tuple") = true := by
        simp only [List.all_toArray, List.all_map, List.all_eq_true]
        intro _ _
        exact beq_self_eq_true _
      simp only [q2, if_true]
      exact wpAny_pure (hq _ rfl)
  by_cases h0 : (os.toArray[0]?.bind id).isSome = true
  · refine ⟨general', .inl rfl, fun E Q hq => ?_⟩
    rw [keyKind'_eq, List.mapM_toArray, map_eq_pure_bind]
    refine wpAny_bind (wpAny_bind (h3 E _ (wpAny_pure ?_)))
    rw [hall, if_neg Bool.false_ne_true, if_pos h0]
    exact wpAny_pure hq
  · refine ⟨oneType', .inr rfl, fun E Q hq => ?_⟩
    rw [keyKind'_eq, List.mapM_toArray, map_eq_pure_bind]
    refine wpAny_bind (wpAny_bind (h3 E _ (wpAny_pure ?_)))
    rw [hall, if_neg Bool.false_ne_true, if_neg h0]
    refine wpAny_bind (one E _ fun r hr => ?_)
    rw [if_pos hr]
    exact wpAny_pure hq
end
section
variable {prog : Program} {w : World} {A : Around} {E : Value → Shared → Prop} {s : Shared}
/-- tuples of any lengths can be sorted -/
theorem sorts_tuples {vs : List Value} {ds : List PyData} (e : EachIs (fun v d => ∃ as, Reads s.heap v d as) vs ds) (hal : AllAlike ds) (ht : ∀ d, d ∈ ds → ∃ xs, d = .tuple xs) (hu : ∀ d, d ∈ ds → A.units + d.depth < cLine) :
    SortsAt prog w A s (dataKind s.heap ds) vs := by
  by_cases hn : .tuple [] ∈ ds
  · refine ⟨fun v hv => ?_, ?_⟩
    · obtain ⟨d, hd, as, r⟩ := e.left v hv
      exact ⟨_, dataKind_some hal hd r⟩
    · obtain ⟨kd, hk, hq⟩ := kind_mix (M := model prog w) (A := A) e ht hn
      refine ⟨kd, ?_, fun _ E Q q => hq E Q q⟩
      intro E x y a b Q ha hb q
      obtain ⟨d, as, hd, ra, rfl⟩ := dataKind_inv ha
      obtain ⟨d', as', hd', rb, rfl⟩ := dataKind_inv hb
      have al := hal d hd d' hd'
      have hroom : A.units + min d.depth d'.depth < cLine := Nat.lt_of_le_of_lt (Nat.add_le_add_left (Nat.min_le_left _ _) _) (hu d hd)
      obtain ⟨p, rfl⟩ := ht d hd
      obtain ⟨p', rfl⟩ := ht d' hd'
      rcases hk with rfl | rfl
      · exact lt_tuples (f := false) ra rb (by simpa [alike] using al) hroom q
      · exact lt_tuples (f := true) ra rb (by simpa [alike] using al) hroom q
  · refine SortsAt.data e hal (.inl fun d hd => ?_) hu
    obtain ⟨xs, rfl⟩ := ht d hd
    cases xs with
    | nil => exact absurd hd hn
    | cons x r => exact ⟨x, r, rfl⟩
/-- sorted(xs), whatever the items are known to stand for -/
theorem sorted_any {β : Type} {vs : List Value} {bs : List β} {enc : β → PyData} {R : Value → β → Prop} {l : Addr} {Q : Value → Shared → Prop} (hl : s.heap.IsList l vs.toArray) (e : EachIs R vs bs) (er : EachIs (fun v b => ∃ as, Reads s.heap v (enc b) as) vs bs)
    (hal : AllAlike (bs.map enc)) (hk : (∀ b, b ∈ bs → ∃ xs, enc b = .tuple xs) ∨ Sortable (bs.map enc)) (hL : bs.length ≤ sizeLine) (hu : ∀ b, b ∈ bs → A.units + 2 + (enc b).depth < cLine)
    (h : ∀ out, out.length = bs.length → EachIs R out (bs.mergeSort (dataLe false enc)) → Q (.ref (s.heap.objs.size + 1)) { s with heap := sortedAll s.heap vs (List.toArray out) }) :
    wpAny (model prog w) A (PySem.call (.builtin "sorted") [.ref l]) Q E s := by
  rcases hk with hk | hk
  · have er2 : EachIs (fun v b => ∃ as, Reads (sortingHeap (copyHeap s.heap vs) (s.heap.objs.size + 1) vs) v (enc b) as) vs bs := er.mono fun _ _ ⟨as, r⟩ => ⟨as, PyProof.Rows.Reads.keeps (fun _ _ => sorting_copy_old) r⟩
    have ed : EachIs (fun v d => ∃ as, Reads (sortingHeap (copyHeap s.heap vs) (s.heap.objs.size + 1) vs) v d as) vs (bs.map enc) := each_map (R := fun v d => ∃ as, Reads (sortingHeap (copyHeap s.heap vs) (s.heap.objs.size + 1) vs) v d as) enc er2
    have st := sorts_tuples (prog := prog) (w := w) (A := A.in1.in1) (s := { s with heap := sortingHeap (copyHeap s.heap vs) (s.heap.objs.size + 1) vs }) ed hal (fun d hd => by
      obtain ⟨b, hb, rfl⟩ := List.mem_map.mp hd
      exact hk b hb) (bound_map hu)
    refine sorted_vals hl st (by rw [e.length]; exact hL) (h _ (by rw [sortVals_length false rfl]; exact e.length) (sortVals_data false e er2 hal))
  · exact sorted_data hl e er hal hk hL hu h
end
end Ev

/-! SndC: the items of a tuple gathered into a new list; sorted of a tuple. -/
namespace Ev
open PySem PySem.Spec PySem.W PyProof.Rows
section
variable {prog : Program} {w : World} {A : Around} {E : Value → Shared → Prop} {s : Shared}
/-- the heap behind the gathering of us -/
abbrev gath (h : Heap) (us : List Value) : Heap := (h.push (seqObj "list" #[] 0)).update h.objs.size (Obj.mapSeq (· ++ us.toArray))
theorem gather_tup {t : Addr} {us : List Value} {Q : List Value → Shared → Prop} (ht : s.heap.IsTuple t us.toArray) (hz : us.length ≤ sizeLine) (hq : Q us { s with heap := gath s.heap us }) :
    wpAny (model prog w) A (collect (.ref t)) Q E s := by
  obtain ⟨o, h1, h2, n, h3⟩ := id ht
  have newAt : (s.heap.push (seqObj "list" #[] 0)).get? s.heap.objs.size = some (seqObj "list" #[] 0) := Heap.get?_push_size _ rfl
  have oldAt : (s.heap.push (seqObj "list" #[] 0)).get? t = some o := Heap.get?_push_of_some _ h1
  have room : ((#[] : Array Value) ++ us.toArray).size ≤ sizeLine + 1 := by
    simp only [Array.size_append, List.size_toArray, List.length_nil]
    omega
  have all : ((#[] : Array Value) ++ us.toArray).toList = us := by simp
  unfold collect
  refine wpAny_bind (wpAny_runValue (codeAny_builtin entry_proto_collect' (?_ : wpAny _ _ (do again (.builtin "list.__iadd__" ⟨[← newList [], .ref t], []⟩)) _ _ s)))
  refine wpAny_bind (wpAny_newList (wpAny_pure ⟨Code.quiet_builtin _ (by decide +kernel), codeAny_builtin entry_list_iadd' (?_ : wpAny _ _ (Builtin.List.listExtendWith (.ref s.heap.objs.size) (.ref t) (.ref s.heap.objs.size)) _ _ { s with heap := s.heap.push (seqObj "list" #[] 0) })⟩))
  unfold Builtin.List.listExtendWith
  refine wpAny_bind (wpAny_typeOf (T := "tuple") ⟨o, oldAt, h2⟩ ?_)
  rw [if_pos (by rw [show (Value.type "tuple" == Value.type "tuple") = true from rfl, Bool.or_true])]
  refine wpAny_bind (listItems_at oldAt h3 (wpAny_bind (listItems_at newAt rfl ?_)))
  rw [if_neg (by simp)]
  refine wpAny_bind (listUpdate_at newAt rfl (wpAny_pure (?_ : wpAny (model prog w) A (do
      let o ← load s.heap.objs.size
      match o.data with
      | .seq xs _ => pure xs.toList
      | _ => unsupported "internal:collect") Q E { s with heap := gath s.heap us })) (Nat.zero_le _) room)
  refine wpAny_bind (wpAny_load (get?_update_seq newAt _) (?_ : wpAny _ _ (pure ((#[] : Array Value) ++ us.toArray).toList) Q E _))
  rw [all]
  exact wpAny_pure hq
/-- sorted(t), a tuple, whatever the items are known to stand for -/
theorem sorted_tup {β : Type} {vs : List Value} {bs : List β} {enc : β → PyData} {R : Value → β → Prop} {l : Addr} {Q : Value → Shared → Prop} (hl : s.heap.IsTuple l vs.toArray) (e : EachIs R vs bs) (er : EachIs (fun v b => ∃ as, Reads s.heap v (enc b) as) vs bs)
    (hal : AllAlike (bs.map enc)) (hk : (∀ b, b ∈ bs → ∃ xs, enc b = .tuple xs) ∨ Sortable (bs.map enc)) (hL : bs.length ≤ sizeLine) (hu : ∀ b, b ∈ bs → A.units + 2 + (enc b).depth < cLine)
    (h : ∀ out, out.length = bs.length → EachIs R out (bs.mergeSort (dataLe false enc)) → Q (.ref (s.heap.objs.size + 1)) { s with heap := sortedAll s.heap vs (List.toArray out) }) :
    wpAny (model prog w) A (PySem.call (.builtin "sorted") [.ref l]) Q E s := by
  have er2 : EachIs (fun v b => ∃ as, Reads (sortingHeap (copyHeap s.heap vs) (s.heap.objs.size + 1) vs) v (enc b) as) vs bs := er.mono fun _ _ ⟨as, r⟩ => ⟨as, PyProof.Rows.Reads.keeps (fun _ _ => sorting_copy_old) r⟩
  have ed : EachIs (fun v d => ∃ as, Reads (sortingHeap (copyHeap s.heap vs) (s.heap.objs.size + 1) vs) v d as) vs (bs.map enc) := each_map (R := fun v d => ∃ as, Reads (sortingHeap (copyHeap s.heap vs) (s.heap.objs.size + 1) vs) v d as) enc er2
  have S : SortsAt prog w A.in1.in1 { s with heap := sortingHeap (copyHeap s.heap vs) (s.heap.objs.size + 1) vs } (dataKind (sortingHeap (copyHeap s.heap vs) (s.heap.objs.size + 1) vs) (bs.map enc)) vs := by
    rcases hk with hk | hk
    · exact sorts_tuples (s := { s with heap := sortingHeap (copyHeap s.heap vs) (s.heap.objs.size + 1) vs }) ed hal (fun d hd => by
        obtain ⟨b, hb, rfl⟩ := List.mem_map.mp hd
        exact hk b hb) (bound_map hu)
    · exact SortsAt.data (s := { s with heap := sortingHeap (copyHeap s.heap vs) (s.heap.objs.size + 1) vs }) ed hal hk (bound_map hu)
  have hvL : vs.length ≤ sizeLine := by rw [e.length]; exact hL
  have fin := h _ (by rw [sortVals_length false rfl]; exact e.length) (sortVals_data false e er2 hal)
  refine Calls.call_function_entry kind_sorted plain_sorted entry_sorted (args_sorted1 _) ?_
  unfold Builtin.«sorted»
  have hz : (gath s.heap vs).objs.size = s.heap.objs.size + 1 := by rw [Heap.size_update, size_push']
  refine wpAny_bind (m := checkCount "sorted" 1 1 _) (wpAny_pure (wpAny_bind (gather_tup hl hvL (wpAny_bind (wpAny_newList ?_ hvL)))))
  rw [hz]
  refine wpAny_bind (wpAny_holding (wpAny_call_entry slot_list_sort ⟨_, copyHeap_at s.heap vs, rfl⟩ entry_list_sort ?body (args_list_sort _)))
  case body =>
    refine list_sort_vals (s := { s with heap := copyHeap s.heap vs }) (copyHeap_at s.heap vs) S hvL ⟨.none, rfl, wpAny_pure ?_⟩
    exact ⟨_, rfl, fin⟩
end
end Ev

/-! SndV: the set of a list of whole numbers. -/
namespace Ev
open PySem PySem.Spec PySem.W PyProof.Rows L2
section
variable {P : Program} {w : World} {A : Around} {E : Value → Shared → Prop} {s : Shared}
/-- an empty set, as it is made -/
abbrev emS (w : World) : Obj := { cls := .type "set", dict := none, data := .set #[] 0 (.fresh 0 0 (!w.params.followText "set-order")) }
abbrev heS (w : World) (h : Heap) : Heap := h.push (emS w)
/-- what stands behind the set's own beginning -/
abbrev FilledS (w : World) (s : Shared) (is : List Int) (r : Value) (t : Shared) : Prop :=
  r = .none ∧ ∃ g m n, t = { s with heap := g, toks := m } ∧ SetR w g s.heap.objs.size (fun j => decide (j ∈ is)) n ∧ (∀ b o, s.heap.get? b = some o → g.get? b = some o)
theorem int_place {vs : List Value} {is : List Int} (x : IntsAre vs is) {i : Nat} {v : Value} (h : vs[i]? = some v) : ∃ k t, is[i]? = some k ∧ v = .int k t := by
  have hl : i < is.length := by rw [← IntsAre.length x]; exact (List.getElem?_eq_some_iff.mp h).1
  obtain ⟨t, e⟩ := PyProof.Rows.IntsAre.int_at x i v h
  exact ⟨is[i], t, List.getElem?_eq_getElem hl, by rw [e, List.getD_eq_getElem?_getD, List.getElem?_eq_getElem hl]; rfl⟩
theorem set_of_list {a : Addr} {vs : Array Value} (is : List Int) {Q : Value → Shared → Prop} (hq : A.handled = none) (ha : s.heap.IsList a vs) (hi : IntsAre vs.toList is) (few : is.length + 1 < scanBound)
    (k : ∀ g m n, SetR w g s.heap.objs.size (fun j => decide (j ∈ is)) n → (∀ b o, s.heap.get? b = some o → g.get? b = some o) → Q (.ref s.heap.objs.size) { s with heap := g, toks := m }) :
    wpAny (model P w) A (PySem.call (.type "set") [.ref a]) Q E s := by
  have sz : vs.size = is.length := by rw [← Array.length_toList, IntsAre.length hi]
  obtain ⟨_, _, f1⟩ := F.called_set.mro
  have f2 := F.called_set.made
  have f3 := F.called_set.sub
  have f4 := F.called_set.notType
  have f5 := F.called_set.canCreate
  have f6 := F.typeCall_set_1 (.ref a)
  refine wpAny_call (codeAny_of_tree ?_)
  show wpAny _ _ (callAny (Value.type "set") _) _ _ _
  refine wpAny_pure ⟨Code.quiet_builtin _ (by decide +kernel), ?_⟩
  refine codeAny_builtin F.entry_type_call ?_
  rw [Around.under_plain (weight_type_call_type "set" [Value.ref a] []) rfl]
  repeat (any_goals (first | wp_step | assumption))
  refine codeAny_mono (code_set_led1 (.ref a) (E := E) (Q₁ := fun v t => t = { s with heap := heS w s.heap } ∧ v = .ref s.heap.objs.size) ⟨rfl, rfl⟩) fun r t hr => ?_
  rcases r with e | fl
  · exact hr
  rcases fl with _ | v | _ | _
  all_goals try exact hr.elim
  obtain ⟨rfl, rfl⟩ := hr
  have sAt : (heS w s.heap).get? s.heap.objs.size = some (emS w) := Heap.get?_push_size _ rfl
  have sTy : Shared.TypeIs { s with heap := heS w s.heap } (.ref s.heap.objs.size) "set" := ⟨_, sAt, rfl⟩
  have f7 := F.called_set.init.lookup
  have f8 := F.called_set.init.bind (.ref s.heap.objs.size)
  repeat (any_goals (first | wp_step | assumption))
  refine codeAny_mono (codeAny_call_builtin (R := wants (FilledS w s is) E) F.called_set.init.plain F.entry_set_init (check_set_init_1 sTy ?_)) fun r t hr => ?_
  · obtain ⟨⟨oc, od, ot, os⟩, o1, o2, on, o3⟩ := ha
    simp only at o2 o3
    subst o2 o3
    have lAt : (heS w s.heap).get? a = some { cls := .type "list", dict := od, data := .seq vs on, slots := os } := Heap.get?_push_of_some _ o1
    have lIs : (heS w s.heap).IsList a vs := ⟨_, lAt, rfl, on, rfl⟩
    have u1 := F.sub_list_set
    have u2 := F.sub_list_frozenset
    have u3 : (Value.type "list" == .type "dict") = false := by decide
    unfold Builtin.«set.__init__» Builtin.Frozenset.updateFrom noKeywords
    generalize zz : pyIter = Z
    wp_walk
    subst zz
    refine wpAny_pyIter_list lIs (wpAny_bind (wpAny_runValue ?_))
    have lt := Heap.lt_size o1
    have quiet : A.in1.in1.in1.handled = none := by simp [hq]
    have hs1 : (heS w s.heap).objs.size = s.heap.objs.size + 1 := Heap.size_push ..
    have n1 : a ≠ (heS w s.heap).objs.size := by rw [hs1]; exact Nat.ne_of_lt (Nat.lt_succ_of_lt lt)
    have n2 : s.heap.objs.size ∉ [(heS w s.heap).objs.size, a] := by
      rw [hs1]
      simp only [List.mem_cons, List.not_mem_nil, or_false]
      exact fun z => z.elim (Nat.ne_of_lt (Nat.lt_succ_self _)) (Nat.ne_of_gt lt)
    have at0 := Heap.get?_push_of_some { cls := .type "list_iterator", data := .fields #[.ref a, .int 0 0] } sAt
    refine set_update_ints (Walks.list quiet _ a n1 vs).toS s.heap.objs.size n2 is sz few (fun i v hv => int_place hi (by rw [Array.getElem?_toList]; exact hv)) (vs.size - 0) 0 _ (by omega) (Nat.zero_le _)
      ⟨⟨_, Heap.get?_push_size _ rfl, rfl, rfl⟩, lIs.push _⟩ ⟨0, Nat.le_refl 0, setR_new_at at0⟩ fun t n mv _ b1 => ?_
    obtain ⟨g, g2, d, m, o⟩ := t
    have q1 : g2 = s.gens := mv.gens
    have q2 : d = s.drawn := mv.drawn
    have q3 : o = s.os := mv.os
    subst q1 q2 q3
    show wpAny _ _ _ _ _ (_ : Shared)
    refine wpAny_pure ?_
    show wpAny _ _ (ret Value.none) _ _ (_ : Shared)
    refine wpAny_pure ⟨rfl, g, m, n, rfl, b1, fun b ob e => ?_⟩
    have l0 := Heap.lt_size e
    refine mv.heap b ob ?_ (Heap.get?_push_of_some _ (Heap.get?_push_of_some _ e))
    rw [hs1]
    simp only [List.mem_cons, List.not_mem_nil, or_false]
    exact fun z => z.elim (Nat.ne_of_lt l0) (Nat.ne_of_lt (Nat.lt_succ_of_lt l0))
  · rcases r with e | fl
    · exact hr
    rcases fl with _ | v | _ | _
    all_goals try exact hr.elim
    obtain ⟨rfl, g, m, n, rfl, b1, b2⟩ := hr
    repeat (any_goals (first | wp_step | assumption))
    exact k _ _ _ b1 b2
end
end Ev

/-! Snd6: built-ins by values. -/
namespace Ev
open PySem PySem.Spec PySem.W PyProof.Rows L2

/-! ### the order -/
mutual
theorem alk_alike : ∀ (a b : Val), alk a b = true → alike (toD a) (toD b) = true
  | .int _, b, h => by cases b <;> first | (simp [toD, alike]; done) | simp [alk] at h
  | .str _, b, h => by cases b <;> first | (simp [toD, alike]; done) | simp [alk] at h
  | .tup xs, b, h => by
    cases b <;> first
      | (simp only [toD, alike]; exact alks_alike _ _ (by simpa [alk] using h))
      | simp [alk] at h
  | .lst xs, b, h => by
    cases b <;> first
      | (simp only [toD, alike]; exact alks_alike _ _ (by simpa [alk] using h))
      | simp [alk] at h
  | .non, b, h => by simp [alk] at h
  | .bl _, b, h => by simp [alk] at h
  | .dic _ _, b, h => by simp [alk] at h
  | .set _, b, h => by simp [alk] at h
  | .ref _, b, h => by simp [alk] at h
  | .exc _, b, h => by simp [alk] at h
  | .scr _, b, h => by simp [alk] at h
theorem alks_alike : ∀ (xs ys : List Val), alks xs ys = true → alikeAll (toDs xs) (toDs ys) = true
  | [], [], _ => by simp [toDs, alikeAll]
  | [], _ :: _, _ => by simp [toDs, alikeAll]
  | _ :: _, [], _ => by simp [toDs, alikeAll]
  | x :: xs, y :: ys, h => by
    rw [alks, Bool.and_eq_true] at h
    simp only [toDs, alikeAll, Bool.and_eq_true]
    exact ⟨alk_alike x y h.1, alks_alike xs ys h.2⟩
end
mutual
theorem alk_eqv : ∀ (a b : Val), alk a b = true → PyData.eqv (toD a) (toD b) = veq a b
  | .int _, b, h => by cases b <;> first | rfl | simp [alk] at h
  | .str _, b, h => by cases b <;> first | rfl | simp [alk] at h
  | .tup xs, b, h => by
    cases b <;> first
      | (simp only [toD, PyData.eqv, veq]; exact alks_eqv _ _ (by simpa [alk] using h))
      | simp [alk] at h
  | .lst xs, b, h => by
    cases b <;> first
      | (simp only [toD, PyData.eqv, veq]; exact alks_eqv _ _ (by simpa [alk] using h))
      | simp [alk] at h
  | .non, b, h => by simp [alk] at h
  | .bl _, b, h => by simp [alk] at h
  | .dic _ _, b, h => by simp [alk] at h
  | .set _, b, h => by simp [alk] at h
  | .ref _, b, h => by simp [alk] at h
  | .exc _, b, h => by simp [alk] at h
  | .scr _, b, h => by simp [alk] at h
theorem alks_eqv : ∀ (xs ys : List Val), alks xs ys = true → PyData.eqvAll (toDs xs) (toDs ys) = veqs xs ys
  | [], [], _ => by simp [toDs, PyData.eqvAll, veqs]
  | [], _ :: _, _ => by simp [toDs, PyData.eqvAll, veqs]
  | _ :: _, [], _ => by simp [toDs, PyData.eqvAll, veqs]
  | x :: xs, y :: ys, h => by
    rw [alks, Bool.and_eq_true] at h
    simp only [toDs, PyData.eqvAll, veqs]
    rw [alk_eqv x y h.1, alks_eqv xs ys h.2]
end
theorem lexNil (ys : List PyData) : PyProof.Rows.lexLt itemOrd (keyToksAll []) (keyToksAll ys) = !ys.isEmpty := by
  cases ys with
  | nil => exact lex_irrefl _
  | cons y ys =>
    rw [toks_all_cons]
    simp only [keyToksAll]
    rw [lex_diff (O := itemOrd) (by simp)]
    simp [itemLt, itemOrd, PyProof.Rows.lexLt]
theorem lexCons (x : PyData) (xs : List PyData) : PyProof.Rows.lexLt itemOrd (keyToksAll (x :: xs)) (keyToksAll []) = false := by
  rw [toks_all_cons]
  simp only [keyToksAll]
  rw [lex_diff (O := itemOrd) (by simp)]
  simp [itemLt, itemOrd, PyProof.Rows.lexLt]
mutual
theorem alk_lt : ∀ (a b : Val), alk a b = true → dataLt (toD a) (toD b) = vlt a b
  | .int _, b, h => by cases b <;> first | (simp only [toD, dataLt_int, vlt]; done) | simp [alk] at h
  | .str _, b, h => by cases b <;> first | (simp only [toD, dataLt_str, vlt]; done) | simp [alk] at h
  | .tup xs, b, h => by
    cases b <;> first
      | (simp only [toD, vlt]; rw [dataLt_tuple]; exact alks_lt _ _ (by simpa [alk] using h))
      | simp [alk] at h
  | .lst xs, b, h => by
    cases b <;> first
      | (simp only [toD, vlt]; rw [dataLt_list]; exact alks_lt _ _ (by simpa [alk] using h))
      | simp [alk] at h
  | .non, b, h => by simp [alk] at h
  | .bl _, b, h => by simp [alk] at h
  | .dic _ _, b, h => by simp [alk] at h
  | .set _, b, h => by simp [alk] at h
  | .ref _, b, h => by simp [alk] at h
  | .exc _, b, h => by simp [alk] at h
  | .scr _, b, h => by simp [alk] at h
theorem alks_lt : ∀ (xs ys : List Val), alks xs ys = true → PyProof.Rows.lexLt itemOrd (keyToksAll (toDs xs)) (keyToksAll (toDs ys)) = vlts xs ys
  | [], [], _ => by rw [toDs, lexNil]; simp [vlts]
  | [], _ :: _, _ => by rw [toDs, lexNil]; simp [toDs, vlts]
  | x :: xs, [], _ => by rw [toDs, toDs, lexCons]; simp [vlts]
  | x :: xs, y :: ys, h => by
    rw [alks, Bool.and_eq_true] at h
    simp only [toDs, vlts]
    rw [dataLt_cons (alk_alike x y h.1), alk_eqv x y h.1, alks_lt xs ys h.2, alk_lt x y h.1]
end
theorem sort_vals {xs : List Val} (h : ∀ a, a ∈ xs → ∀ b, b ∈ xs → alk a b = true) : xs.mergeSort (dataLe false toD) = vsort xs :=
  sort_congr fun a ha b hb => by
    rw [dataLe_eq]
    show (!dataLt (toD b) (toD a)) = _
    rw [alk_lt b a (h b hb a ha)]
    rfl
section
variable {X : Cx}
theorem each_rep {K : PySem.W.Frag} {w : World} {H : Hp} {r : List Addr} : ∀ {xs : List Val} {vs : List V} {us : List Value}, RepL K w H r xs vs [] → Vals vs us → EachIs (fun u x => ∃ v, RelV v u ∧ Rep K w H r x v []) us xs := by
  intro xs
  induction xs with
  | nil =>
    intro vs us l rv
    cases l
    cases rv
    exact .nil
  | cons x xs ih =>
    intro vs us l rv
    generalize hF : ([] : List Addr) = F at l
    cases l with
    | cons h t =>
      obtain ⟨rfl, rfl⟩ := List.append_eq_nil_iff.mp hF.symm
      cases rv with
      | cons a b => exact .cons ⟨_, a, h⟩ (ih t b)
theorem each_back {K : PySem.W.Frag} {w : World} {H : Hp} {r : List Addr} : ∀ {us : List Value} {xs : List Val}, EachIs (fun u x => ∃ v, RelV v u ∧ Rep K w H r x v []) us xs → ∃ vs, Vals vs us ∧ RepL K w H r xs vs []
  | _, _, .nil => ⟨[], .nil, .nil⟩
  | _, _, .cons ⟨v, a, h⟩ t => by
    obtain ⟨vs, b, l⟩ := each_back t
    exact ⟨v :: vs, .cons a b, .cons (F := []) h l⟩
theorem isDs_mem : ∀ {xs : List Val}, isDs xs = true → ∀ x, x ∈ xs → isD x = true
  | y :: ys, h, x, m => by
    rw [isDs, Bool.and_eq_true] at h
    rcases List.mem_cons.mp m with rfl | m
    · exact h.1
    · exact isDs_mem h.2 x m
theorem each_reads {pins : List (Addr × Obj)} {σ : L2.St} {H : Hp} {s : Shared} {r : List Addr} (I : Inv X pins σ H s) {xs : List Val} {us : List Value} (d : isDs xs = true) (e : EachIs (fun u x => ∃ v, RelV v u ∧ Rep X.K X.w H r x v []) us xs) :
    EachIs (fun u x => ∃ as, Reads s.heap u (toD x) as) us xs :=
  (each_mem e).mono fun u x ⟨⟨v, a, h⟩, m⟩ => Dp.reads I (toD x) v u (h.dp (isDs_mem d x m)) a
/-- sorted of a list, of a tuple -/
theorem cr_sortedV (hu : X.A.units + 200 < cLine) : CallR X (.builtin "sorted") (fun vs H Q => ∃ r a ys xs, vs = [.ref a] ∧ (SqL X.K H a ys ∨ SqT X.K H a ys) ∧ RepL X.K X.w H r xs ys [] ∧ sortOk xs = true ∧
    ∀ zs p, H p = none → RepL X.K X.w H r (vsort xs) zs [] → Q (.ref p) (upd H p (.lst zs))) := by
  intro pins s σ H vs us Q I rv h
  obtain ⟨r, a, ys, xs, rfl, hs, l, ok, q⟩ := h
  rw [Vals.ref1 rv]
  unfold sortOk at ok
  simp only [Bool.and_eq_true, List.all_eq_true, decide_eq_true_eq] at ok
  obtain ⟨od, oa⟩ := ok
  have al : ∀ a, a ∈ xs → ∀ b, b ∈ xs → alk a b = true := fun a ha b hb => (oa a ha).2 b hb
  have hal : AllAlike (xs.map toD) := by
    intro d hd d' hd'
    obtain ⟨x, hx, rfl⟩ := List.mem_map.mp hd
    obtain ⟨y, hy, rfl⟩ := List.mem_map.mp hd'
    exact alk_alike x y (al x hx y hy)
  have hk : (∀ b, b ∈ xs → ∃ zs, toD b = .tuple zs) ∨ Sortable (xs.map toD) := by
    cases xs with
    | nil => exact .inl fun b hb => by cases hb
    | cons x xs =>
      cases x with
      | tup zs =>
        refine .inl fun b hb => ?_
        have z := al _ List.mem_cons_self b hb
        cases b <;> first
          | exact ⟨_, rfl⟩
          | (simp [alk] at z)
      | _ =>
        refine .inr (.inr fun d hd => ?_)
        obtain ⟨b, hb, rfl⟩ := List.mem_map.mp hd
        have z := al _ List.mem_cons_self b hb
        cases b <;> first
          | (simp [alk] at z; done)
          | exact ⟨(fun e => nomatch e), (fun xs e => nomatch e)⟩
  have hub : ∀ b, b ∈ xs → X.A.units + 2 + (toD b).depth < cLine := fun b hb => by
    have h1 := (oa b hb).1
    have h2 := dep_toD b
    omega
  have fin : ∀ (its : List Value), Vals ys its → ys.length ≤ sizeLine → ∀ out, out.length = xs.length → EachIs (fun u x => ∃ v, RelV v u ∧ Rep X.K X.w H r x v []) out (xs.mergeSort (dataLe false toD)) →
      EP X pins σ Q (.ref (s.heap.objs.size + 1)) { s with heap := sortedAll s.heap its (List.toArray out) } := by
    intro its rv hz out ho e
    rw [sort_vals al] at e
    obtain ⟨zs, c, lz⟩ := each_back e
    obtain ⟨ep, he⟩ := PyProof.Rows.sortedAll_at s.heap its out.toArray
    have hl : zs.length ≤ sizeLine := by rw [c.length, ho, l.length]; exact hz
    exact ⟨.ref _, upd H (s.heap.objs.size + 1) (.lst zs), I.laid (t' := s.toks) (fun _ _ => PyProof.Rows.sortedAll_old) (Nat.le_succ _) ⟨hl, out, ep, c, he⟩, rfl, q zs _ (I.hok.fresh (Nat.le_succ _)) lz⟩
  rcases hs with hs | hs
  · obtain ⟨its, rv, hl, hz⟩ := I.list hs
    have e := each_rep l rv
    exact sorted_any hl.isList e (each_reads I od e) hal hk (by rw [l.length]; exact hz) hub (fin its rv hz)
  · obtain ⟨its, rv, hl, hz⟩ := I.tuple hs
    have e := each_rep l rv
    exact sorted_tup hl e (each_reads I od e) hal hk (by rw [l.length]; exact hz) hub (fin its rv hz)

/-! ### all of them -/
def bval : Bt → Value
  | .len => .builtin "len" | .tuple => .type "tuple" | .list => .type "list" | .sorted => .builtin "sorted" | .sum => .builtin "sum" | .max => .builtin "max" | .min => .builtin "min"
  | .set => .type "set" | .any => .builtin "any" | .all => .builtin "all" | .int => .type "int" | .str => .type "str"
def rBV (K : PySem.W.Frag) (w : World) (f : List Val → Res Val) : List V → Hp → VK → Prop := fun vs H Q => ∃ r ts p F, RepL K w H r ts vs F ∧ f ts = .ok p ∧ ∀ v H', New K w H H' r p v → Q v H'
theorem asI_some : ∀ {xs : List Val} {is : List Int}, asI xs = some is → xs = is.map .int
  | [], is, h => by
    obtain rfl : [] = is := Option.some.inj h
    rfl
  | x :: xs, is, h => by
    cases x <;> first
      | (simp only [asI] at h
         obtain ⟨js, e1, e2⟩ := Option.map_eq_some_iff.mp h
         rw [← e2, asI_some e1]
         rfl)
      | (simp [asI] at h)
theorem asB_some : ∀ {xs : List Val} {is : List Bool}, asB xs = some is → xs = is.map .bl
  | [], is, h => by
    obtain rfl : [] = is := Option.some.inj h
    rfl
  | x :: xs, is, h => by
    cases x <;> first
      | (simp only [asB] at h
         obtain ⟨js, e1, e2⟩ := Option.map_eq_some_iff.mp h
         rw [← e2, asB_some e1]
         rfl)
      | (simp [asB] at h)
theorem repL_int {K : PySem.W.Frag} {w : World} {H : Hp} {r : List Addr} : ∀ {is : List Int} {vs : List V} {F : List Addr}, RepL K w H r (is.map .int) vs F → vs = is.map V.int
  | [], _, _, l => by cases l; rfl
  | i :: is, _, _, l => by
    cases l with
    | cons h t => rw [vint h, repL_int t]; rfl
theorem repL_bl {K : PySem.W.Frag} {w : World} {H : Hp} {r : List Addr} : ∀ {is : List Bool} {vs : List V} {F : List Addr}, RepL K w H r (is.map .bl) vs F → vs = is.map V.bl
  | [], _, _, l => by cases l; rfl
  | i :: is, _, _, l => by
    cases l with
    | cons h t => rw [vbl h, repL_bl t]; rfl
theorem one_arg {K : PySem.W.Frag} {w : World} {H : Hp} {r : List Addr} {t : Val} {vs : List V} {F : List Addr} (l : RepL K w H r [t] vs F) : ∃ v G, vs = [v] ∧ Rep K w H r t v G := by
  cases l with
  | cons h t => cases t; exact ⟨_, _, rfl, h⟩
theorem two_args {K : PySem.W.Frag} {w : World} {H : Hp} {r : List Addr} {t u : Val} {vs : List V} {F : List Addr} (l : RepL K w H r [t, u] vs F) : ∃ v x G J, vs = [v, x] ∧ Rep K w H r t v G ∧ Rep K w H r u x J := by
  cases l with
  | cons h t =>
    cases t with
    | cons g t => cases t; exact ⟨_, _, _, _, rfl, h, g⟩
theorem fold_max : ∀ (l : List Int) (m : Int), (∀ y, y ∈ l → y ≤ l.foldl max m) ∧ m ≤ l.foldl max m ∧ (l.foldl max m = m ∨ l.foldl max m ∈ l)
  | [], m => ⟨fun y h => (by cases h), Int.le_refl _, .inl rfl⟩
  | x :: l, m => by
    obtain ⟨h1, h2, h3⟩ := fold_max l (max m x)
    refine ⟨fun y hy => ?_, ?_, ?_⟩
    · rcases List.mem_cons.mp hy with rfl | hy
      · exact Int.le_trans (Int.le_max_right _ _) h2
      · exact h1 y hy
    · exact Int.le_trans (Int.le_max_left _ _) h2
    · rcases h3 with h3 | h3
      · rw [List.foldl_cons]
        by_cases c : m ≤ x
        · right; rw [h3, Int.max_eq_right c]; exact List.mem_cons_self
        · left; rw [h3]; exact Int.max_eq_left (by omega)
      · right; exact List.mem_cons_of_mem _ h3
theorem fold_min : ∀ (l : List Int) (m : Int), (∀ y, y ∈ l → l.foldl min m ≤ y) ∧ l.foldl min m ≤ m ∧ (l.foldl min m = m ∨ l.foldl min m ∈ l)
  | [], m => ⟨fun y h => (by cases h), Int.le_refl _, .inl rfl⟩
  | x :: l, m => by
    obtain ⟨h1, h2, h3⟩ := fold_min l (min m x)
    refine ⟨fun y hy => ?_, ?_, ?_⟩
    · rcases List.mem_cons.mp hy with rfl | hy
      · exact Int.le_trans h2 (Int.min_le_right _ _)
      · exact h1 y hy
    · exact Int.le_trans h2 (Int.min_le_left _ _)
    · rcases h3 with h3 | h3
      · rw [List.foldl_cons]
        by_cases c : x ≤ m
        · right; rw [h3, Int.min_eq_right c]; exact List.mem_cons_self
        · left; rw [h3]; exact Int.min_eq_left (by omega)
      · right; exact List.mem_cons_of_mem _ h3
theorem once_mem : ∀ (l : List Int) (k : Int), k ∈ once l ↔ k ∈ l
  | [], k => by simp [once]
  | x :: l, k => by
    simp only [once, List.mem_cons, List.mem_filter, once_mem l k, bne_iff_ne, ne_eq]
    by_cases h : k = x <;> simp [h]
theorem once_nodup : ∀ (l : List Int), (once l).Nodup
  | [] => List.nodup_nil
  | x :: l => List.nodup_cons.mpr ⟨by simp [List.mem_filter], (once_nodup l).filter _⟩
theorem nodup_len {l m : List Int} (hl : l.Nodup) (hm : m.Nodup) (h : ∀ k, k ∈ l ↔ k ∈ m) : l.length = m.length :=
  ((List.perm_ext_iff_of_nodup hl hm).mpr h).length_eq
theorem setR_len {w : World} {h : Heap} {a : Addr} {ns : List Int} {c : Nat} (R : SetR w h a (fun j => decide (j ∈ ns)) c) : SetR w h a (fun j => decide (j ∈ once ns)) (once ns).length := by
  obtain ⟨o, es, ep, t, h1, h2, h3, h4, h5, h6, h7, h8, h9, h10⟩ := id R
  have e : c = (once ns).length := by
    rw [← h9, ← Array.length_toList, ← List.length_map (f := keyOf)]
    refine nodup_len h5 (once_nodup ns) fun k => ?_
    rw [once_mem, ← h6 k, decide_eq_true_eq]
  rw [← e]
  exact R.congr fun k => by
    by_cases q : k ∈ ns
    · rw [decide_eq_true q, decide_eq_true ((once_mem ns k).mpr q)]
    · rw [decide_eq_false q, decide_eq_false fun z => q ((once_mem ns k).mp z)]
theorem New.set {K : PySem.W.Frag} {w : World} {H : Hp} {r : List Addr} {p : Addr} {ks : List Int} (h : H p = none) (nd : ks.Nodup) : New K w H (upd H p (SetO w p (fun k => decide (k ∈ ks)) ks.length)) r (.set ks) (.ref p) := by
  refine ⟨[p], .set nd upd_same, List.nodup_cons.mpr ⟨by simp, List.nodup_nil⟩, fun a m => ?_, same_upd h⟩
  rcases List.mem_cons.mp m with rfl | m
  · exact h
  · cases m
/-- set(t) of a tuple of ints -/
theorem cr_setT : CallR X (.type "set") (fun vs H Q => X.calm = true ∧ ∃ a ns, vs = [.ref a] ∧ SqT X.K H a (ns.map V.int) ∧ ns.length ≤ 4000 ∧ ∀ p, H p = none → Q (.ref p) (upd H p (SetO X.w p (fun k => decide (k ∈ once ns)) (once ns).length))) := by
  intro pins s σ H vs us Q I rv h
  obtain ⟨hc, a, ns, rfl, hs, hl, q⟩ := h
  rw [Vals.ref1 rv]
  obtain ⟨its, rv, ht, hz⟩ := I.tuple hs
  have hp : s.heap.objs.size ≤ s.heap.objs.size := Nat.le_refl _
  refine call_set_tupI ns (I.ok.hd hc) ht (by simpa using rv.ints) (by unfold scanBound; omega) fun h' tk c R _ kp => ?_
  refine ⟨.ref s.heap.objs.size, _, I.laid (t' := tk) kp hp (setO_new (setR_len R)), rfl, q _ (I.hok.fresh hp)⟩
/-- set(l) of a list of ints -/
theorem cr_setL : CallR X (.type "set") (fun vs H Q => X.calm = true ∧ ∃ a ns, vs = [.ref a] ∧ SqL X.K H a (ns.map V.int) ∧ ns.length ≤ 4000 ∧ ∀ p, H p = none → Q (.ref p) (upd H p (SetO X.w p (fun k => decide (k ∈ once ns)) (once ns).length))) := by
  intro pins s σ H vs us Q I rv h
  obtain ⟨hc, a, ns, rfl, hs, hl, q⟩ := h
  rw [Vals.ref1 rv]
  obtain ⟨its, rv, ht, hz⟩ := I.list hs
  have hp : s.heap.objs.size ≤ s.heap.objs.size := Nat.le_refl _
  refine set_of_list ns (I.ok.hd hc) ht.isList (by simpa using rv.ints) (by unfold scanBound; omega) fun h' tk c R kp => ?_
  refine ⟨.ref s.heap.objs.size, _, I.laid (t' := tk) kp hp (setO_new (setR_len R)), rfl, q _ (I.hok.fresh hp)⟩
theorem sorted_le {l m : List Int} (h : m.Perm l) (s : m.Pairwise (· ≤ ·)) : m = l.mergeSort fun a b => decide (a ≤ b) := by
  have p : m.Perm (l.mergeSort fun a b => decide (a ≤ b)) := h.trans (List.mergeSort_perm _ _).symm
  refine p.eq_of_pairwise (le := (· ≤ ·)) (fun a b _ _ h1 h2 => Int.le_antisymm h1 h2) s ?_
  have q := List.pairwise_mergeSort (le := fun a b : Int => decide (a ≤ b)) (fun a b c h1 h2 => by simp at *; omega) (fun a b => by simp; omega) l
  exact q.imp fun h => by simpa using h
theorem call_lenSet : CallR X (.builtin "len") (fun vs H Q => ∃ a S n, vs = [.ref a] ∧ H a = some (SetO X.w a S n) ∧ n ≤ 4000 ∧ Q (.int n) H) := by
  intro pins s σ H vs us Q I rv h
  obtain ⟨a, S, n, rfl, hs, hn, q⟩ := h
  rw [Vals.ref1 rv]
  obtain ⟨o, es, ep, t, h1, h2, h3, h4, h5, h6, h7, h8, h9, h10⟩ := setO_get I hs
  refine call_len_set h1 h2 h3 h8 (by rw [h9] <;> omega) ⟨.int n, H, I.tok _, ⟨_, by rw [h9]⟩, q⟩
theorem cr_bltV (hu : X.A.units + 200 < cLine) (hc : X.calm = true) (b : Bt) : CallR X (bval b) (rBV X.K X.w (bltV b)) := by
  intro pins s σ H vs us Q I rv h
  obtain ⟨r, ts, p, F, l, hb, k⟩ := h
  have kI : ∀ i : Int, p = .int i → Q (.int i) H := fun i e => k _ _ (e ▸ New.int i)
  have kB : ∀ i : Bool, p = .bl i → Q (.bl i) H := fun i e => k _ _ (e ▸ New.bl i)
  rcases ts with _ | ⟨t, _ | ⟨u, _ | ⟨x, ts⟩⟩⟩
  · cases b <;> cases hb
  · obtain ⟨v, G, rfl, h1⟩ := one_arg l
    cases b with
    | len =>
      cases t <;> try (cases hb; done)
      · obtain rfl := vstr h1
        obtain ⟨g, e⟩ := guard_ok hb
        exact call_len_str pins s σ H _ us Q I rv ⟨_, rfl, lim_line (of_decide_eq_true g), kI _ (ok_inj e).symm⟩
      · obtain ⟨a, ys, rfl, qa, la⟩ := vtup h1
        exact call_len_seq pins s σ H _ us Q I rv ⟨_, ys, rfl, .inr (.of qa), kI _ (by rw [← ok_inj hb, la.length])⟩
      · obtain ⟨a, ys, G', rfl, qa, la⟩ := vlst h1
        exact call_len_seq pins s σ H _ us Q I rv ⟨_, ys, rfl, .inl (.of qa), kI _ (by rw [← ok_inj hb, la.length])⟩
      · cases h1 with
        | dicK e l2 => exact call_lenD pins s σ H _ us Q I rv ⟨_, _, rfl, e, kI _ (by rw [← ok_inj hb, l2.length])⟩
        | dicT e l2 => exact call_len_dT pins s σ H _ us Q I rv ⟨_, _, rfl, e, kI _ (by rw [← ok_inj hb, l2.length])⟩
      · cases h1 with
        | set nd e =>
          obtain ⟨g, e2⟩ := guard_ok hb
          exact call_lenSet pins s σ H _ us Q I rv ⟨_, _, _, rfl, e, of_decide_eq_true g, kI _ (ok_inj e2).symm⟩
      · obtain ⟨a, rfl, qa⟩ := vscr h1
        exact call_len_seq pins s σ H _ us Q I rv ⟨_, _, rfl, .inl qa, kI _ (by rw [← ok_inj hb, List.length_map])⟩
    | tuple =>
      cases t <;> try (cases hb; done)
      · obtain ⟨g, e⟩ := guard_ok hb
        obtain ⟨a, ys, rfl, qa, la⟩ := vtup h1
        exact call_tuple_of pins s σ H _ us Q I rv ⟨_, ys, rfl, .inr ⟨.of qa, k _ _ ((ok_inj e) ▸ New.old (.tup qa (la.plain g)))⟩⟩
      · obtain ⟨g, e⟩ := guard_ok hb
        obtain ⟨a, ys, G', rfl, qa, la⟩ := vlst h1
        exact call_tuple_of pins s σ H _ us Q I rv ⟨_, ys, rfl, .inl ⟨.of qa, fun p hp => k _ _ ((ok_inj e) ▸ New.tup hp (la.plain g))⟩⟩
    | list =>
      cases t <;> try (cases hb; done)
      · obtain ⟨g, e⟩ := guard_ok hb
        obtain ⟨a, ys, rfl, qa, la⟩ := vtup h1
        exact call_list_of pins s σ H _ us Q I rv ⟨_, ys, rfl, .inr (.of qa), fun p hp => k _ _ ((ok_inj e) ▸ New.lst hp (la.plain g))⟩
      · obtain ⟨g, e⟩ := guard_ok hb
        obtain ⟨a, ys, G', rfl, qa, la⟩ := vlst h1
        exact call_list_of pins s σ H _ us Q I rv ⟨_, ys, rfl, .inl (.of qa), fun p hp => k _ _ ((ok_inj e) ▸ New.lst hp (la.plain g))⟩
    | sorted =>
      cases t <;> try (cases hb; done)
      · obtain ⟨g, e⟩ := guard_ok hb
        rw [Bool.and_eq_true] at g
        obtain ⟨a, ys, rfl, qa, la⟩ := vtup h1
        exact cr_sortedV hu pins s σ H _ us Q I rv ⟨r, a, ys, _, rfl, .inr (.of qa), la.plain g.1, g.2, fun zs p hp lz => k _ _ ((ok_inj e) ▸ New.lst hp lz)⟩
      · obtain ⟨g, e⟩ := guard_ok hb
        rw [Bool.and_eq_true] at g
        obtain ⟨a, ys, G', rfl, qa, la⟩ := vlst h1
        exact cr_sortedV hu pins s σ H _ us Q I rv ⟨r, a, ys, _, rfl, .inl (.of qa), la.plain g.1, g.2, fun zs p hp lz => k _ _ ((ok_inj e) ▸ New.lst hp lz)⟩
      · rename_i d kvs
        cases d with
        | true => cases hb
        | false =>
          obtain ⟨is, e1, e2⟩ := bind_ok' hb
          obtain ⟨g, e2⟩ := guard_ok e2
          have g := of_decide_eq_true g
          cases h1 with
          | dicK e l2 =>
            have ek : ∀ {kvs : List (Val × Val)} {qs : List (L2.Key × V)} {is : List Int}, RepK X.K X.w H r kvs qs → kvs.map (·.1) = is.map Val.int → qs.map (·.1) = is.map Sum.inl := by
              intro kvs
              induction kvs with
              | nil =>
                intro qs is l e
                cases l
                cases is with
                | nil => rfl
                | cons i is => cases e
              | cons kv kvs ih =>
                intro qs is l e
                cases is with
                | nil => cases e
                | cons i is =>
                  cases l with
                  | int h t =>
                    simp only [List.map_cons, List.cons.injEq, Val.int.injEq] at e
                    rw [List.map_cons, List.map_cons, ih t e.2, e.1]
                  | str h t => simp at e
            refine call_sortedDI hc pins s σ H _ us Q I rv ⟨_, _, is, rfl, .of e, ek l2 (asI_some (of_ok e1)), g, fun ys p hp hs hn => k _ _ ?_⟩
            rw [← ok_inj e2, ← sorted_le hp hs]
            exact New.lst hn (repL_ints _)
      · cases h1 with
        | set nd e =>
          obtain ⟨g, e2⟩ := guard_ok hb
          refine cr_sortedSet hc pins s σ H _ us Q I rv ⟨_, _, _, rfl, e, of_decide_eq_true g, fun ns p hs hm hl hp => k _ _ ?_⟩
          have nn : ns.Nodup := hs.imp fun h => by omega
          have pm : ns.Perm _ := (List.perm_ext_iff_of_nodup nn nd).mpr fun k => by rw [hm k, decide_eq_true_eq]
          rw [← ok_inj e2, ← sorted_le pm (hs.imp fun h => by omega)]
          exact New.lst hp (repL_ints _)
    | sum =>
      cases t <;> try (cases hb; done)
      obtain ⟨is, e1, e2⟩ := bind_ok' hb
      obtain rfl := asI_some (of_ok e1)
      obtain ⟨a, ys, G', rfl, qa, la⟩ := vlst h1
      exact cr_sum hc pins s σ H _ us Q I rv ⟨_, is, rfl, repL_int la ▸ .of qa, kI _ (ok_inj e2).symm⟩
    | max =>
      cases t <;> try (cases hb; done)
      obtain ⟨is, e1, e2⟩ := bind_ok' hb
      obtain rfl := asI_some (of_ok e1)
      obtain ⟨a, ys, G', rfl, qa, la⟩ := vlst h1
      cases is with
      | nil => cases e2
      | cons i is =>
        obtain ⟨m1, m2, m3⟩ := fold_max is i
        refine cr_max hc pins s σ H _ us Q I rv ⟨_, i :: is, rfl, repL_int la ▸ .of qa, Nat.succ_pos _, fun m hm hle => kI _ ?_⟩
        rw [← ok_inj e2]
        refine congrArg Val.int (Int.le_antisymm ?_ ?_)
        · rcases m3 with m3 | m3
          · rw [m3]; exact hle i List.mem_cons_self
          · exact hle _ (List.mem_cons_of_mem _ m3)
        · rcases List.mem_cons.mp hm with rfl | hm
          · exact m2
          · exact m1 m hm
    | min =>
      cases t <;> try (cases hb; done)
      obtain ⟨is, e1, e2⟩ := bind_ok' hb
      obtain rfl := asI_some (of_ok e1)
      obtain ⟨a, ys, G', rfl, qa, la⟩ := vlst h1
      cases is with
      | nil => cases e2
      | cons i is =>
        obtain ⟨m1, m2, m3⟩ := fold_min is i
        refine cr_min hc pins s σ H _ us Q I rv ⟨_, i :: is, rfl, repL_int la ▸ .of qa, Nat.succ_pos _, fun m hm hle => kI _ ?_⟩
        rw [← ok_inj e2]
        refine congrArg Val.int (Int.le_antisymm ?_ ?_)
        · rcases List.mem_cons.mp hm with rfl | hm
          · exact m2
          · exact m1 m hm
        · rcases m3 with m3 | m3
          · rw [m3]; exact hle i List.mem_cons_self
          · exact hle _ (List.mem_cons_of_mem _ m3)
    | set =>
      cases t <;> try (cases hb; done)
      · obtain ⟨is, e1, e2⟩ := bind_ok' hb
        obtain ⟨g, e2⟩ := guard_ok e2
        obtain rfl := asI_some (of_ok e1)
        obtain ⟨a, ys, rfl, qa, la⟩ := vtup h1
        exact cr_setT pins s σ H _ us Q I rv ⟨hc, _, is, rfl, repL_int la ▸ .of qa, of_decide_eq_true g, fun p hp => k _ _ ((ok_inj e2) ▸ New.set hp (once_nodup is))⟩
      · obtain ⟨is, e1, e2⟩ := bind_ok' hb
        obtain ⟨g, e2⟩ := guard_ok e2
        obtain rfl := asI_some (of_ok e1)
        obtain ⟨a, ys, G', rfl, qa, la⟩ := vlst h1
        exact cr_setL pins s σ H _ us Q I rv ⟨hc, _, is, rfl, repL_int la ▸ .of qa, of_decide_eq_true g, fun p hp => k _ _ ((ok_inj e2) ▸ New.set hp (once_nodup is))⟩
    | any =>
      cases t <;> try (cases hb; done)
      obtain ⟨is, e1, e2⟩ := bind_ok' hb
      obtain rfl := asB_some (of_ok e1)
      obtain ⟨a, ys, G', rfl, qa, la⟩ := vlst h1
      exact cr_any hc pins s σ H _ us Q I rv ⟨_, is, rfl, repL_bl la ▸ .of qa, kB _ (ok_inj e2).symm⟩
    | all =>
      cases t <;> try (cases hb; done)
      obtain ⟨is, e1, e2⟩ := bind_ok' hb
      obtain rfl := asB_some (of_ok e1)
      obtain ⟨a, ys, G', rfl, qa, la⟩ := vlst h1
      exact cr_all hc pins s σ H _ us Q I rv ⟨_, is, rfl, repL_bl la ▸ .of qa, kB _ (ok_inj e2).symm⟩
    | int =>
      cases t <;> try (cases hb; done)
      · obtain rfl := vbl h1
        exact call_int1 pins s σ H _ us Q I rv (.inr ⟨_, rfl, kI _ (ok_inj hb).symm⟩)
      · obtain rfl := vint h1
        exact call_int1 pins s σ H _ us Q I rv (.inl ⟨_, rfl, kI _ (ok_inj hb).symm⟩)
      · obtain rfl := vstr h1
        obtain ⟨n, e1, e2⟩ := bind_ok' hb
        obtain ⟨g, e⟩ := guard_ok e2
        exact call_int_str pins s σ H _ us Q I rv ⟨_, _, rfl, of_ok e1, of_decide_eq_true g, kI _ (ok_inj e).symm⟩
    | str =>
      cases t <;> try (cases hb; done)
      · obtain rfl := vint h1
        obtain ⟨g, e⟩ := guard_ok hb
        have g := of_decide_eq_true g
        refine call_str_int pins s σ H _ us Q I rv ⟨_, rfl, ?_, k _ _ ((ok_inj e) ▸ New.str _)⟩
        rename_i i _
        by_cases z : i.natAbs = 0
        · rw [z]; decide
        · refine (Nat.log2_lt z).mpr (Nat.lt_of_lt_of_le g ?_)
          exact Nat.le_trans (show 10000000000 ≤ 2 ^ 34 by decide) (Nat.pow_le_pow_right (by decide) (by decide))
      · obtain rfl := vstr h1
        exact SkE.call_str_str pins s σ H _ us Q I rv ⟨_, rfl, k _ _ ((ok_inj hb) ▸ New.str _)⟩
  · obtain ⟨v, y, G, J, rfl, h1, h2⟩ := two_args l
    cases b with
    | max =>
      cases t <;> cases u <;> try (simp [bltV] at hb; done)
      obtain rfl := vint h1
      obtain rfl := vint h2
      exact call_max2 hc pins s σ H _ us Q I rv ⟨_, _, rfl, kI _ (by simp only [bltV] at hb; exact (ok_inj hb).symm)⟩
    | min =>
      cases t <;> cases u <;> try (simp [bltV] at hb; done)
      obtain rfl := vint h1
      obtain rfl := vint h2
      exact call_min2 hc pins s σ H _ us Q I rv ⟨_, _, rfl, kI _ (by simp only [bltV] at hb; exact (ok_inj hb).symm)⟩
    | _ => simp [bltV] at hb
  · cases b <;> simp [bltV] at hb
end
end Ev

/-! Snd7: the rules of the layer by the evaluator: expressions one by one. -/
namespace Ev
open PySem PySem.Spec PyProof.Rows L2

def REnv (K : PySem.W.Frag) (w : World) (H : Hp) (r : List Addr) (env : Env) (σ : L2.St) : Prop :=
  ∀ (i : Nat) (x : Val), env[i]? = some (some x) → ∃ v F, σ[i]? = some (some v) ∧ Rep K w H r x v F ∧ ∀ a, a ∈ F → a ∉ r
/-- what an outcome is asked for -/
def Pst (K : PySem.W.Frag) (w : World) (H : Hp) (r : List Addr) (x : Val) (S' : Sto) (fr : Bool) (Q : VK) : Prop :=
  ∀ v H' r' F, Rep K w H' r' x v F → (∀ a, a ∈ F → a ∉ r') → RSto K w H' r' S' → Stp H H' r r' → (fr = true → F.Nodup ∧ ∀ a, a ∈ F → H a = none) → Q v H'
def TEv (K : PySem.W.Frag) (w : World) (f : Env → Sto → Res (Val × Sto)) (fr : Bool) : TE := fun σ H Q =>
  ∃ env S r x S', REnv K w H r env σ ∧ RSto K w H r S ∧ f env S = .ok (x, S') ∧ Pst K w H r x S' fr Q
/-- a test -/
def TTv (K : PySem.W.Frag) (w : World) (f : Env → Sto → Res (Val × Sto)) : TT := fun σ H Q =>
  ∃ env S r b S', REnv K w H r env σ ∧ RSto K w H r S ∧ f env S = .ok (.bl b, S') ∧ ∀ H' r', RSto K w H' r' S' → Stp H H' r r' → Q b H'
/-- arguments -/
def TAv (K : PySem.W.Frag) (w : World) (f : Env → Sto → Res (List Val × Sto)) (fr : Bool) : TA := fun σ H Q =>
  ∃ env S r xs S', REnv K w H r env σ ∧ RSto K w H r S ∧ f env S = .ok (xs, S') ∧
    ∀ vs H' r' F, RepL K w H' r' xs vs F → (∀ a, a ∈ F → a ∉ r') → RSto K w H' r' S' → Stp H H' r r' → (fr = true → F.Nodup ∧ ∀ a, a ∈ F → H a = none) → Q vs H'
/-- what a call promises -/
def spV (K : PySem.W.Frag) (w : World) (f : List Val → Sto → Res (Val × Sto)) : Sp := fun vs H Q E =>
  ∃ S r xs F, RepL K w H r xs vs F ∧ (∀ a, a ∈ F → a ∉ r) ∧ RSto K w H r S ∧ ((∃ x S', f xs S = .ok (x, S') ∧ Pst K w H r x S' true Q) ∨ ∃ c S', f xs S = .exc c S' ∧ ∀ H' r', RSto K w H' r' S' → Stp H H' r r' → E (.ref (clsA K c)) none H')

theorem REnv.step {K : PySem.W.Frag} {w : World} {H H' : Hp} {r r' : List Addr} {env : Env} {σ : L2.St} (h : REnv K w H r env σ) (s : Stp H H' r r') : REnv K w H' r' env σ := fun i x e => by
  obtain ⟨v, F, h1, h2, h3⟩ := h i x e
  exact ⟨v, F, h1, h2.step h3 s, s.off h2.there h3⟩
theorem Stp.none {H H' : Hp} {r r' : List Addr} (s : Stp H H' r r') {a : Addr} (h : H' a = .none) : H a = .none := by
  cases q : H a with
  | none => rfl
  | some o => exact absurd h (s.there a (by rw [q]; exact fun z => nomatch z))
theorem RSto.nmem {K : PySem.W.Frag} {w : World} {H : Hp} {r : List Addr} {S : Sto} (h : RSto K w H r S) {a : Addr} (e : H a = none) : a ∉ r := fun m => h.there m e
theorem Stp.upd {H : Hp} {r : List Addr} {p : Addr} {o : HO} (h : H p = .none) : Stp H (upd H p o) r r := .same (same_upd h)
theorem Pst.new {K : PySem.W.Frag} {w : World} {H H1 H' : Hp} {r r1 : List Addr} {x : Val} {v : V} {S' : Sto} {fr : Bool} {Q : VK} (k : Pst K w H r x S' fr Q) (n : New K w H1 H' r1 x v) (s : RSto K w H1 r1 S') (t : Stp H H1 r r1) : Q v H' := by
  obtain ⟨F, rep, nd, fre, sm⟩ := n
  exact k v H' r1 F rep (fun a m => s.nmem (fre a m)) (s.same sm) (t.trans (.same sm)) fun _ => ⟨nd, fun a m => t.none (fre a m)⟩
theorem Pst.at_ {K : PySem.W.Frag} {w : World} {H H1 : Hp} {r r1 : List Addr} {x : Val} {v : V} {F : List Addr} {S' : Sto} {Q : VK} (k : Pst K w H r x S' false Q) (n : Rep K w H1 r1 x v F) (o : ∀ a, a ∈ F → a ∉ r1) (s : RSto K w H1 r1 S') (t : Stp H H1 r r1) : Q v H1 :=
  k v H1 r1 F n o s t fun z => nomatch z
theorem pe_w {X : Cx} {e : Expr} {t t' : TE} (h : PE X e t) (k : ∀ σ H Q, t' σ H Q → t σ H Q) : PE X e t' := ⟨fun pins s σ H Q I q => h.run pins s σ H Q I (k σ H Q q)⟩
theorem pt_w {X : Cx} {e : Expr} {t t' : TT} (h : PT X e t) (k : ∀ σ H Q, t' σ H Q → t σ H Q) : PT X e t' := ⟨fun pins s σ H Q I q => h.run pins s σ H Q I (k σ H Q q)⟩
theorem pw_w {X : Cx} {e : Expr} {t t' : TT} (h : PW X e t) (k : ∀ σ H Q, t' σ H Q → t σ H Q) : PW X e t' := ⟨fun wh pins s σ H Q I q => h.run wh pins s σ H Q I (k σ H Q q)⟩
theorem pa_w {X : Cx} {e : List Expr} {t t' : TA} (h : PA X e t) (k : ∀ σ H Q, t' σ H Q → t σ H Q) : PA X e t' := ⟨fun pos pins s σ H Q I q => h.run pos pins s σ H Q I (k σ H Q q)⟩
theorem pi_w {X : Cx} {tg e : Expr} {t t' : TI} (h : PI X tg e t) (k : ∀ σ H Q, t' σ H Q → t σ H Q) : PI X tg e t' := ⟨fun pins s σ H Q I q => h.run pins s σ H Q I (k σ H Q q)⟩
theorem ps_w {X : Cx} {e : Stmt} {t t' : TS} (h : PS X e t) (k : ∀ D σ H, t' D σ H → t D σ H) : PS X e t' := ⟨fun pins s σ H D I q => h.run pins s σ H D I (k D σ H q)⟩
theorem pss_w {X : Cx} {e : List Stmt} {t t' : TS} (h : PSs X e t) (k : ∀ D σ H, t' D σ H → t D σ H) : PSs X e t' := ⟨fun pins s σ H D I q => h.run pins s σ H D I (k D σ H q)⟩

theorem isB_ok {v : Val} {b : Bool} (h : isB v = .ok b) : v = .bl b := by
  cases v <;> first | (cases h; rfl) | cases h

section
variable {X : Cx} {pos : Pos} {pg : Pg} {cl : CallT} {K : PySem.W.Frag} {w : World}

theorem s_var {i : Nat} {x : Str} (hN : X.N[i]? = some x) (hv : Vis X.env.scope x) (hd : (x == ("__debug__" : Str)) = false) (hcd : (x == ("__classdict__" : Str)) = false) : PE X (.Name x pos) (TEv X.K X.w (evE pg cl (.var i)) false) :=
  pe_w (pe_var hN hv hd hcd) fun σ H Q ⟨env, S, r, x, S', RE, RS, ev, k⟩ => by
    simp only [evE] at ev
    split at ev
    · rename_i v e
      cases ev
      obtain ⟨u, F, h1, h2, h3⟩ := RE i _ e
      exact ⟨u, h1, k.at_ h2 h3 RS .refl⟩
    · cases ev
theorem s_int {i : Int} {j : Nat} : PE X (.Constant (.int i) j pos) (TEv X.K X.w (evE pg cl (.int i)) true) :=
  pe_w pe_int fun σ H Q ⟨env, S, r, x, S', RE, RS, ev, k⟩ => by
    simp only [evE] at ev; cases ev
    exact k.new (.int i) RS .refl
theorem s_str {i : Str} {j : Nat} : PE X (.Constant (.str i) j pos) (TEv X.K X.w (evE pg cl (.str i)) true) :=
  pe_w pe_str fun σ H Q ⟨env, S, r, x, S', RE, RS, ev, k⟩ => by
    simp only [evE] at ev; cases ev
    exact k.new (.str i) RS .refl
theorem s_bl {i : Bool} {j : Nat} : PE X (.Constant (.bool i) j pos) (TEv X.K X.w (evE pg cl (.bl i)) true) :=
  pe_w pe_bl fun σ H Q ⟨env, S, r, x, S', RE, RS, ev, k⟩ => by
    simp only [evE] at ev; cases ev
    exact k.new (.bl i) RS .refl
theorem s_non {j : Nat} : PE X (.Constant .none j pos) (TEv X.K X.w (evE pg cl .non) true) :=
  pe_w pe_non fun σ H Q ⟨env, S, r, x, S', RE, RS, ev, k⟩ => by
    simp only [evE] at ev; cases ev
    exact k.new .non RS .refl
/-- constants of the module that stand for themselves -/
def conV : Val → Option V
  | .non => some .non
  | .bl b => some (.bl b)
  | .int i => some (.int i)
  | .str s => some (.str s)
  | _ => none
theorem s_glob {n : Nat} {x : Str} (hg : Gl X x) (h : ∃ c v u, pg.con n = some c ∧ conV c = some v ∧ X.mg x = some u ∧ RelV v u) (hd : (x == ("__debug__" : Str)) = false) : PE X (.Name x pos) (TEv X.K X.w (evE pg cl (.glob n)) true) := by
  obtain ⟨c, v, u, h1, h2, h3, h4⟩ := h
  refine pe_w (pe_glob hg h3 h4 hd) fun σ H Q ⟨env, S, r, x, S', RE, RS, ev, k⟩ => ?_
  simp only [evE, h1, of_some, bind_ok] at ev
  obtain ⟨g, ev⟩ := guard_ok ev
  cases ev
  show Q v H
  cases c <;> try (cases h2; done)
  · cases h2; exact k.new .non RS .refl
  · cases h2; exact k.new (.bl _) RS .refl
  · cases h2; exact k.new (.int _) RS .refl
  · cases h2; exact k.new (.str _) RS .refl

variable {a b c : Expr} {ca cb cc : E} {fa fb fc : Bool}
theorem s_bin {op : BOp} (ha : PE X a (TEv X.K X.w (evE pg cl ca) fa)) (hb : PE X b (TEv X.K X.w (evE pg cl cb) fb)) : PE X (.BinOp a (opOf op) b pos) (TEv X.K X.w (evE pg cl (.bin op ca cb)) true) :=
  pe_w (pe_op (op_binV op) ha hb) fun σ H Q ⟨env, S, r, x, S', RE, RS, ev, k⟩ => by
    simp only [evE] at ev
    obtain ⟨p, e1, ev⟩ := bind_ok' ev
    obtain ⟨q, e2, ev⟩ := bind_ok' ev
    obtain ⟨v, e3, ev⟩ := bind_ok' ev
    cases ev
    refine ⟨env, S, r, p.1, p.2, RE, RS, e1, fun v1 H1 r1 F1 p1 o1 s1 t1 _ => ⟨env, p.2, r1, q.1, q.2, RE.step t1, s1, e2, fun v2 H2 r2 F2 p2 o2 s2 t2 _ => ?_⟩⟩
    obtain ⟨G1, d1⟩ := (p1.step o1 t2).dr s2
    obtain ⟨G2, d2⟩ := p2.dr s2
    exact ⟨r2, _, _, _, G1, G2, d1, d2, e3, fun v3 H3 n => k.new n s2 (t1.trans t2)⟩
theorem s_neg (ha : PE X a (TEv X.K X.w (evE pg cl ca) fa)) : PE X (.UnaryOp .USub a pos) (TEv X.K X.w (evE pg cl (.neg ca)) true) :=
  pe_w (pe_un un_neg ha) fun σ H Q ⟨env, S, r, x, S', RE, RS, ev, k⟩ => by
    simp only [evE] at ev
    obtain ⟨p, e1, ev⟩ := bind_ok' ev
    refine ⟨env, S, r, p.1, p.2, RE, RS, e1, fun v1 H1 r1 F1 p1 o1 s1 t1 _ => ?_⟩
    split at ev
    · rename_i i e
      cases ev
      rw [e] at p1
      exact ⟨i, vint p1, k.new (.int _) s1 t1⟩
    · cases ev
theorem s_cmp (hu : X.A.units + 200 < cLine) {op : COp} (ha : PE X a (TEv X.K X.w (evE pg cl ca) fa)) (hb : PE X b (TEv X.K X.w (evE pg cl cb) fb)) (hm : behindInMarks (cpOf op) b = false) : PE X (.Compare a [cpOf op] [b] pos) (TEv X.K X.w (evE pg cl (.cmp op ca cb)) true) :=
  pe_w (pe_cmpR (op_cmpV hu op) ha hb hm) fun σ H Q ⟨env, S, r, x, S', RE, RS, ev, k⟩ => by
    simp only [evE] at ev
    obtain ⟨p, e1, ev⟩ := bind_ok' ev
    obtain ⟨q, e2, ev⟩ := bind_ok' ev
    obtain ⟨v, e3, ev⟩ := bind_ok' ev
    cases ev
    refine ⟨env, S, r, p.1, p.2, RE, RS, e1, fun v1 H1 r1 F1 p1 o1 s1 t1 _ => ⟨env, p.2, r1, q.1, q.2, RE.step t1, s1, e2, fun v2 H2 r2 F2 p2 o2 s2 t2 _ => ?_⟩⟩
    obtain ⟨G1, d1⟩ := (p1.step o1 t2).dr s2
    obtain ⟨G2, d2⟩ := p2.dr s2
    exact ⟨r2, _, _, _, G1, G2, d1, d2, e3, fun v3 H3 n => k.new n s2 (t1.trans t2)⟩
theorem New.bl_inv {H H' : Hp} {r : List Addr} {b : Bool} {v : V} (n : New K w H H' r (.bl b) v) : v = .bl b ∧ Same H H' := by
  obtain ⟨F, rep, _, _, sm⟩ := n
  exact ⟨vbl rep, sm⟩
theorem t_cmp (hu : X.A.units + 200 < cLine) {op : COp} (ha : PE X a (TEv X.K X.w (evE pg cl ca) fa)) (hb : PE X b (TEv X.K X.w (evE pg cl cb) fb)) (hm : behindInMarks (cpOf op) b = false) : PT X (.Compare a [cpOf op] [b] pos) (TTv X.K X.w (evE pg cl (.cmp op ca cb))) :=
  pt_w (pt_cmpR (op_cmpV hu op) ha hb hm) fun σ H Q ⟨env, S, r, x, S', RE, RS, ev, k⟩ => by
    simp only [evE] at ev
    obtain ⟨p, e1, ev⟩ := bind_ok' ev
    obtain ⟨q, e2, ev⟩ := bind_ok' ev
    obtain ⟨v, e3, ev⟩ := bind_ok' ev
    cases ev
    refine ⟨env, S, r, p.1, p.2, RE, RS, e1, fun v1 H1 r1 F1 p1 o1 s1 t1 _ => ⟨env, p.2, r1, q.1, q.2, RE.step t1, s1, e2, fun v2 H2 r2 F2 p2 o2 s2 t2 _ => ?_⟩⟩
    obtain ⟨G1, d1⟩ := (p1.step o1 t2).dr s2
    obtain ⟨G2, d2⟩ := p2.dr s2
    refine ⟨r2, _, _, _, G1, G2, d1, d2, e3, fun v3 H3 n => ?_⟩
    obtain ⟨e, sm⟩ := n.bl_inv
    exact ⟨_, e, k _ r2 (s2.same sm) ((t1.trans t2).trans (.same sm))⟩
/-- a test by its value -/
theorem t_val (he : ∀ whole, isTrue a X.env whole = (do let v ← whole; standAt a.pos; holding [v] (truthy v))) (ha : PE X a (TEv X.K X.w (evE pg cl ca) fa)) : PT X a (TTv X.K X.w (evE pg cl ca)) :=
  pt_w (pt_val ha he) fun σ H Q ⟨env, S, r, x, S', RE, RS, ev, k⟩ =>
    ⟨env, S, r, _, S', RE, RS, ev, fun v1 H1 r1 F1 p1 o1 s1 t1 _ => ⟨_, vbl p1, k _ _ s1 t1⟩⟩
/-- .. and back: the value is a truth, plainly -/
theorem s_chain (hu : X.A.units + 200 < cLine) {op op' : COp} (ha : PE X a (TEv X.K X.w (evE pg cl ca) fa)) (hb : PE X b (TEv X.K X.w (evE pg cl cb) fb)) (hc : PE X c (TEv X.K X.w (evE pg cl cc) fc)) (hm : lastMarks [cpOf op, cpOf op'] [b, c] = false) :
    PE X (.Compare a [cpOf op, cpOf op'] [b, c] pos) (TEv X.K X.w (evE pg cl (.chain op op' ca cb cc)) true) ∧ PT X (.Compare a [cpOf op, cpOf op'] [b, c] pos) (TTv X.K X.w (evE pg cl (.chain op op' ca cb cc))) := by
  have go : ∀ σ H Q, TEv X.K X.w (evE pg cl (.chain op op' ca cb cc)) true σ H Q → tChain (r2V X.K X.w (cmpV op)) (r2V X.K X.w (cmpV op')) (TEv X.K X.w (evE pg cl ca) fa) (TEv X.K X.w (evE pg cl cb) fb) (TEv X.K X.w (evE pg cl cc) fc) σ H Q := fun σ H Q ⟨env, S, r, x, S', RE, RS, ev, k⟩ => by
    simp only [evE] at ev
    obtain ⟨p, e1, ev⟩ := bind_ok' ev
    obtain ⟨q, e2, ev⟩ := bind_ok' ev
    obtain ⟨v, e3, ev⟩ := bind_ok' ev
    obtain ⟨kb, e4, ev⟩ := bind_ok' ev
    rw [isB_ok e4] at e3
    refine ⟨env, S, r, p.1, p.2, RE, RS, e1, fun v1 H1 r1 F1 p1 o1 s1 t1 _ => ⟨env, p.2, r1, q.1, q.2, RE.step t1, s1, e2, fun v2 H2 r2 F2 p2 o2 s2 t2 _ => ?_⟩⟩
    refine ⟨r2, _, _, _, F1, F2, p1.step o1 t2, p2, e3, fun v3 H3 n => ?_⟩
    obtain ⟨e, sm⟩ := n.bl_inv
    refine ⟨kb, e, ?_⟩
    have st3 : Stp H H3 r r2 := (t1.trans t2).trans (.same sm)
    have s3 := s2.same sm
    cases kb with
    | false =>
      rw [if_neg (by exact fun z => nomatch z)] at ev ⊢
      cases ev
      exact k.new (.bl false) s3 st3
    | true =>
      rw [if_pos rfl] at ev ⊢
      obtain ⟨rr, e5, ev⟩ := bind_ok' ev
      obtain ⟨ww, e6, ev⟩ := bind_ok' ev
      cases ev
      refine ⟨env, q.2, r2, rr.1, rr.2, RE.step st3, s3, e5, fun v4 H4 r4 F4 p4 o4 s4 t4 _ => ?_⟩
      exact ⟨r4, _, _, _, F2, F4, (p2.step o2 (.same sm)).step o2 t4, p4, e6, fun v5 H5 n5 => k.new n5 s4 (st3.trans t4)⟩
  refine ⟨pe_w (pe_chain (op_cmpV hu op) (op_cmpV hu op') ha hb hc hm) fun σ H Q h => go σ H Q h, pt_w (pt_chain (op_cmpV hu op) (op_cmpV hu op') ha hb hc hm) fun σ H Q ⟨env, S, r, x, S', RE, RS, ev, k⟩ => go σ H _ ⟨env, S, r, _, S', RE, RS, ev, fun v1 H1 r1 F1 p1 o1 s1 t1 _ => ⟨_, vbl p1, k _ _ s1 t1⟩⟩⟩

theorem s_not (ha : PE X a (TEv X.K X.w (evE pg cl ca) fa)) : PE X (.UnaryOp .Not a pos) (TEv X.K X.w (evE pg cl (.not ca)) true) :=
  pe_w (pe_not ha) fun σ H Q ⟨env, S, r, x, S', RE, RS, ev, k⟩ => by
    simp only [evE] at ev
    obtain ⟨p, e1, ev⟩ := bind_ok' ev
    obtain ⟨kb, e4, ev⟩ := bind_ok' ev
    cases ev
    refine ⟨env, S, r, p.1, p.2, RE, RS, e1, fun v1 H1 r1 F1 p1 o1 s1 t1 _ => ?_⟩
    rw [isB_ok e4] at p1
    exact ⟨kb, vbl p1, k.new (.bl _) s1 t1⟩
theorem t_not (ha : PT X a (TTv X.K X.w (evE pg cl ca))) : PT X (.UnaryOp .Not a pos) (TTv X.K X.w (evE pg cl (.not ca))) :=
  pt_w (pt_not ha) fun σ H Q ⟨env, S, r, x, S', RE, RS, ev, k⟩ => by
    simp only [evE] at ev
    obtain ⟨p, e1, ev⟩ := bind_ok' ev
    obtain ⟨kb, e4, ev⟩ := bind_ok' ev
    cases ev
    have e5 := isB_ok e4
    refine ⟨env, S, r, kb, p.2, RE, RS, by rw [e1, ← e5], fun H1 r1 s1 t1 => k _ _ s1 t1⟩
theorem s_ifx {tc : E} {t : Expr} (ht : PT X t (TTv X.K X.w (evE pg cl tc))) (ha : PE X a (TEv X.K X.w (evE pg cl ca) fa)) (hb : PE X b (TEv X.K X.w (evE pg cl cb) fb)) : PE X (.IfExp t a b pos) (TEv X.K X.w (evE pg cl (.ifx tc ca cb)) false) :=
  pe_w (pe_ifExp ht ha hb) fun σ H Q ⟨env, S, r, x, S', RE, RS, ev, k⟩ => by
    simp only [evE] at ev
    obtain ⟨p, e1, ev⟩ := bind_ok' ev
    obtain ⟨kb, e4, ev⟩ := bind_ok' ev
    have e5 := isB_ok e4
    refine ⟨env, S, r, kb, p.2, RE, RS, by rw [e1, ← e5], fun H1 r1 s1 t1 => ?_⟩
    cases kb with
    | false =>
      rw [if_neg (by exact fun z => nomatch z)] at ev ⊢
      exact ⟨env, p.2, r1, x, S', RE.step t1, s1, ev, fun v2 H2 r2 F2 p2 o2 s2 t2 _ => k.at_ p2 o2 s2 (t1.trans t2)⟩
    | true =>
      rw [if_pos rfl] at ev ⊢
      exact ⟨env, p.2, r1, x, S', RE.step t1, s1, ev, fun v2 H2 r2 F2 p2 o2 s2 t2 _ => k.at_ p2 o2 s2 (t1.trans t2)⟩
end
end Ev

/-! Snd8: and, or; arguments, tuples, lists, calls, items, slices. -/
namespace Ev
open PySem PySem.Spec PyProof.Rows L2

section
variable {X : Cx} {pos : Pos} {pg : Pg} {cl : CallT} {a b : Expr} {es : List Expr} {ca cb : E} {cs : Es} {fa fb : Bool}
theorem s_and1 (ha : PE X a (TEv X.K X.w (evE pg cl ca) fa)) : PE X (.BoolOp .And [a] pos) (TEv X.K X.w (evAnd pg cl (.cons ca .nil)) true) :=
  pe_w (pe_one ha) fun σ H Q ⟨env, S, r, x, S', RE, RS, ev, k⟩ => by
    simp only [evAnd] at ev
    obtain ⟨p, e1, ev⟩ := bind_ok' ev
    obtain ⟨kb, e4, ev⟩ := bind_ok' ev
    cases ev
    refine ⟨env, S, r, p.1, p.2, RE, RS, e1, fun v1 H1 r1 F1 p1 o1 s1 t1 _ => ?_⟩
    rw [isB_ok e4] at p1
    rw [vbl p1]
    exact k.new (.bl _) s1 t1
theorem s_or1 (ha : PE X a (TEv X.K X.w (evE pg cl ca) fa)) : PE X (.BoolOp .Or [a] pos) (TEv X.K X.w (evOr pg cl (.cons ca .nil)) true) :=
  pe_w (pe_one ha) fun σ H Q ⟨env, S, r, x, S', RE, RS, ev, k⟩ => by
    simp only [evOr] at ev
    obtain ⟨p, e1, ev⟩ := bind_ok' ev
    obtain ⟨kb, e4, ev⟩ := bind_ok' ev
    cases ev
    refine ⟨env, S, r, p.1, p.2, RE, RS, e1, fun v1 H1 r1 F1 p1 o1 s1 t1 _ => ?_⟩
    rw [isB_ok e4] at p1
    rw [vbl p1]
    exact k.new (.bl _) s1 t1
theorem t_and1 (ha : PT X a (TTv X.K X.w (evE pg cl ca))) : PW X (.BoolOp .And [a] pos) (TTv X.K X.w (evAnd pg cl (.cons ca .nil))) :=
  pw_w (pw_and1 ha) fun σ H Q ⟨env, S, r, x, S', RE, RS, ev, k⟩ => by
    simp only [evAnd] at ev
    obtain ⟨p, e1, ev⟩ := bind_ok' ev
    obtain ⟨kb, e4, ev⟩ := bind_ok' ev
    cases ev
    exact ⟨env, S, r, _, p.2, RE, RS, by rw [e1, ← isB_ok e4], k⟩
theorem t_or1 (ha : PT X a (TTv X.K X.w (evE pg cl ca))) : PW X (.BoolOp .Or [a] pos) (TTv X.K X.w (evOr pg cl (.cons ca .nil))) :=
  pw_w (pw_or1 ha) fun σ H Q ⟨env, S, r, x, S', RE, RS, ev, k⟩ => by
    simp only [evOr] at ev
    obtain ⟨p, e1, ev⟩ := bind_ok' ev
    obtain ⟨kb, e4, ev⟩ := bind_ok' ev
    cases ev
    exact ⟨env, S, r, _, p.2, RE, RS, by rw [e1, ← isB_ok e4], k⟩
theorem s_and {cc : E} (ha : PE X a (TEv X.K X.w (evE pg cl ca) fa)) (hb : PE X (.BoolOp .And (b :: es) pos) (TEv X.K X.w (evAnd pg cl (.cons cc cs)) true)) : PE X (.BoolOp .And (a :: b :: es) pos) (TEv X.K X.w (evAnd pg cl (.cons ca (.cons cc cs))) true) :=
  pe_w (pe_and ha hb) fun σ H Q ⟨env, S, r, x, S', RE, RS, ev, k⟩ => by
    rw [evAnd.eq_3 (x_3 := by intro h; cases h)] at ev
    obtain ⟨p, e1, ev⟩ := bind_ok' ev
    obtain ⟨kb, e4, ev⟩ := bind_ok' ev
    refine ⟨env, S, r, p.1, p.2, RE, RS, e1, fun v1 H1 r1 F1 p1 o1 s1 t1 _ => ?_⟩
    rw [isB_ok e4] at p1
    refine ⟨kb, vbl p1, ?_⟩
    cases kb with
    | false =>
      rw [if_neg (by exact fun z => nomatch z)] at ev ⊢
      cases ev
      exact k.new (.bl _) s1 t1
    | true =>
      rw [if_pos rfl] at ev ⊢
      exact ⟨env, p.2, r1, x, S', RE.step t1, s1, ev, fun v2 H2 r2 F2 p2 o2 s2 t2 f2 => k _ _ _ _ p2 o2 s2 (t1.trans t2) fun q => ⟨(f2 q).1, fun a m => t1.none ((f2 q).2 a m)⟩⟩
theorem s_or {cc : E} (ha : PE X a (TEv X.K X.w (evE pg cl ca) fa)) (hb : PE X (.BoolOp .Or (b :: es) pos) (TEv X.K X.w (evOr pg cl (.cons cc cs)) true)) : PE X (.BoolOp .Or (a :: b :: es) pos) (TEv X.K X.w (evOr pg cl (.cons ca (.cons cc cs))) true) :=
  pe_w (pe_or ha hb) fun σ H Q ⟨env, S, r, x, S', RE, RS, ev, k⟩ => by
    rw [evOr.eq_3 (x_3 := by intro h; cases h)] at ev
    obtain ⟨p, e1, ev⟩ := bind_ok' ev
    obtain ⟨kb, e4, ev⟩ := bind_ok' ev
    refine ⟨env, S, r, p.1, p.2, RE, RS, e1, fun v1 H1 r1 F1 p1 o1 s1 t1 _ => ?_⟩
    rw [isB_ok e4] at p1
    refine ⟨kb, vbl p1, ?_⟩
    cases kb with
    | true =>
      rw [if_pos rfl] at ev ⊢
      cases ev
      exact k.new (.bl _) s1 t1
    | false =>
      rw [if_neg (by exact fun z => nomatch z)] at ev ⊢
      exact ⟨env, p.2, r1, x, S', RE.step t1, s1, ev, fun v2 H2 r2 F2 p2 o2 s2 t2 f2 => k _ _ _ _ p2 o2 s2 (t1.trans t2) fun q => ⟨(f2 q).1, fun a m => t1.none ((f2 q).2 a m)⟩⟩
theorem t_and {cc : E} (ha : PT X a (TTv X.K X.w (evE pg cl ca))) (hb : PW X (.BoolOp .And (b :: es) pos) (TTv X.K X.w (evAnd pg cl (.cons cc cs)))) : PW X (.BoolOp .And (a :: b :: es) pos) (TTv X.K X.w (evAnd pg cl (.cons ca (.cons cc cs)))) :=
  pw_w (pw_and ha hb) fun σ H Q ⟨env, S, r, x, S', RE, RS, ev, k⟩ => by
    rw [evAnd.eq_3 (x_3 := by intro h; cases h)] at ev
    obtain ⟨p, e1, ev⟩ := bind_ok' ev
    obtain ⟨kb, e4, ev⟩ := bind_ok' ev
    refine ⟨env, S, r, kb, p.2, RE, RS, by rw [e1, ← isB_ok e4], fun H1 r1 s1 t1 => ?_⟩
    cases kb with
    | false =>
      rw [if_neg (by exact fun z => nomatch z)] at ev ⊢
      cases ev
      exact k _ _ s1 t1
    | true =>
      rw [if_pos rfl] at ev ⊢
      exact ⟨env, p.2, r1, x, S', RE.step t1, s1, ev, fun H2 r2 s2 t2 => k _ _ s2 (t1.trans t2)⟩
theorem t_or {cc : E} (ha : PT X a (TTv X.K X.w (evE pg cl ca))) (hb : PW X (.BoolOp .Or (b :: es) pos) (TTv X.K X.w (evOr pg cl (.cons cc cs)))) : PW X (.BoolOp .Or (a :: b :: es) pos) (TTv X.K X.w (evOr pg cl (.cons ca (.cons cc cs)))) :=
  pw_w (pw_or ha hb) fun σ H Q ⟨env, S, r, x, S', RE, RS, ev, k⟩ => by
    rw [evOr.eq_3 (x_3 := by intro h; cases h)] at ev
    obtain ⟨p, e1, ev⟩ := bind_ok' ev
    obtain ⟨kb, e4, ev⟩ := bind_ok' ev
    refine ⟨env, S, r, kb, p.2, RE, RS, by rw [e1, ← isB_ok e4], fun H1 r1 s1 t1 => ?_⟩
    cases kb with
    | true =>
      rw [if_pos rfl] at ev ⊢
      cases ev
      exact k _ _ s1 t1
    | false =>
      rw [if_neg (by exact fun z => nomatch z)] at ev ⊢
      exact ⟨env, p.2, r1, x, S', RE.step t1, s1, ev, fun H2 r2 s2 t2 => k _ _ s2 (t1.trans t2)⟩

/-! ### arguments -/
theorem a_nil : PA X [] (TAv X.K X.w (evS pg cl .nil) false) :=
  pa_w pa_nil fun σ H Q ⟨env, S, r, x, S', RE, RS, ev, k⟩ => by
    simp only [evS] at ev; cases ev
    exact k [] H r [] .nil (by simp) RS .refl (fun z => nomatch z)
theorem a_cons (ha : PE X a (TEv X.K X.w (evE pg cl ca) fa)) (hb : PA X es (TAv X.K X.w (evS pg cl cs) false)) (hs : starEach (a :: es) X.env = (false, eval a X.env) :: starEach es X.env) : PA X (a :: es) (TAv X.K X.w (evS pg cl (.cons ca cs)) false) :=
  pa_w (pa_cons ha hb hs) fun σ H Q ⟨env, S, r, x, S', RE, RS, ev, k⟩ => by
    simp only [evS] at ev
    obtain ⟨p, e1, ev⟩ := bind_ok' ev
    obtain ⟨q, e2, ev⟩ := bind_ok' ev
    cases ev
    refine ⟨env, S, r, p.1, p.2, RE, RS, e1, fun v1 H1 r1 F1 p1 o1 s1 t1 _ => ⟨env, p.2, r1, q.1, q.2, RE.step t1, s1, e2, fun v2 H2 r2 F2 p2 o2 s2 t2 _ => ?_⟩⟩
    exact k _ _ r2 (F1 ++ F2) (.cons (p1.step o1 t2) p2) (fun a m => (List.mem_append.mp m).elim (fun m => t2.off p1.there o1 a m) (o2 a)) s2 (t1.trans t2) (fun z => nomatch z)
/-- kept: the value is new, or has no lists within -/
theorem keep_new {K : PySem.W.Frag} {w : World} {H H1 : Hp} {r1 : List Addr} {c : E} {x : Val} {v : V} {F : List Addr} (g : keepV c x = true) (p : Rep K w H1 r1 x v F) (f : fresh c = true → F.Nodup ∧ ∀ a, a ∈ F → H a = none) : F.Nodup ∧ ∀ a, a ∈ F → H a = none := by
  unfold keepV at g
  rcases Bool.or_eq_true _ _ ▸ g with g | g
  · exact f g
  · rw [p.pur g]
    exact ⟨List.nodup_nil, by simp⟩
theorem k_nil : PA X [] (TAv X.K X.w (evK pg cl .nil) true) :=
  pa_w pa_nil fun σ H Q ⟨env, S, r, x, S', RE, RS, ev, k⟩ => by
    simp only [evK] at ev; cases ev
    exact k [] H r [] .nil (by simp) RS .refl (fun _ => ⟨List.nodup_nil, by simp⟩)
theorem k_cons (ha : PE X a (TEv X.K X.w (evE pg cl ca) (fresh ca))) (hb : PA X es (TAv X.K X.w (evK pg cl cs) true)) (hs : starEach (a :: es) X.env = (false, eval a X.env) :: starEach es X.env) : PA X (a :: es) (TAv X.K X.w (evK pg cl (.cons ca cs)) true) :=
  pa_w (pa_cons ha hb hs) fun σ H Q ⟨env, S, r, x, S', RE, RS, ev, k⟩ => by
    simp only [evK] at ev
    obtain ⟨p, e1, ev⟩ := bind_ok' ev
    obtain ⟨g, ev⟩ := guard_ok ev
    obtain ⟨q, e2, ev⟩ := bind_ok' ev
    cases ev
    refine ⟨env, S, r, p.1, p.2, RE, RS, e1, fun v1 H1 r1 F1 p1 o1 s1 t1 f1 => ⟨env, p.2, r1, q.1, q.2, RE.step t1, s1, e2, fun v2 H2 r2 F2 p2 o2 s2 t2 f2 => ?_⟩⟩
    obtain ⟨n1, g1⟩ := keep_new g p1 f1
    obtain ⟨n2, g2⟩ := f2 rfl
    refine k _ _ r2 (F1 ++ F2) (.cons (p1.step o1 t2) p2) (fun a m => (List.mem_append.mp m).elim (fun m => t2.off p1.there o1 a m) (o2 a)) s2 (t1.trans t2) fun _ => ⟨?_, fun a m => (List.mem_append.mp m).elim (g1 a) fun m => t1.none (g2 a m)⟩
    exact List.nodup_append.mpr ⟨n1, n2, fun a m b m' e => p1.there a m (by rw [e]; exact g2 b m')⟩
theorem lim_of {xs : List Val} {vs : List V} {K : PySem.W.Frag} {w : World} {H : Hp} {r F : List Addr} (l : RepL K w H r xs vs F) (h : xs.length ≤ 1000) : vs.length ≤ sizeLine := by
  rw [← l.length]
  exact Nat.le_trans h (by decide)
def esLen : Es → Nat
  | .nil => 0
  | .cons _ es => esLen es + 1
theorem evK_len {pg : Pg} {cl : CallT} : ∀ {es : Es} {env : Env} {S : Sto} {xs : List Val} {S' : Sto}, evK pg cl es env S = .ok (xs, S') → xs.length = esLen es
  | .nil, _, _, _, _, h => by simp only [evK] at h; cases h; rfl
  | .cons e es, _, _, _, _, h => by
    simp only [evK] at h
    obtain ⟨p, e1, ev⟩ := bind_ok' h
    obtain ⟨g, ev⟩ := guard_ok ev
    obtain ⟨q, e2, ev⟩ := bind_ok' ev
    cases ev
    show q.1.length + 1 = _
    rw [evK_len (S' := q.2) (xs := q.1) e2]
    rfl
theorem s_tup {x1 : Nat} (h : PA X es (TAv X.K X.w (evK pg cl cs) true)) (hl : esLen cs ≤ 1000) : PE X (.Tuple es x1 pos) (TEv X.K X.w (evE pg cl (.tup cs)) true) :=
  pe_w (pe_tup h) fun σ H Q ⟨env, S, r, x, S', RE, RS, ev, k⟩ => by
    simp only [evE] at ev
    obtain ⟨p, e1, ev⟩ := bind_ok' ev
    cases ev
    refine ⟨env, S, r, p.1, p.2, RE, RS, e1, fun vs H1 r1 F1 p1 o1 s1 t1 f1 => ⟨lim_of p1 (by rw [evK_len (xs := p.1) e1]; exact hl), fun q hq => ?_⟩⟩
    have st : Stp H1 (upd H1 q (.tup vs)) r1 r1 := .upd hq
    exact k _ _ r1 F1 (.tup upd_same (p1.step o1 st)) o1 (s1.same (same_upd hq)) (t1.trans st) f1
theorem s_lst (h : PA X es (TAv X.K X.w (evK pg cl cs) true)) (hl : esLen cs ≤ 1000) : PE X (.List es pos) (TEv X.K X.w (evE pg cl (.lst cs)) true) :=
  pe_w (pe_lst h) fun σ H Q ⟨env, S, r, x, S', RE, RS, ev, k⟩ => by
    simp only [evE] at ev
    obtain ⟨p, e1, ev⟩ := bind_ok' ev
    cases ev
    refine ⟨env, S, r, p.1, p.2, RE, RS, e1, fun vs H1 r1 F1 p1 o1 s1 t1 f1 => ⟨lim_of p1 (by rw [evK_len (xs := p.1) e1]; exact hl), fun q hq => ?_⟩⟩
    have st : Stp H1 (upd H1 q (.lst vs)) r1 r1 := .upd hq
    refine k _ _ r1 (q :: F1) (.lst upd_same (p1.step o1 st)) (fun a m => ?_) (s1.same (same_upd hq)) (t1.trans st) fun _ => ⟨?_, fun a m => ?_⟩
    · rcases List.mem_cons.mp m with rfl | m
      · exact s1.nmem hq
      · exact o1 a m
    · exact List.nodup_cons.mpr ⟨fun m => p1.there q m hq, (f1 rfl).1⟩
    · rcases List.mem_cons.mp m with rfl | m
      · exact t1.none hq
      · exact (f1 rfl).2 a m

/-! ### calls -/
theorem passN {X : Cx} : Passes (L2N.CX X.prog X.w) X E0 := fun _ _ _ _ _ _ _ h => by
  obtain ⟨_, _, _, _, _, _, _, _, _, _, _, _, z⟩ := h
  exact z.elim
theorem takesN0 {X : Cx} : L2N.Takes X (fun _ _ _ _ => False) := fun _ _ x => by
  obtain ⟨_, _, _, _, _, _, _, _, _, _, _, _, _, _, _, _, z⟩ := x
  exact z.elim
structure CalV (P : Program) (w : World) (K : PySem.W.Frag) (mg : Str → Option Value) (base : Heap) (k : Nat) (x : Str) (sp : Sp) : Prop where
  ex : ∃ (f : Addr) (fd : FuncData) (ps : List Str) (sp' : Sp) (dvs : List V) (ds : List Value), FnOk P w K mg base (L2N.CX P w) k f fd ps sp' ∧ mg x = some (.ref f) ∧ PySem.W.keepIn K (.ref f) = true ∧ Binds K fd ps ds ∧ Vals dvs ds ∧ ∀ vs H Q E, sp vs H Q E → sp' (vs ++ dvs) H Q E
theorem s_call {f j k' : Nat} {x : Str} {p : Pos} (c : CalV X.prog X.w X.K X.mg X.base k' x (spV X.K X.w (cl f))) (hr : Room j X.A) (hk : k' ≤ j) (hg : Gl X x) (ha : PA X (a :: es) (TAv X.K X.w (evS pg cl cs) false))
    (hdb : (x == ("__debug__" : Str)) = false) (he : starEach (a :: es) X.env = (false, eval a X.env) :: starEach es X.env) (hpl : (backTo pos (starEach es X.env)).any (·.1) = false) :
    PE X (.Call (.Name x p) (a :: es) [] pos) (TEv X.K X.w (evE pg cl (.call f cs)) true) :=
by
  obtain ⟨f', fd, ps, sp', dvs, ds, F, hm, kp, b, dv, im⟩ := c.ex
  exact pe_w (pe_call F (hr.mono hk) hg hm kp b dv passN ha hdb he hpl) fun σ H Q ⟨env, S, r, x, S', RE, RS, ev, k⟩ => by
    simp only [evE] at ev
    obtain ⟨p, e1, ev⟩ := bind_ok' ev
    refine ⟨env, S, r, p.1, p.2, RE, RS, e1, fun vs H1 r1 F1 p1 o1 s1 t1 f1 => ?_⟩
    refine im vs H1 Q E0 ?_
    exact ⟨p.2, r1, p.1, F1, p1, o1, s1, .inl ⟨x, S', ev, fun v2 H2 r2 F2 p2 o2 s2 t2 f2 => k v2 H2 r2 F2 p2 o2 s2 (t1.trans t2) fun z => ⟨(f2 z).1, fun a m => t1.none ((f2 z).2 a m)⟩⟩⟩
theorem s_call0 {f j k' : Nat} {x : Str} {p : Pos} (c : CalV X.prog X.w X.K X.mg X.base k' x (spV X.K X.w (cl f))) (hr : Room j X.A) (hk : k' ≤ j) (hg : Gl X x) (hdb : (x == ("__debug__" : Str)) = false) :
    PE X (.Call (.Name x p) [] [] pos) (TEv X.K X.w (evE pg cl (.call f .nil)) true) := by
  obtain ⟨f', fd, ps, sp', dvs, ds, F, hm, kp, b, dv, im⟩ := c.ex
  refine pe_w (pe_call0 F (hr.mono hk) hg hm kp b dv passN hdb) fun σ H Q ⟨env, S, r, x, S', RE, RS, ev, k⟩ => ?_
  simp only [evE, evS, bind_ok] at ev
  refine im [] H Q E0 ?_
  exact ⟨S, r, [], [], .nil, by simp, RS, .inl ⟨x, S', ev, fun v2 H2 r2 F2 p2 o2 s2 t2 f2 => k v2 H2 r2 F2 p2 o2 s2 t2 f2⟩⟩
theorem RepL.dr {K : PySem.W.Frag} {w : World} {H : Hp} {r : List Addr} {S : Sto} (st : RSto K w H r S) : ∀ {xs : List Val} {vs : List V} {F : List Addr}, RepL K w H r xs vs F → ∃ G, RepL K w H r (xs.map (Ev.dr S)) vs G
  | _, _, _, .nil => ⟨_, .nil⟩
  | _, _, _, .cons h l => by
    obtain ⟨G, h'⟩ := h.dr st
    obtain ⟨G2, l'⟩ := RepL.dr st l
    exact ⟨_, .cons h' l'⟩
def btN : Bt → Str
  | .len => "len" | .tuple => "tuple" | .list => "list" | .sorted => "sorted" | .sum => "sum" | .max => "max" | .min => "min" | .set => "set" | .any => "any" | .all => "all" | .int => "int" | .str => "str"
theorem boot_bt (b : Bt) : bootBuiltins (btN b) = some (bval b) := by
  cases b <;> decide +kernel
theorem bt_ne (b : Bt) : btN b ≠ "__name__" ∧ (btN b == ("__debug__" : Str)) = false := by
  cases b <;> decide +kernel
theorem s_blt (hu : X.A.units + 200 < cLine) (hc : X.calm = true) {bt : Bt} {p : Pos} (hg : Gl X (btN bt)) (hm : X.mg (btN bt) = none) (ha : PA X (a :: es) (TAv X.K X.w (evS pg cl cs) false))
    (he : starEach (a :: es) X.env = (false, eval a X.env) :: starEach es X.env) (hpl : (backTo pos (starEach es X.env)).any (·.1) = false) :
    PE X (.Call (.Name (btN bt) p) (a :: es) [] pos) (TEv X.K X.w (evE pg cl (.blt bt cs)) true) := by
  have key : PE X (.Call (.Name (btN bt) p) (a :: es) [] pos) (tCB (rBV X.K X.w (bltV bt)) (TAv X.K X.w (evS pg cl cs) false)) := by
    have c := cr_bltV (X := X) hu hc bt
    have bo := boot_bt bt
    have n1 := (bt_ne bt).1
    have n2 := (bt_ne bt).2
    cases bt with
    | len => exact pe_callB c hg hm bo ha n1 n2 he hpl
    | sorted => exact pe_callB c hg hm bo ha n1 n2 he hpl
    | sum => exact pe_callB c hg hm bo ha n1 n2 he hpl
    | max => exact pe_callB c hg hm bo ha n1 n2 he hpl
    | min => exact pe_callB c hg hm bo ha n1 n2 he hpl
    | any => exact pe_callB c hg hm bo ha n1 n2 he hpl
    | all => exact pe_callB c hg hm bo ha n1 n2 he hpl
    | tuple => exact pe_callTy c hg hm bo ha n1 n2 he hpl
    | list => exact pe_callTy c hg hm bo ha n1 n2 he hpl
    | set => exact pe_callTy c hg hm bo ha n1 n2 he hpl
    | int => exact pe_callTy c hg hm bo ha n1 n2 he hpl
    | str => exact pe_callTy c hg hm bo ha n1 n2 he hpl
  exact pe_w key fun σ H Q ⟨env, S, r, x, S', RE, RS, ev, k⟩ => by
    simp only [evE] at ev
    obtain ⟨p, e1, ev⟩ := bind_ok' ev
    obtain ⟨q, e2, ev⟩ := bind_ok' ev
    cases ev
    refine ⟨env, S, r, p.1, p.2, RE, RS, e1, fun vs H1 r1 F1 p1 o1 s1 t1 f1 => ?_⟩
    obtain ⟨G, l⟩ := p1.dr s1
    exact ⟨r1, _, _, G, l, e2, fun v H' n => k.new n s1 t1⟩

/-! ### items, slices -/
theorem Rep.drX {K : PySem.W.Frag} {w : World} {H : Hp} {r : List Addr} {S : Sto} {x : Val} {v : V} {F : List Addr} (h : Rep K w H r x v F) (o : ∀ a, a ∈ F → a ∉ r) (st : RSto K w H r S) : ∃ G, Rep K w H r (Ev.dr S x) v G ∧ ∀ a, a ∈ inn (Ev.dr S x) G → a ∉ r := by
  cases x with
  | ref n =>
    cases h with
    | ref e =>
      rename_i a
      have hn : n < S.length := by rw [st.len]; exact (List.getElem?_eq_some_iff.mp e).1
      have ob := st.get e (List.getElem?_eq_getElem hn)
      unfold Ev.dr
      simp only [List.getElem?_eq_getElem hn]
      cases o : S[n] with
      | lst xs => rw [o] at ob; obtain ⟨vs, h1, h2⟩ := ob; exact ⟨_, .lst h1 h2, fun a m => by cases m⟩
      | dic t kvs => rw [o] at ob; rcases ob with ⟨ht, qs, h1, h2⟩ | ⟨ht, qs, h1, h2⟩ <;> subst ht; exact ⟨_, .dicK h1 h2, fun a m => by cases m⟩; exact ⟨_, .dicT h1 h2, fun a m => by cases m⟩
      | ins c fs => exact ⟨_, .ref e, fun a m => by cases m⟩
      | dicN kvs => exact ⟨_, .ref e, fun a m => by cases m⟩
      | xo c => exact ⟨_, .ref e, fun a m => by cases m⟩
  | _ => exact ⟨_, h, fun a m => o a (inn_sub m)⟩
theorem s_ix (hu : X.A.units + 200 < cLine) (ha : PE X a (TEv X.K X.w (evE pg cl ca) fa)) (hb : PE X b (TEv X.K X.w (evE pg cl cb) fb)) (hs : PlainIx b) : PE X (.Subscript a b pos) (TEv X.K X.w (evE pg cl (.ix ca cb)) false) :=
  pe_w (pe_ix (ix_V hu) ha hb hs) fun σ H Q ⟨env, S, r, x, S', RE, RS, ev, k⟩ => by
    simp only [evE] at ev
    obtain ⟨p, e1, ev⟩ := bind_ok' ev
    obtain ⟨q, e2, ev⟩ := bind_ok' ev
    obtain ⟨v, e3, ev⟩ := bind_ok' ev
    cases ev
    refine ⟨env, S, r, p.1, p.2, RE, RS, e1, fun v1 H1 r1 F1 p1 o1 s1 t1 _ => ⟨env, p.2, r1, q.1, q.2, RE.step t1, s1, e2, fun v2 H2 r2 F2 p2 o2 s2 t2 _ => ?_⟩⟩
    obtain ⟨G, d1, d2⟩ := (p1.step o1 t2).drX (t2.off p1.there o1) s2
    exact ⟨r2, _, _, _, G, F2, d1, p2, e3, fun v F' n sub => k.at_ n (fun a m => d2 a (sub a m)) s2 (t1.trans t2)⟩
/-- a bound -/
def TOv (K : PySem.W.Frag) (w : World) (f : Env → Sto → Res (Option Int × Sto)) : TO := fun σ H Q =>
  ∃ env S r o S', REnv K w H r env σ ∧ RSto K w H r S ∧ f env S = .ok (o, S') ∧ ∀ H' r', RSto K w H' r' S' → Stp H H' r r' → Q o H'
theorem po_w {X : Cx} {e : Option Expr} {t t' : TO} (h : PO X e t) (k : ∀ σ H Q, t' σ H Q → t σ H Q) : PO X e t' := ⟨fun pins s σ H Q I q => h.run pins s σ H Q I (k σ H Q q)⟩
theorem o_none : PO X none (TOv X.K X.w (evO pg cl .nil)) :=
  po_w po_none fun σ H Q ⟨env, S, r, x, S', RE, RS, ev, k⟩ => by
    simp only [evO] at ev; cases ev
    exact k H r RS .refl
theorem o_some {cr : Es} (ha : PE X a (TEv X.K X.w (evE pg cl ca) fa)) : PO X (some a) (TOv X.K X.w (evO pg cl (.cons ca cr))) :=
  po_w (po_some ha) fun σ H Q ⟨env, S, r, x, S', RE, RS, ev, k⟩ => by
    simp only [evO] at ev
    obtain ⟨p, e1, ev⟩ := bind_ok' ev
    refine ⟨env, S, r, p.1, p.2, RE, RS, e1, fun v1 H1 r1 F1 p1 o1 s1 t1 _ => ?_⟩
    split at ev
    · rename_i i e
      cases ev
      rw [e] at p1
      exact ⟨i, vint p1, k _ _ s1 t1⟩
    · cases ev
theorem s_sl {lo hi : Option Expr} {cl' ch : Es} {p2 : Pos} (ha : PE X a (TEv X.K X.w (evE pg cl ca) fa)) (hl : PO X lo (TOv X.K X.w (evO pg cl cl'))) (hh : PO X hi (TOv X.K X.w (evO pg cl ch))) : PE X (.Subscript a (.Slice lo hi none p2) pos) (TEv X.K X.w (evE pg cl (.sl ca cl' ch)) true) :=
  pe_w (pe_slice sl_V ha hl hh) fun σ H Q ⟨env, S, r, x, S', RE, RS, ev, k⟩ => by
    simp only [evE] at ev
    obtain ⟨p, e1, ev⟩ := bind_ok' ev
    obtain ⟨q, e2, ev⟩ := bind_ok' ev
    obtain ⟨q2, e3, ev⟩ := bind_ok' ev
    obtain ⟨v, e4, ev⟩ := bind_ok' ev
    cases ev
    refine ⟨env, S, r, p.1, p.2, RE, RS, e1, fun v1 H1 r1 F1 p1 o1 s1 t1 _ => ⟨env, p.2, r1, q.1, q.2, RE.step t1, s1, e2, fun H2 r2 s2 t2 => ⟨env, q.2, r2, q2.1, q2.2, RE.step (t1.trans t2), s2, e3, fun H3 r3 s3 t3 => ?_⟩⟩⟩
    obtain ⟨G1, d1⟩ := (p1.step o1 (t2.trans t3)).dr s3
    exact ⟨r3, _, _, G1, d1, e4, fun v H' n => k.new n s3 (t1.trans (t2.trans t3))⟩
end
end Ev

/-! SndT: enumerate over a tuple. -/
namespace Ev
open PySem PySem.Spec PyProof.Rows L2

abbrev enO (a : Addr) : Obj := { cls := .type "enumerate", data := .fields #[.none, .bool false, .ref a, rawInt 0, .none, .none] }
theorem meets_en1 {v : Value} {ob : Obj} {Z : Heap → Prop} (B : Begins v ob Z) : Meets (Builtin.«enumerate.__new__» ⟨[.type "enumerate", v], []⟩) (fun _ R s => Z s.heap ∧ R (.ok (.ret (.ref (s.heap.push ob).objs.size))) { s with heap := (s.heap.push ob).push (enO s.heap.objs.size) }) :=
  .of_wp fun prog w A R s hyp => by
    obtain ⟨hp, gs, dr, tks, oss⟩ := s
    obtain ⟨hz, hyp⟩ := hyp
    have hsub := sub_enumerate
    have itr : ∀ {A2 : Around} {E2 : Value → Shared → Prop} {Q2 : Value → Shared → Prop}, Q2 (.ref hp.objs.size) ⟨hp.push ob, gs, dr, tks, oss⟩ → wpAny (model prog w) A2 (pyIter v) Q2 E2 ⟨hp, gs, dr, tks, oss⟩ := fun q => B.iter prog w _ _ ⟨hp, gs, dr, tks, oss⟩ _ hz q
    wp_walk using itr
    refine wpAny_stack_any fun st => wpAny_pure ?_
    split
    · rename_i c1 _ _ _ _ _
      cases (c1 == Value.type "enumerate")
      · wp_walk using itr
        exact ⟨_, rfl, hyp⟩
      · wp_walk using itr
        exact ⟨_, rfl, hyp⟩
    · wp_walk using itr
      exact ⟨_, rfl, hyp⟩
theorem call_en1 {prog : Program} {w : World} {A : Around} {E : Value → Shared → Prop} {s : Shared} {v : Value} {ob : Obj} {Z : Heap → Prop} {Q : Value → Shared → Prop} (B : Begins v ob Z) (hz : Z s.heap)
    (k : ∀ h2, IsEnum h2 (s.heap.objs.size + 1) s.heap.objs.size 0 .none → h2.get? s.heap.objs.size = some ob → h2.objs.size = s.heap.objs.size + 2 → (∀ b o, s.heap.get? b = some o → h2.get? b = some o) → Q (.ref (s.heap.objs.size + 1)) { s with heap := h2 }) :
    wpAny (model prog w) A (PySem.call (.type "enumerate") [v]) Q E s := by
  refine callType_new F.called_enumerate (by decide) (F.typeCall_enumerate_1 _) (F.newCall_enumerate_1 _) (fun ob2 => F.args_object_init_2 ob2 _) F.entry_enumerate_new (meets_en1 B) ⟨hz, ?_⟩
  have sz : (s.heap.push ob).objs.size = s.heap.objs.size + 1 := Heap.size_push ..
  show _ ∧ _
  rw [sz]
  have en : IsEnum ((s.heap.push ob).push (enO s.heap.objs.size)) (s.heap.objs.size + 1) s.heap.objs.size 0 .none := by
    have g := Heap.get?_push_size (s.heap.push ob) (o := enO s.heap.objs.size) rfl
    rw [sz] at g; exact g
  exact ⟨⟨_, en, rfl⟩, k _ en (Heap.get?_push_of_some _ (Heap.get?_push_size _ B.free)) (by rw [Heap.size_push, sz]) fun b o y => Heap.get?_push_of_some _ (Heap.get?_push_of_some _ y)⟩

def IteT (K : PySem.W.Frag) (a : Addr) : L2.It :=
  ⟨fun i H => ∃ (xs : List V) (x : V), SqT K H a xs ∧ xs[i]? = some x, fun i H v H' => ∃ T x, v = .ref T ∧ H T = none ∧ H' = upd H T (.tup [.int (i : Nat), x]) ∧ ∀ xs, SqT K H a xs → xs[i]? = some x, fun i H => ∃ xs : List V, SqT K H a xs ∧ xs.length = i⟩
theorem turn_enT {P : Program} {w : World} {K : PySem.W.Frag} {elts : List Expr} {kk : Nat} {tpos : Pos} (a e it : Addr) :
    Turn P w K (.Tuple elts kk tpos) (IteT K a) [e, it] e (fun i h => (∃ old, IsEnum h e it ((i : Nat) : Int) old) ∧ h.IsTupleIter it a i ∧ e ≠ it ∧ a ≠ it ∧ a ≠ e) where
  mem := by simp
  obj := fun i h st b hb => by
    obtain ⟨⟨old, he⟩, ⟨o, ho, hc, hd⟩, _⟩ := st
    rcases (show b = e ∨ b = it by simpa using hb) with z | z
    · subst z; exact ⟨_, he, fun v q => nomatch q⟩
    · subst z; exact ⟨o, ho, fun v q => by rw [hd] at q; cases q⟩
  keep := fun i h h' st k => by
    obtain ⟨⟨old, he⟩, hi, hne⟩ := st
    exact ⟨⟨old, k e (by simp) _ he⟩, hi.at fun o q => k it (by simp) o q, hne⟩
  item := by
    intro X hP hw hK hc i pins s σ H E I hf st hg
    subst hP hw hK
    obtain ⟨⟨old, he⟩, hit, hne, hai, hae⟩ := st
    obtain ⟨xs, x, hq, hx⟩ := hg
    obtain ⟨its, rv, p, hz⟩ := I.tuple hq
    obtain ⟨u, hu, ru⟩ := rv.get hx
    have hel : e < s.heap.objs.size := Heap.lt_size he
    have hil : it < s.heap.objs.size := by
      obtain ⟨_, q, _⟩ := hit
      exact Heap.lt_size q
    have hlt : i < its.toArray.size := by
      have := (List.getElem?_eq_some_iff.mp hu).1
      simpa using this
    have dt := Draws.tuple (prog := X.prog) (w := X.w) (A := X.A.in1) (I.ok.hd hc) it a hai its.toArray
    refine wpAny_pyNext_enum_itemD dt he ⟨hit, show s.heap.IsTuple a its.toArray from p⟩ hlt hne (by simp [hne, Ne.symm hae]) fun y h1 tk hy ho hst hT hsz hk => ?_
    have hy' : its[i]? = some y := by simpa using hy
    obtain rfl : u = y := Option.some.inj (hu.symm.trans hy')
    refine ⟨_, rfl, wpAny_letOwnedTupleGo_enum (s := { s with heap := h1, toks := tk + 1 }) ho fun h2 he2 sb => ?_⟩
    have hT2 : h2.get? s.heap.objs.size = some { cls := .type "tuple", data := .seq #[.int i tk, u] } := (sb.2 _ (Nat.ne_of_gt hel)).trans hT
    have new : ObjOk X.prog X.w (upd H s.heap.objs.size (.tup [.int (i : Nat), x])) h2 s.heap.objs.size (.tup [.int (i : Nat), x]) := ⟨by show 2 ≤ sizeLine; decide, [.int i tk, u], .cons ⟨_, rfl⟩ (.cons ru .nil), ⟨_, hT2, rfl, _, rfl⟩⟩
    have I1 : L2.Inv X pins σ (upd H s.heap.objs.size (.tup [.int (i : Nat), x])) { s with heap := h2, toks := tk + 1 } :=
      I.turnedNew (ch := [e, it]) (fun b ob hb q => (sb.2 b (fun z => hb (by simp [z]))).trans (hk b ob (fun z => hb (by simp [z])) (fun z => hb (by simp [z])) q)) hf (Nat.le_refl _) new
    refine ⟨.ref s.heap.objs.size, _, I1, rfl, ⟨_, x, rfl, I.hok.fresh (Nat.le_refl _), rfl, fun ys hy => by rw [I.tuple_inj hy hq]; exact hx⟩, ⟨⟨u, ?_⟩, hst.1.at fun o q => (sb.2 it (Ne.symm hne)).trans q, hne, hai, hae⟩, fun b hb => ?_⟩
    · rw [show ((i + 1 : Nat) : Int) = (i : Int) + 1 by omega]
      exact he2
    · have hb2 : b < s.heap.objs.size := by
        rcases (show b = e ∨ b = it by simpa using hb) with z | z
        · rw [z]; exact hel
        · rw [z]; exact hil
      rw [upd_ne (Nat.ne_of_lt hb2)]
      exact (hf b hb).1
  done := by
    intro X hP hw hK hc i pins s σ H E I hf st hg
    subst hP hw hK
    obtain ⟨⟨old, he⟩, hit, hne, hai, hae⟩ := st
    obtain ⟨xs, hq, hx⟩ := hg
    obtain ⟨its, rv, p, hz⟩ := I.tuple hq
    obtain ⟨f0, f1, f2, f3, f4, f5⟩ := hf it (by simp)
    have hl : its.toArray.size = i := by rw [← hx, rv.length, List.size_toArray]
    have dt := Draws.tuple (prog := X.prog) (w := X.w) (A := X.A.in1) (I.ok.hd hc) it a hai its.toArray
    rw [hl] at dt
    exact wpAny_pyNext_enum_endD dt he ⟨hit, show s.heap.IsTuple a its.toArray from p⟩ fun h2 eb => ⟨rfl, I.turned (t' := s.toks) (fun b o hb q => eb b o hb q) f0 f1 f3 f4 f5⟩
  self := fun A i s Q E st h => wpAny_pyIter_enum st.1.choose_spec h
def iEnT (K : PySem.W.Frag) (ta : TA) : TI := fun σ H R => ta σ H fun vs H1 => ∃ a xs, vs = [.ref a] ∧ SqT K H1 a xs ∧ R (IteT K a) H1
theorem pi_enT {X : Cx} {e : Expr} {ta : TA} {p pos tpos : Pos} {elts : List Expr} {kk : Nat} (hg : Gl X "enumerate") (hm : X.mg "enumerate" = none) (ha : PA X [e] ta) (hs : starEach [e] X.env = [(false, eval e X.env)]) : PI X (.Tuple elts kk tpos) (.Call (.Name "enumerate" p) [e] [] pos) (iEnT X.K ta) := by
  refine ⟨fun pins s σ H R I h => ?_⟩
  refine Call_ (ld_blt I hg hm boot_enumerate (PyProof.Rows.callWith_type1 (thn (ha.run pos pins s σ H _ I h) fun us s1 ⟨vs, H1, I1, r1, q1⟩ => ?_) hs rfl))
  obtain ⟨a, xs, ex, hq, q⟩ := q1
  subst ex
  cases r1 with
  | cons r rr =>
    cases rr
    cases r
    obtain ⟨its, rv, p', hz⟩ := I1.tuple hq
    have tp : s1.heap.IsTuple a its.toArray := p'
    have hlt : a < s1.heap.objs.size := by
      obtain ⟨_, g, _⟩ := tp
      exact Heap.lt_size g
    refine call_en1 (begins_tuple a its.toArray) tp fun h2 he hit hsz hk => wpAny_pyIter_enum he ?_
    have I2 : L2.Inv X pins σ H1 { s1 with heap := h2 } := I1.kept (t' := s1.toks) hk
    refine ⟨s1.heap.objs.size + 1, [s1.heap.objs.size + 1, s1.heap.objs.size], _, _, H1, rfl, I2, turn_enT a (s1.heap.objs.size + 1) s1.heap.objs.size, ⟨⟨.none, he⟩, ⟨_, hit, rfl, rfl⟩, Nat.succ_ne_self _, Nat.ne_of_lt hlt, Nat.ne_of_lt (Nat.lt_succ_of_lt hlt)⟩, fun b hb => ?_, q⟩
    have hle : s1.heap.objs.size ≤ b := by
      rcases (show b = s1.heap.objs.size + 1 ∨ b = s1.heap.objs.size by simpa using hb) with z | z
      · rw [z]; exact Nat.le_add_right _ _
      · rw [z]; exact Nat.le_refl _
    exact I1.fpOk hle (I1.hok.fresh hle)
end Ev

/-! Snd9: what is walked; comprehensions. -/
namespace Ev
open PySem PySem.Spec PyProof.Rows L2

/-- a walk over these items: G is what must stay -/
structure ItOk (K : PySem.W.Frag) (w : World) (J : L2.It) (H1 : Hp) (r1 : List Addr) (items : List Val) (G : List Addr) : Prop where
  go : ∀ i H2, Kp H1 H2 G → i < items.length → J.go i H2
  yld : ∀ i x H2 r2 v H3, Kp H1 H2 G → (∀ (n : Nat) (a : Addr), r1[n]? = some a → r2[n]? = some a) → items[i]? = some x → J.yld i H2 v H3 → Same H2 H3 ∧ ∃ F, Rep K w H3 r2 x v F ∧ ∀ a, a ∈ F → a ∈ G
  stop : ∀ H2, Kp H1 H2 G → J.stop items.length H2
  len : items.length ≤ sizeLine
/-- lists and tuples are not too long -/
def LenOk (K : PySem.W.Frag) (v : V) (H : Hp) : Prop := ∀ a xs, v = .ref a → (SqL K H a xs ∨ SqT K H a xs) → xs.length ≤ sizeLine
theorem pe_len {X : Cx} {e : Expr} {t : TE} (h : PE X e t) : PE X e (fun σ H Q => t σ H fun v H1 => LenOk X.K v H1 → Q v H1) :=
  ⟨fun pins s σ H Q I q => thn (h.run pins s σ H _ I q) fun u s1 ⟨v, H1, I1, r1, q1⟩ => ⟨v, H1, I1, r1, q1 fun a xs e z => by
    rcases z with z | z
    · exact (I1.list z).choose_spec.2.2
    · exact (I1.tuple z).choose_spec.2.2⟩⟩
def TIv (K : PySem.W.Frag) (w : World) (f : Env → Sto → Res (List Val × Sto)) (fr : Bool) : TI := fun σ H R =>
  ∃ env S r xs S', REnv K w H r env σ ∧ RSto K w H r S ∧ f env S = .ok (xs, S') ∧
    ∀ J H' r' G, ItOk K w J H' r' xs G → (∀ a, a ∈ G → a ∉ r' ∧ H' a ≠ none) → RSto K w H' r' S' → Stp H H' r r' → (fr = true → ∀ a, a ∈ G → H a = none) → R J H'

section
variable {X : Cx} {pos : Pos} {pg : Pg} {cl : CallT} {a b tg : Expr} {ca : E} {fa : Bool}
theorem it_list {K : PySem.W.Frag} {w : World} {H : Hp} {r : List Addr} {xs : List Val} {p : Addr} {vs : List V} {F : List Addr} (h : H p = some (.lst vs)) (l : RepL K w H r xs vs F) (ln : vs.length ≤ sizeLine) : ItOk K w (Itl K p) H r xs (p :: F) where
  go := fun i H2 k hi => by
    obtain ⟨v, G, h1, _, _⟩ := l.get (List.getElem?_eq_getElem hi)
    exact ⟨vs, v, .of (k.at_ _ _ List.mem_cons_self h), h1⟩
  yld := fun i x H2 r2 v H3 k hr hx ⟨e, hy⟩ => by
    subst e
    obtain ⟨u, G, h1, h2, h3⟩ := l.get hx
    have := hy vs (.of (k.at_ _ _ List.mem_cons_self h))
    rw [h1] at this
    obtain rfl : u = v := Option.some.inj this
    exact ⟨Same.refl _, G, h2.keep hr (k.sub fun a m => List.mem_cons_of_mem _ (h3 a m)), fun a m => List.mem_cons_of_mem _ (h3 a m)⟩
  stop := fun H2 k => ⟨vs, .of (k.at_ _ _ List.mem_cons_self h), by rw [l.length]; exact Nat.le_refl _⟩
  len := by rw [l.length]; exact ln
theorem it_tup {K : PySem.W.Frag} {w : World} {H : Hp} {r : List Addr} {xs : List Val} {p : Addr} {vs : List V} {F : List Addr} (h : H p = some (.tup vs)) (l : RepL K w H r xs vs F) (ln : vs.length ≤ sizeLine) : ItOk K w (Itt K p) H r xs F where
  go := fun i H2 k hi => by
    obtain ⟨v, G, h1, _, _⟩ := l.get (List.getElem?_eq_getElem hi)
    exact ⟨vs, v, .of (k.im _ _ h trivial), h1⟩
  yld := fun i x H2 r2 v H3 k hr hx ⟨e, hy⟩ => by
    subst e
    obtain ⟨u, G, h1, h2, h3⟩ := l.get hx
    have := hy vs (.of (k.im _ _ h trivial))
    rw [h1] at this
    obtain rfl : u = v := Option.some.inj this
    exact ⟨Same.refl _, G, h2.keep hr (k.sub h3), h3⟩
  stop := fun H2 k => ⟨vs, .of (k.im _ _ h trivial), by rw [l.length]; exact Nat.le_refl _⟩
  len := by rw [l.length]; exact ln
/-- the script: it stays a list of these numbers -/
theorem it_scr {K : PySem.W.Frag} {w : World} {H : Hp} {r : List Addr} {ks : List Int} {p : Addr} {G : List Addr} (h : ∀ H2, Kp H H2 G → SqL K H2 p (ks.map V.int)) (ln : (ks.map V.int).length ≤ sizeLine) : ItOk K w (Itl K p) H r (ks.map .int) G where
  go := fun i H2 k hi => by
    rw [List.length_map] at hi
    exact ⟨_, .int ks[i], h H2 k, by rw [List.getElem?_map, List.getElem?_eq_getElem hi]; rfl⟩
  yld := fun i x H2 r2 v H3 k hr hx ⟨e, hy⟩ => by
    subst e
    have := hy _ (h _ k)
    rw [List.getElem?_map] at this hx
    cases q : ks[i]? with
    | none => rw [q] at hx; cases hx
    | some z =>
      rw [q] at hx this
      cases hx; cases this
      exact ⟨Same.refl _, [], .int z, by simp⟩
  stop := fun H2 k => ⟨_, h H2 k, by simp⟩
  len := by rw [List.length_map] at ln ⊢; exact ln
theorem it_str {K : PySem.W.Frag} {w : World} {H : Hp} {r : List Addr} {s : Str} (ln : s.cps.size ≤ LIM) : ItOk K w (Its s) H r (s.cps.toList.map fun c => .str ⟨#[c]⟩) [] where
  go := fun i H2 k hi => by
    show i < s.cps.size
    simpa using hi
  yld := fun i x H2 r2 v H3 k hr hx ⟨e, c, hc, hv⟩ => by
    subst e; subst hv
    rw [List.getElem?_map] at hx
    rw [← Array.getElem?_toList] at hc
    rw [hc] at hx
    cases hx
    exact ⟨Same.refl _, [], .str _, by simp⟩
  stop := fun H2 k => by show s.cps.size ≤ _; simp
  len := by simpa using lim_line ln
theorem range_get : ∀ (n : Nat) (lo : Int) (i : Nat), (range lo n)[i]? = if i < n then some (.int (lo + i)) else none
  | 0, lo, i => by simp [range]
  | n + 1, lo, 0 => by simp [range]
  | n + 1, lo, i + 1 => by
    rw [range, List.getElem?_cons_succ, range_get n (lo + 1) i]
    by_cases h : i < n
    · rw [if_pos h, if_pos (by omega)]
      congr 2
      omega
    · rw [if_neg h, if_neg (by omega)]
theorem range_len : ∀ (n : Nat) (lo : Int), (range lo n).length = n
  | 0, _ => rfl
  | n + 1, lo => by rw [range, List.length_cons, range_len n]
theorem it_rng {K : PySem.W.Frag} {w : World} {H : Hp} {r : List Addr} {lo : Int} {n : Nat} (ln : n ≤ LIM) : ItOk K w (Itr lo n) H r (range lo n) [] where
  go := fun i H2 k hi => by rw [range_len] at hi; exact hi
  yld := fun i x H2 r2 v H3 k hr hx ⟨e, hv⟩ => by
    subst e; subst hv
    rw [range_get] at hx
    split at hx
    · cases hx; exact ⟨Same.refl _, [], .int _, by simp⟩
    · cases hx
  stop := fun H2 k => by show n ≤ _; rw [range_len]; exact Nat.le_refl _
  len := by rw [range_len]; exact lim_line ln
theorem rangeC_len : ∀ (n : Nat) (lo c : Int), (rangeC lo c n).length = n
  | 0, _, _ => rfl
  | n + 1, lo, c => by rw [rangeC, List.length_cons, rangeC_len n]
theorem rangeC_get : ∀ (n : Nat) (lo c : Int) (i : Nat), (rangeC lo c n)[i]? = if i < n then some (.int (lo + (i : Nat) * c)) else none
  | 0, _, _, i => by simp [rangeC]
  | n + 1, lo, c, 0 => by simp [rangeC]
  | n + 1, lo, c, i + 1 => by
    rw [rangeC, List.getElem?_cons_succ, rangeC_get n]
    by_cases h : i < n
    · rw [if_pos h, if_pos (by omega)]
      congr 2
      rw [Int.add_assoc]
      congr 1
      have : (((i + 1 : Nat) : Int)) = (i : Int) + 1 := by omega
      rw [this, Int.add_mul, Int.one_mul, Int.add_comm]
    · rw [if_neg h, if_neg (by omega)]
theorem it_rngC {K : PySem.W.Frag} {w : World} {H : Hp} {r : List Addr} {lo c : Int} {n : Nat} (ln : n ≤ LIM) : ItOk K w (Itc lo c n) H r (rangeC lo c n) [] where
  go := fun i H2 k hi => by rw [rangeC_len] at hi; exact hi
  yld := fun i x H2 r2 v H3 k hr hx ⟨e, hv⟩ => by
    subst e; subst hv
    rw [rangeC_get] at hx
    split at hx
    · cases hx; exact ⟨Same.refl _, [], .int _, by simp⟩
    · cases hx
  stop := fun H2 k => by show n ≤ _; rw [rangeC_len]; exact Nat.le_refl _
  len := by rw [rangeC_len]; exact lim_line ln
theorem rgC_of {a b c : Int} (h : -(2 ^ 61) ≤ a ∧ a < 2 ^ 61 ∧ -(2 ^ 61) ≤ b ∧ b < 2 ^ 61 ∧ b - a ≤ LIM ∧ 0 < c ∧ c < 1000000) : RgC a b c (rngN a b c) ∧ rngN a b c ≤ LIM := by
  obtain ⟨h1, h2, h3, h4, h5, h6, h7⟩ := h
  have hs : PySem.Builtin.Range.rangeSize a b c = (rngN a b c : Nat) ∧ rngN a b c ≤ LIM := by
    unfold PySem.Builtin.Range.rangeSize rngN
    rw [if_pos h6]
    split
    · have g0 : 0 ≤ (b - a - 1) / c := Int.ediv_nonneg (by omega) (by omega)
      have g1 : (b - a - 1) / c ≤ b - a - 1 := Int.ediv_le_self _ (by omega)
      unfold LIM at h5 ⊢
      omega
    · exact ⟨rfl, Nat.zero_le _⟩
  refine ⟨⟨by omega, by omega, ?_, hs.1⟩, hs.2⟩
  unfold PySem.Builtin.Range.small
  rw [hs.1]
  have hL := hs.2
  unfold LIM at hL
  simp only [PySem.Builtin.Range.rangeFitsLong, Bool.and_eq_true, Bool.or_eq_true, decide_eq_true_eq, beq_iff_eq, h6, if_pos]
  refine ⟨⟨⟨⟨⟨?_, ?_⟩, ?_, ?_⟩, ?_, ?_⟩, ?_, ?_⟩, .inr ⟨?_, ?_⟩⟩ <;> omega
theorem enum_get : ∀ (xs : List Val) (k : Int) (i : Nat), (enumV k xs)[i]? = (xs[i]?).map fun x => .tup [.int (k + i), x]
  | [], _, _ => by simp [enumV]
  | x :: xs, k, 0 => by simp [enumV]
  | x :: xs, k, i + 1 => by
    rw [enumV, List.getElem?_cons_succ, List.getElem?_cons_succ, enum_get xs (k + 1) i]
    have e : k + 1 + (i : Int) = k + ((i + 1 : Nat) : Int) := by omega
    rw [e]
theorem enum_len : ∀ (xs : List Val) (k : Int), (enumV k xs).length = xs.length
  | [], _ => rfl
  | x :: xs, k => by rw [enumV, List.length_cons, List.length_cons, enum_len xs]
theorem it_enum {K : PySem.W.Frag} {w : World} {H : Hp} {r : List Addr} {xs : List Val} {p : Addr} {vs : List V} {F : List Addr} (h : H p = some (.lst vs)) (l : RepL K w H r xs vs F) (ln : vs.length ≤ sizeLine) : ItOk K w (Ite K p) H r (enumV 0 xs) (p :: F) where
  go := fun i H2 k hi => by
    rw [enum_len] at hi
    obtain ⟨v, G, h1, _, _⟩ := l.get (List.getElem?_eq_getElem hi)
    exact ⟨vs, v, .of (k.at_ _ _ List.mem_cons_self h), h1⟩
  yld := fun i x H2 r2 v H3 k hr hx ⟨T, y, hv, hT, hH, hy⟩ => by
    subst hv; subst hH
    rw [enum_get] at hx
    cases q : xs[i]? with
    | none => rw [q] at hx; cases hx
    | some z =>
      rw [q] at hx
      cases hx
      obtain ⟨u, G, h1, h2, h3⟩ := l.get q
      have := hy vs (.of (k.at_ _ _ List.mem_cons_self h))
      rw [h1] at this
      obtain rfl : u = y := Option.some.inj this
      refine ⟨same_upd hT, G, .tup upd_same ?_, fun a m => List.mem_cons_of_mem _ (h3 a m)⟩
      have h4 := (h2.keep hr (k.sub fun a m => List.mem_cons_of_mem _ (h3 a m))).keep (r' := r2) (fun _ _ z => z) (show Kp H2 (upd H2 T (.tup [.int (i : Nat), u])) G from ⟨fun a o _ e => same_upd hT a o e, fun a o e _ => same_upd hT a o e⟩)
      have := RepL.cons (K := K) (w := w) (r := r2) (Rep.int (H := upd H2 T (.tup [.int (i : Nat), u])) ((0 : Int) + (i : Nat))) (.cons h4 .nil)
      simpa using this
  stop := fun H2 k => ⟨vs, .of (k.at_ _ _ List.mem_cons_self h), by rw [enum_len, l.length]; exact Nat.le_refl _⟩
  len := by rw [enum_len, l.length]; exact ln
theorem it_rev {K : PySem.W.Frag} {w : World} {H : Hp} {r : List Addr} {xs : List Val} {p : Addr} {vs : List V} {F : List Addr} (h : H p = some (.lst vs)) (l : RepL K w H r xs vs F) (ln : vs.length ≤ sizeLine) : ItOk K w (Itv K p vs.length) H r xs.reverse (p :: F) where
  go := fun i H2 k hi => by
    rw [List.length_reverse, l.length] at hi
    refine ⟨hi, vs, vs[vs.length - 1 - i], .of (k.at_ _ _ List.mem_cons_self h), List.getElem?_eq_getElem _⟩
  yld := fun i x H2 r2 v H3 k hr hx ⟨e, hy⟩ => by
    subst e
    have hi : i < xs.length := by
      have := (List.getElem?_eq_some_iff.mp hx).1
      rwa [List.length_reverse] at this
    rw [List.getElem?_reverse hi] at hx
    obtain ⟨u, G, h1, h2, h3⟩ := l.get hx
    have := hy vs (.of (k.at_ _ _ List.mem_cons_self h))
    rw [← l.length, h1] at this
    obtain rfl : u = v := Option.some.inj this
    exact ⟨Same.refl _, G, h2.keep hr (k.sub fun a m => List.mem_cons_of_mem _ (h3 a m)), fun a m => List.mem_cons_of_mem _ (h3 a m)⟩
  stop := fun H2 k => by show vs.length ≤ _; rw [List.length_reverse, l.length]; exact Nat.le_refl _
  len := by rw [List.length_reverse, l.length]; exact ln

theorem ids {r : List Addr} : ∀ (n : Nat) (a : Addr), r[n]? = some a → r[n]? = some a := fun _ _ h => h
/-- a sequence walked: by the kind of its value -/
theorem i_seq (ha : PE X a (TEv X.K X.w (evE pg cl ca) fa)) : PI X tg a (TIv X.K X.w (evI pg cl (.seq ca)) fa) := by
  refine ⟨fun pins s σ H R I ⟨env, S, r, xs, S', RE, RS, ev, k⟩ => ?_⟩
  simp only [evI] at ev
  obtain ⟨⟨x, S1⟩, e1, ev⟩ := bind_ok' ev
  obtain ⟨l, e2, ev⟩ := bind_ok' ev
  cases ev
  cases x <;> try (cases e2; done)
  · obtain ⟨g, e2⟩ := guard_ok e2
    have g := of_decide_eq_true g
    cases e2
    exact (pi_str ha).run pins s σ H R I ⟨env, S, r, _, _, RE, RS, e1, fun v1 H1 r1 F1 p1 o1 s1 t1 _ => ⟨_, vstr p1, k _ _ r1 [] (it_str g) (by simp) s1 t1 (by simp)⟩⟩
  · rename_i t
    cases e2
    refine (pi_tup (pe_len ha)).run pins s σ H R I ⟨env, S, r, _, _, RE, RS, e1, fun v1 H1 r1 F1 p1 o1 s1 t1 f1 ln => ?_⟩
    obtain ⟨p, vs, rfl, h1, h2⟩ := vtup p1
    exact ⟨p, rfl, ⟨vs, .of h1⟩, k _ _ r1 _ (it_tup h1 h2 (ln _ _ rfl (.inr (.of h1)))) (fun a m => ⟨o1 a m, p1.there a m⟩) s1 t1 fun z => (f1 z).2⟩
  · rename_i t
    cases e2
    refine (pi_list (pe_len ha)).run pins s σ H R I ⟨env, S, r, _, _, RE, RS, e1, fun v1 H1 r1 F1 p1 o1 s1 t1 f1 ln => ?_⟩
    cases p1 with
    | lst h1 h2 => exact ⟨_, rfl, ⟨_, .of h1⟩, k _ _ r1 _ (it_list h1 h2 (ln _ _ rfl (.inl (.of h1)))) (fun a m => ⟨o1 a m, (Rep.lst h1 h2).there a m⟩) s1 t1 fun z => (f1 z).2⟩
  · rename_i t
    cases e2
    refine (pi_list (pe_len ha)).run pins s σ H R I ⟨env, S, r, _, _, RE, RS, e1, fun v1 H1 r1 F1 p1 o1 s1 t1 f1 ln => ?_⟩
    cases p1 with
    | scr h1 => exact ⟨_, rfl, ⟨_, h1 H1 fun _ _ e _ => e⟩, k _ _ r1 [] (it_scr (fun H2 kk => h1 H2 kk.im) (ln _ _ rfl (.inl (h1 H1 fun _ _ e _ => e)))) (by simp) s1 t1 (by simp)⟩
    | scrL h1 => exact ⟨_, rfl, ⟨_, .of h1⟩, k _ _ r1 [_] (it_scr (fun H2 kk => .of (kk.at_ _ _ (by simp) h1)) (ln _ _ rfl (.inl (.of h1)))) (fun a m => ⟨o1 a m, (Rep.scrL (K := X.K) (w := X.w) (r := r1) h1).there a m⟩) s1 t1 fun z => (f1 z).2⟩
theorem it_enT {K : PySem.W.Frag} {w : World} {H : Hp} {r : List Addr} {xs : List Val} {p : Addr} {vs : List V} {F : List Addr} (h : H p = some (.tup vs)) (l : RepL K w H r xs vs F) (ln : vs.length ≤ sizeLine) : ItOk K w (IteT K p) H r (enumV 0 xs) F where
  go := fun i H2 k hi => by
    rw [enum_len] at hi
    obtain ⟨v, G, h1, _, _⟩ := l.get (List.getElem?_eq_getElem hi)
    exact ⟨vs, v, .of (k.im _ _ h trivial), h1⟩
  yld := fun i x H2 r2 v H3 k hr hx ⟨T, y, hv, hT, hH, hy⟩ => by
    subst hv; subst hH
    rw [enum_get] at hx
    cases q : xs[i]? with
    | none => rw [q] at hx; cases hx
    | some z =>
      rw [q] at hx
      cases hx
      obtain ⟨u, G, h1, h2, h3⟩ := l.get q
      have := hy vs (.of (k.im _ _ h trivial))
      rw [h1] at this
      obtain rfl : u = y := Option.some.inj this
      refine ⟨same_upd hT, G, .tup upd_same ?_, h3⟩
      have h4 := (h2.keep hr (k.sub h3)).keep (r' := r2) (fun _ _ z => z) (show Kp H2 (upd H2 T (.tup [.int (i : Nat), u])) G from ⟨fun a o _ e => same_upd hT a o e, fun a o e _ => same_upd hT a o e⟩)
      have := RepL.cons (K := K) (w := w) (r := r2) (Rep.int (H := upd H2 T (.tup [.int (i : Nat), u])) ((0 : Int) + (i : Nat))) (.cons h4 .nil)
      simpa using this
  stop := fun H2 k => ⟨vs, .of (k.im _ _ h trivial), by rw [enum_len, l.length]⟩
  len := by rw [enum_len, l.length]; exact ln
theorem i_enum {p pos tpos : Pos} {elts : List Expr} {kk : Nat} (hg : Gl X "enumerate") (hm : X.mg "enumerate" = none) (ha : PE X a (TEv X.K X.w (evE pg cl ca) fa)) (hs : starEach [a] X.env = [(false, eval a X.env)]) : PI X (.Tuple elts kk tpos) (.Call (.Name "enumerate" p) [a] [] pos) (TIv X.K X.w (evI pg cl (.enum ca)) fa) := by
  have key := pi_enum (X := X) (p := p) (pos := pos) (tpos := tpos) (elts := elts) (kk := kk) hg hm (pa_cons (pe_len ha) pa_nil hs) hs
  have keyT := pi_enT (X := X) (p := p) (pos := pos) (tpos := tpos) (elts := elts) (kk := kk) hg hm (pa_cons (pe_len ha) pa_nil hs) hs
  refine ⟨fun pins s σ H R I ⟨env, S, r, xs, S', RE, RS, ev, k⟩ => ?_⟩
  simp only [evI] at ev
  obtain ⟨⟨x, S1⟩, e1, ev⟩ := bind_ok' ev
  obtain ⟨l, e2, ev⟩ := bind_ok' ev
  cases ev
  cases x <;> try (cases e2; done)
  · cases e2
    refine keyT.run pins s σ H R I ⟨env, S, r, _, _, RE, RS, e1, fun v1 H1 r1 F1 p1 o1 s1 t1 f1 ln => ?_⟩
    cases p1 with
    | tup h1 h2 => exact ⟨_, _, rfl, .of h1, k _ _ r1 _ (it_enT h1 h2 (ln _ _ rfl (.inr (.of h1)))) (fun a m => ⟨o1 a m, (Rep.tup h1 h2).there a m⟩) s1 t1 fun z => (f1 z).2⟩
  · cases e2
    refine key.run pins s σ H R I ⟨env, S, r, _, _, RE, RS, e1, fun v1 H1 r1 F1 p1 o1 s1 t1 f1 ln => ?_⟩
    cases p1 with
    | lst h1 h2 => exact ⟨_, _, rfl, .of h1, k _ _ r1 _ (it_enum h1 h2 (ln _ _ rfl (.inl (.of h1)))) (fun a m => ⟨o1 a m, (Rep.lst h1 h2).there a m⟩) s1 t1 fun z => (f1 z).2⟩
theorem i_rev {p pos : Pos} (hg : Gl X "reversed") (hm : X.mg "reversed" = none) (ha : PE X a (TEv X.K X.w (evE pg cl ca) fa)) (hs : starEach [a] X.env = [(false, eval a X.env)]) : PI X tg (.Call (.Name "reversed" p) [a] [] pos) (TIv X.K X.w (evI pg cl (.rev ca)) fa) := by
  have key := pi_reversed (X := X) (tg := tg) (p := p) (pos := pos) hg hm (pa_cons (pe_len ha) pa_nil hs) hs
  refine ⟨fun pins s σ H R I ⟨env, S, r, xs, S', RE, RS, ev, k⟩ => ?_⟩
  simp only [evI] at ev
  obtain ⟨⟨x, S1⟩, e1, ev⟩ := bind_ok' ev
  obtain ⟨l, e2, ev⟩ := bind_ok' ev
  cases ev
  cases x <;> try (cases e2; done)
  · rename_i t
    cases e2
    refine key.run pins s σ H R I ⟨env, S, r, _, _, RE, RS, e1, fun v1 H1 r1 F1 p1 o1 s1 t1 f1 ln => ?_⟩
    cases p1 with
    | lst h1 h2 => exact ⟨_, _, rfl, .of h1, k _ _ r1 _ (it_rev h1 h2 (ln _ _ rfl (.inl (.of h1)))) (fun a m => ⟨o1 a m, (Rep.lst h1 h2).there a m⟩) s1 t1 fun z => (f1 z).2⟩
theorem rng1_inv {x : Val} {l : List Val} (h : rngV [x] = .ok l) : ∃ n : Int, (-(2 ^ 62) ≤ n ∧ n ≤ LIM) ∧ x = .int n ∧ l = range 0 n.toNat := by
  cases x <;> try (simp [rngV] at h; done)
  rename_i n
  simp only [rngV] at h
  obtain ⟨g, h⟩ := guard_ok h
  exact ⟨n, of_decide_eq_true g, rfl, (ok_inj h).symm⟩
theorem rng2_inv {x y : Val} {l : List Val} (h : rngV [x, y] = .ok l) : ∃ a b : Int, (-(2 ^ 62) ≤ a ∧ a < 2 ^ 62 ∧ -(2 ^ 62) ≤ b ∧ b < 2 ^ 62 ∧ b - a ≤ LIM) ∧ x = .int a ∧ y = .int b ∧ l = range a (b - a).toNat := by
  cases x <;> cases y <;> try (simp [rngV] at h; done)
  rename_i n m
  simp only [rngV] at h
  obtain ⟨g, h⟩ := guard_ok h
  exact ⟨n, m, of_decide_eq_true g, rfl, rfl, (ok_inj h).symm⟩
theorem rng3_inv {x y z : Val} {l : List Val} (h : rngV [x, y, z] = .ok l) : ∃ a b c : Int, (-(2 ^ 61) ≤ a ∧ a < 2 ^ 61 ∧ -(2 ^ 61) ≤ b ∧ b < 2 ^ 61 ∧ b - a ≤ LIM ∧ 0 < c ∧ c < 1000000) ∧ x = .int a ∧ y = .int b ∧ z = .int c ∧ l = rangeC a c (rngN a b c) := by
  cases x <;> cases y <;> cases z <;> try (simp [rngV] at h; done)
  rename_i n m c
  simp only [rngV] at h
  obtain ⟨g, h⟩ := guard_ok h
  exact ⟨n, m, c, of_decide_eq_true g, rfl, rfl, rfl, (ok_inj h).symm⟩
theorem i_rng1 {p pos : Pos} (hg : Gl X "range") (hm : X.mg "range" = none) (ha : PE X a (TEv X.K X.w (evE pg cl ca) fa)) (hs : starEach [a] X.env = [(false, eval a X.env)]) : PI X tg (.Call (.Name "range" p) [a] [] pos) (TIv X.K X.w (evI pg cl (.rng (.cons ca .nil))) true) :=
  pi_w (pi_range1 hg hm (pa_cons ha pa_nil hs) hs) fun σ H R ⟨env, S, r, xs, S', RE, RS, ev, k⟩ => by
    simp only [evI, evS, bind_ok] at ev
    obtain ⟨p, e0, ev⟩ := bind_ok' ev
    obtain ⟨q, e1, e0⟩ := bind_ok' e0
    cases e0
    obtain ⟨l, e2, ev⟩ := bind_ok' ev
    cases ev
    refine ⟨env, S, r, _, _, RE, RS, e1, fun v1 H1 r1 F1 p1 o1 s1 t1 f1 => ?_⟩
    obtain ⟨n, g, hn, rfl⟩ := rng1_inv e2
    have h2 : n < 2 ^ 62 := Int.lt_of_le_of_lt g.2 (by decide)
    rw [hn] at p1
    exact ⟨n, by rw [vint p1], g.1, h2, k _ _ r1 [] (it_rng (by have := g.2; omega)) (by simp) s1 t1 (by simp)⟩
theorem i_rng2 {p pos : Pos} {cb : E} {fb : Bool} (hg : Gl X "range") (hm : X.mg "range" = none) (ha : PE X a (TEv X.K X.w (evE pg cl ca) fa)) (hb : PE X b (TEv X.K X.w (evE pg cl cb) fb)) (hs : starEach [a, b] X.env = [(false, eval a X.env), (false, eval b X.env)]) (hs2 : starEach [b] X.env = [(false, eval b X.env)]) : PI X tg (.Call (.Name "range" p) [a, b] [] pos) (TIv X.K X.w (evI pg cl (.rng (.cons ca (.cons cb .nil)))) true) :=
  pi_w (pi_range2 hg hm (pa_cons ha (pa_cons hb pa_nil hs2) (by rw [hs, hs2])) hs hs2) fun σ H R ⟨env, S, r, xs, S', RE, RS, ev, k⟩ => by
    simp only [evI, evS, bind_ok] at ev
    obtain ⟨p, e0, ev⟩ := bind_ok' ev
    obtain ⟨q, e1, e0⟩ := bind_ok' e0
    obtain ⟨q2, e3, e0⟩ := bind_ok' e0
    obtain ⟨q3, e4, e3⟩ := bind_ok' e3
    cases e3
    cases e0
    obtain ⟨l, e2, ev⟩ := bind_ok' ev
    cases ev
    refine ⟨env, S, r, _, _, RE, RS, e1, fun v1 H1 r1 F1 p1 o1 s1 t1 f1 => ⟨env, q.2, r1, _, _, RE.step t1, s1, e4, fun v2 H2 r2 F2 p2 o2 s2 t2 f2 => ?_⟩⟩
    obtain ⟨i, j, g, hi, hj, rfl⟩ := rng2_inv e2
    rw [hi] at p1
    rw [hj] at p2
    exact ⟨i, j, by rw [vint p1, vint p2], ⟨g.1, g.2.1, g.2.2.1, g.2.2.2.1⟩, k _ _ r2 [] (it_rng (by have := g.2.2.2.2; omega)) (by simp) s2 (t1.trans t2) (by simp)⟩
theorem i_rng3 {p pos : Pos} {c : Expr} {cb cc : E} {fb fc : Bool} (hg : Gl X "range") (hm : X.mg "range" = none) (ha : PE X a (TEv X.K X.w (evE pg cl ca) fa)) (hb : PE X b (TEv X.K X.w (evE pg cl cb) fb)) (hc : PE X c (TEv X.K X.w (evE pg cl cc) fc)) (hs : starEach [a, b, c] X.env = (false, eval a X.env) :: starEach [b, c] X.env) (hs2 : starEach [b, c] X.env = (false, eval b X.env) :: starEach [c] X.env) (hs3 : starEach [c] X.env = [(false, eval c X.env)]) : PI X tg (.Call (.Name "range" p) [a, b, c] [] pos) (TIv X.K X.w (evI pg cl (.rng (.cons ca (.cons cb (.cons cc .nil))))) true) :=
  pi_w (pi_range3 hg hm (pa_cons ha (pa_cons hb (pa_cons hc pa_nil (by rw [hs3]; rfl)) (by rw [hs2])) (by rw [hs])) hs (by rw [hs2, hs3]; rfl)) fun σ H R ⟨env, S, r, xs, S', RE, RS, ev, k⟩ => by
    simp only [evI, evS, bind_ok] at ev
    obtain ⟨p, e0, ev⟩ := bind_ok' ev
    obtain ⟨q, e1, e0⟩ := bind_ok' e0
    obtain ⟨q2, e3, e0⟩ := bind_ok' e0
    obtain ⟨q3, e4, e3⟩ := bind_ok' e3
    obtain ⟨q4, e5, e3⟩ := bind_ok' e3
    obtain ⟨q5, e6, e5⟩ := bind_ok' e5
    cases e5
    cases e3
    cases e0
    obtain ⟨l, e2, ev⟩ := bind_ok' ev
    cases ev
    refine ⟨env, S, r, _, _, RE, RS, e1, fun v1 H1 r1 F1 p1 o1 s1 t1 f1 => ⟨env, q.2, r1, _, _, RE.step t1, s1, e4, fun v2 H2 r2 F2 p2 o2 s2 t2 f2 => ⟨env, q3.2, r2, _, _, (RE.step t1).step t2, s2, e6, fun v3 H3 r3 F3 p3 o3 s3 t3 f3 => ?_⟩⟩⟩
    obtain ⟨i, j, m, g, hi, hj, hk, rfl⟩ := rng3_inv e2
    rw [hi] at p1
    rw [hj] at p2
    rw [hk] at p3
    exact ⟨i, j, m, rngN i j m, by rw [vint p1, vint p2, vint p3], (rgC_of g).1, k _ _ r3 [] (it_rngC (rgC_of g).2) (by simp) s3 ((t1.trans t2).trans t3) (by simp)⟩
end
end Ev

/-! SndA: comprehensions. -/
namespace Ev
open PySem PySem.Spec PyProof.Rows L2

def TCv (K : PySem.W.Frag) (w : World) (f : Env → Sto → Res (Bool × Sto)) : TT := fun σ H Q =>
  ∃ env S r b S', REnv K w H r env σ ∧ RSto K w H r S ∧ f env S = .ok (b, S') ∧ ∀ H' r', RSto K w H' r' S' → Stp H H' r r' → Q b H'
section
variable {K : PySem.W.Frag} {w : World} {H : Hp} {r : List Addr} {S : Sto}
theorem kp_nil {D : Addr} {u o : HO} (hD : H D = some u) (hu : ¬immut u) : Kp H (L2.upd H D o) [] := ⟨fun a o m => (by cases m), fun b v e i => by
    rw [upd_ne (fun z => ?_)]
    · exact e
    · subst z
      rw [hD] at e
      cases e
      exact hu i⟩
theorem RSto.upd (h : RSto K w H r S) {D : Addr} {o : HO} {xs : List V} (hD : H D = some (.lst xs)) (n : D ∉ r) : RSto K w (L2.upd H D o) r S := by
  refine ⟨h.len, h.nd, fun n' ob q => ?_⟩
  obtain ⟨a, ha, rp⟩ := h.at_ n' ob q
  have ne : a ≠ D := fun e => n (e ▸ (List.mem_of_getElem? ha))
  exact ⟨a, ha, rp.keep (fun _ _ z => z) (fun u e => by rw [upd_ne ne]; exact e) (fun b e => by rw [upd_ne (ne_of e hD (fun z => nomatch z))]; exact e) (kp_nil hD (fun z => z))⟩
theorem Stp.over {H H' : Hp} {r r' : List Addr} (s : Stp H H' r r') {D : Addr} {o : HO} (h : H D = .none) : Stp H (L2.upd H' D o) r r' where
  keep := fun b u e n => by rw [upd_ne (ne_of_none e h)]; exact s.keep b u e n
  there := fun b e => by
    by_cases q : b = D
    · subst q; exact absurd h e
    · rw [upd_ne q]; exact s.there b e
  im := fun a u e i => by rw [upd_ne (ne_of_none e h)]; exact s.im a u e i
  ext := s.ext
theorem kp_upd {H : Hp} {D : Addr} {o : HO} {xs : List V} {F : List Addr} (hD : H D = some (.lst xs)) (n : D ∉ F) : Kp H (L2.upd H D o) F :=
  ⟨fun a u m e => by rw [upd_ne (fun z => n (by rw [← z]; exact m))]; exact e, fun a u e i => by
    rw [upd_ne (fun z => ?_)]
    · exact e
    · subst z
      rw [hD] at e
      cases e
      exact i⟩
end
theorem set_get {α : Type} {l : List α} {j i : Nat} {x y : α} (h : (l.set j x)[i]? = some y) : (i = j ∧ y = x) ∨ (i ≠ j ∧ l[i]? = some y) := by
  by_cases e : j = i
  · subst e
    by_cases q : j < l.length
    · rw [List.getElem?_set_self q] at h
      exact .inl ⟨rfl, (Option.some.inj h).symm⟩
    · rw [List.getElem?_eq_none (by rw [List.length_set]; omega)] at h
      cases h
  · rw [List.getElem?_set_ne e] at h
    exact .inr ⟨fun z => e z.symm, h⟩
theorem wipe_set (σ : L2.St) (j : Nat) (v : Option V) : wipe ((wipe σ [j]).set j v) [j] = wipe σ [j] := by
  simp [wipe]
/-- one more slot -/
theorem REnv.put {K : PySem.W.Frag} {w : World} {H : Hp} {r : List Addr} {env : Env} {σ : L2.St} {j : Nat} {x : Val} {v : V} {F : List Addr} (h : REnv K w H r env σ) (hj : j < σ.length) (p : Rep K w H r x v F) (o : ∀ a, a ∈ F → a ∉ r) : REnv K w H r (env.set j (some x)) (σ.set j (some v)) := fun i y e => by
  rcases set_get e with ⟨rfl, e2⟩ | ⟨ne, e⟩
  · obtain rfl := Option.some.inj e2
    exact ⟨v, F, List.getElem?_set_self hj, p, o⟩
  · obtain ⟨u, G, h1, h2, h3⟩ := h i y e
    exact ⟨u, G, by rw [List.getElem?_set_ne (fun z => ne z.symm)]; exact h1, h2, h3⟩
theorem REnv.wput {K : PySem.W.Frag} {w : World} {H : Hp} {r : List Addr} {env : Env} {σ : L2.St} {j : Nat} {x : Val} {v : V} {F : List Addr} (h : REnv K w H r env σ) (hj : j < σ.length) (p : Rep K w H r x v F) (o : ∀ a, a ∈ F → a ∉ r) : REnv K w H r (env.set j (some x)) ((wipe σ [j]).set j (some v)) := by
  have e : (wipe σ [j]).set j (some v) = σ.set j (some v) := by simp [wipe]
  rw [e]
  exact h.put hj p o

section
variable {K : PySem.W.Frag} {w : World} {pg : Pg} {cl : CallT}
noncomputable def cmpF (pg : Pg) (cl : CallT) (cx : E) (j : Nat) (cs : Es) (env : Env) : Val → Sto → Res (Option Val × Sto) := fun v S => (evC pg cl cs (env.set j (some v)) S).bind fun q =>
  if q.1 = true then (evE pg cl cx (env.set j (some v)) q.2).bind fun r => guard' (keepV cx r.1) (.ok (some r.1, r.2)) else .ok (none, q.2)
def cmpW (K : PySem.W.Frag) (w : World) (f : Val → Sto → Res (Option Val × Sto)) (items xs : List Val) (S2 : Sto) (H H1 : Hp) (r1 : List Addr) (D : Addr) (i m : Nat) (H2 : Hp) : Prop :=
  m = items.length - i ∧ i ≤ items.length ∧ ∃ Si r2 avs acc Fa rest, RSto K w H2 r2 Si ∧ Stp H1 H2 r1 r2 ∧ D ∉ r2 ∧ H2 D = some (.lst avs) ∧ RepL K w H2 r2 acc avs Fa ∧
    (∀ a, a ∈ Fa → a ∉ r2 ∧ a ≠ D ∧ H a = none) ∧ Fa.Nodup ∧ acc.length ≤ i ∧ mapR f (items.drop i) Si = .ok (rest, S2) ∧ acc ++ rest = xs
/-- a comprehension as the layer reads it -/
theorem lc_read {cx : E} {j : Nat} {it : It} {cs : Es} {fr : Bool} {σ : L2.St} {H : Hp} {Q : VK} (hj : j < σ.length) (h : TEv K w (evE pg cl (.comp cx j it cs)) true σ H Q) :
    tLc (TIv K w (evI pg cl it) fr) (gName j) (TCv K w (evC pg cl cs)) (TEv K w (evE pg cl cx) (fresh cx)) [j] σ H Q := by
  obtain ⟨env, S, r, x, S', RE, RS, ev, k⟩ := h
  simp only [evE] at ev
  obtain ⟨⟨items, S1⟩, e1, ev⟩ := bind_ok' ev
  obtain ⟨⟨xs, S2⟩, e2, ev⟩ := bind_ok' ev
  cases ev
  refine ⟨env, S, r, items, S1, RE, RS, e1, fun J H1 r1 G iok og s1 t1 _ => fun D hD => ?_⟩
  refine ⟨cmpW K w (cmpF pg cl cx j cs env) items xs S2 H H1 r1 D, ?_, ?_⟩
  · refine ⟨items.length - 0, rfl, Nat.zero_le _, S1, r1, [], [], [], xs, s1.same (same_upd hD), .upd hD, s1.nmem hD, upd_same, .nil, by simp, List.nodup_nil, Nat.le_refl _, ?_, rfl⟩
    rw [List.drop_zero]
    exact e2
  · intro i m H2 ⟨hm, hi, Si, r2, avs, acc, Fa, rest, s2, t2, nD, hD2, la, oa, na, ln, hR, hx⟩
    have kG : Kp H1 H2 G := t2.kp fun a m => (og a m).1
    rcases Nat.lt_or_eq_of_le hi with hi | rfl
    · refine .inr ⟨iok.go i H2 kG hi, cmpW K w (cmpF pg cl cx j cs env) items xs S2 H H1 r1 D (i + 1) (items.length - (i + 1)), fun H' q => ⟨_, by omega, q⟩, fun v H3 hy => ?_⟩
      obtain ⟨sm, F, rp, sub⟩ := iok.yld i items[i] H2 r2 v H3 kG t2.sub (List.getElem?_eq_getElem hi) hy
      have t3 : Stp H2 H3 r2 r2 := .same sm
      have oF : ∀ a, a ∈ F → a ∉ r2 := fun a m => t2.off (F := G) (fun a m => (og a m).2) (fun a m => (og a m).1) a (sub a m)
      rw [List.drop_eq_getElem_cons hi] at hR
      simp only [mapR] at hR
      obtain ⟨⟨ov, S3⟩, e3, hR⟩ := bind_ok' hR
      unfold cmpF at e3
      obtain ⟨⟨b, S4⟩, e4, e3⟩ := bind_ok' e3
      obtain ⟨⟨rest', S5⟩, e5, hR⟩ := bind_ok' hR
      have RE3 : REnv K w H3 r2 (env.set j (some items[i])) ((wipe σ [j]).set j (some v)) := ((RE.step t1).step (t2.trans t3)).wput hj rp oF
      refine ⟨wipe_set σ j _, env.set j (some items[i]), Si, r2, b, S4, RE3, s2.same sm, e4, fun H4 r4 s4 t4 => ?_⟩
      have nD4 : D ∉ r4 := t4.off (F := [D]) (fun a m => by rw [List.mem_singleton.mp m, sm _ _ hD2]; exact fun z => nomatch z) (fun a m => by rw [List.mem_singleton.mp m]; exact nD) D (List.mem_singleton.mpr rfl)
      have hD4 : H4 D = some (.lst avs) := t4.keep _ _ (sm _ _ hD2) nD
      have la4 : RepL K w H4 r4 acc avs Fa := la.step (fun a m => (oa a m).1) (t3.trans t4)
      have oa4 : ∀ a, a ∈ Fa → a ∉ r4 := (t3.trans t4).off la.there fun a m => (oa a m).1
      cases b with
      | false =>
        rw [if_neg (by exact fun z => nomatch z)] at e3
        show cmpW K w (cmpF pg cl cx j cs env) items xs S2 H H1 r1 D (i + 1) (items.length - (i + 1)) H4
        cases e3
        cases hR
        refine ⟨rfl, hi, _, r4, avs, acc, Fa, _, s4, t2.trans (t3.trans t4), nD4, hD4, la4, fun a m => ⟨oa4 a m, (oa a m).2⟩, na, by omega, e5, hx⟩
      | true =>
        rw [if_pos rfl] at e3
        obtain ⟨⟨y, S6⟩, e6, e3⟩ := bind_ok' e3
        obtain ⟨g, e3⟩ := guard_ok e3
        cases e3
        cases hR
        refine ⟨env.set j (some items[i]), S4, r4, y, _, RE3.step t4, s4, e6, fun yv H5 r5 F5 p5 o5 s5 t5 f5 => ?_⟩
        have nD5 : D ∉ r5 := t5.off (F := [D]) (fun a m => by rw [List.mem_singleton.mp m, hD4]; exact fun z => nomatch z) (fun a m => by rw [List.mem_singleton.mp m]; exact nD4) D (List.mem_singleton.mpr rfl)
        have hD5 : H5 D = some (.lst avs) := t5.keep _ _ hD4 nD4
        have la5 := la4.step oa4 t5
        have oa5 := t5.off la4.there oa4
        obtain ⟨n5, g5⟩ := keep_new g p5 f5
        have nDF : D ∉ F5 := fun m => by have := g5 D m; rw [hD4] at this; cases this
        have nDa : D ∉ Fa := fun m => (oa D m).2.1 rfl
        have h0 : ∀ a, a ∈ F5 → H a = none := fun a m => (t1.trans (t2.trans (t3.trans t4))).none (g5 a m)
        refine ⟨avs, hD5, ?_, rfl, hi, _, r5, avs ++ [yv], acc ++ [y], Fa ++ F5, _, s5.upd hD5 nD5, ?_, nD5, upd_same, (la5.snoc p5).keep ids (kp_upd hD5 (by simp [nDa, nDF])), fun a m => ?_, ?_, ?_, e5, ?_⟩
        · rw [← la.length]
          exact Nat.lt_of_le_of_lt ln (Nat.lt_of_lt_of_le hi iok.len)
        · exact (t2.trans (t3.trans (t4.trans t5))).over hD
        · rcases List.mem_append.mp m with m | m
          · exact ⟨oa5 a m, (oa a m).2⟩
          · exact ⟨o5 a m, fun e => nDF (e ▸ m), h0 a m⟩
        · exact List.nodup_append.mpr ⟨na, n5, fun a m b m' e => la4.there a m (by rw [e]; exact g5 b m')⟩
        · rw [List.length_append]
          show acc.length + 1 ≤ i + 1
          omega
        · rw [List.append_assoc]
          exact hx
    · refine .inl ⟨iok.stop H2 kG, ?_⟩
      rw [List.drop_length] at hR
      simp only [mapR] at hR
      cases hR
      rw [List.append_nil] at hx
      subst hx
      refine k _ H2 r2 (D :: Fa) (.lst hD2 la) (fun a m => ?_) s2 (t1.trans t2) fun _ => ⟨List.nodup_cons.mpr ⟨fun m => (oa D m).2.1 rfl, na⟩, fun a m => ?_⟩
      · rcases List.mem_cons.mp m with rfl | m
        · exact nD
        · exact (oa a m).1
      · rcases List.mem_cons.mp m with rfl | m
        · exact t1.none hD
        · exact (oa a m).2.2
end
end Ev

/-! SndB: the look at a code and its text. -/
namespace Ev
open PySem PySem.Spec PyProof.Rows L2

structure Ck where
  N : List Str
  fn : List (Nat × Str)
  con : List (Nat × Str)
  xs : List Nat := []
  cal : Bool := true
  cms : List Nat := []
/-- an exception class's name -/
def excS (c : Nat) : Str := if c = 100 then "ValueError" else clsS c
def noDbg (x : Str) : Bool := !(x == ("__debug__" : Str)) && !(x == ("__classdict__" : Str))
def visC (sc : Scope) (x : Str) : Bool := match sc.names.lookup x with
  | some .local => true
  | some .cell => true
  | some .free => true
  | _ => false
def glC (sc : Scope) (x : Str) : Bool := match sc.names.lookup x with
  | some .globalImplicit => true
  | _ => false
def nameC (k : Ck) (sc : Scope) (i : Nat) (x : Str) : Bool := decide (k.N[i]? = some x) && visC sc x && noDbg x
def noStar : Expr → Bool
  | .Starred .. => false
  | _ => true
def noSl : Expr → Bool
  | .Slice .. => false
  | _ => true
def noSet : Expr → Bool
  | .Set .. => false
  | _ => true
def isTup : Expr → Bool
  | .Tuple .. => true
  | _ => false
/-- codes that are tests -/
def tstOk : E → Bool
  | .ifx _ _ _ => false
  | .box _ => false
  | .nx a => tstOk a
  | _ => true
def blkC (N : List Str) (sc scope : Scope) (x : Str) (j : Nat) : Bool :=
  decide (scope.kind = .function) && scope.names.all (fun y => decide (scope.names.lookup y.1 = some y.2)) && decide (N[j]? = some x) &&
  scope.names.all (fun y => !decide (y.2 = .free) || decide (sc.names.lookup y.1 = some .cell) || decide (sc.names.lookup y.1 = some .free)) &&
  scope.names.all (fun y => !(decide (y.2 = .local) || decide (y.2 = .cell)) || decide (y.1 = x) || !N.contains y.1)
/-- the walked name in the block -/
def locC (scope sc : Scope) (x : Str) : Bool := decide ((relS scope sc).names.lookup x = some .local) || (decide ((relS scope sc).names.lookup x = some .cell) && decide (scope.names.lookup x = some .cell))
def tyS : Ty → Str
  | .int => "int" | .bool => "bool" | .str => "str" | .list => "list" | .tuple => "tuple" | .cls _ => "__name__"
def isCls : Ty → Bool
  | .cls _ => true
  | _ => false

def isCallE : Expr → Bool
  | .Call .. => true
  | _ => false
/-- a receiver: a name, an attribute -/
def plainR : Expr → Bool
  | .Name _ _ => true
  | .Attribute _ _ _ => true
  | .Subscript _ _ _ => true
  | _ => false
def plainT : Expr → Bool
  | .Constant _ _ _ => true
  | x => plainR x
def mthL : List Str := ["__init__", "turn", "deeds", "taken_by", "knots", "bites", "free", "rest", "winner", "take", "back", "pick", "sees", "set_stand", "step", "ended"]
/-- a method by its number; from 100 on: without its last argument -/
def mthS (m : Nat) : Str := mthL.getD (m % 100) ""
mutual
def chkE (k : Ck) : E → Scope → Expr → Bool
  | .var i, sc, e => match e with
    | .Name x _ => nameC k sc i x
    | _ => false
  | .int i, sc, e => match e with
    | .Constant (.int j) _ _ => decide (i = j)
    | _ => false
  | .str s, sc, e => match e with
    | .Constant (.str t) _ _ => decide (s = t)
    | _ => false
  | .bl b, sc, e => match e with
    | .Constant (.bool c) _ _ => decide (b = c)
    | _ => false
  | .non, sc, e => match e with
    | .Constant .none _ _ => true
    | _ => false
  | .glob n, sc, e => match e with
    | .Name x _ => glC sc x && decide (k.con.lookup n = some x) && noDbg x
    | _ => false
  | .bin op a b, sc, e => match e with
    | .BinOp x o y _ => decide (o = opOf op) && chkE k a sc x && chkE k b sc y
    | _ => false
  | .neg a, sc, e => match e with
    | .UnaryOp .USub x _ => chkE k a sc x
    | _ => false
  | .cmp op a b, sc, e => match e with
    | .Compare x [o] [y] _ => decide (o = cpOf op) && !behindInMarks o y && chkE k a sc x && chkE k b sc y
    | _ => false
  | .chain op op' a b c, sc, e => match e with
    | .Compare x [o, o'] [y, z] _ => decide (o = cpOf op) && decide (o' = cpOf op') && !lastMarks [o, o'] [y, z] && chkE k a sc x && chkE k b sc y && chkE k c sc z
    | _ => false
  | .andE es, sc, e => match e with
    | .BoolOp .And vs _ => chkB k es sc vs
    | _ => false
  | .orE es, sc, e => match e with
    | .BoolOp .Or vs _ => chkB k es sc vs
    | _ => false
  | .not a, sc, e => match e with
    | .UnaryOp .Not x _ => tstOk a && chkE k a sc x
    | _ => false
  | .ifx t a b, sc, e => match e with
    | .IfExp x y z _ => tstOk t && chkE k t sc x && chkE k a sc y && chkE k b sc z
    | _ => false
  | .tup es, sc, e => match e with
    | .Tuple vs _ _ => decide (esLen es ≤ 1000) && chkS k es sc vs
    | _ => false
  | .lst es, sc, e => match e with
    | .List vs _ => decide (esLen es ≤ 1000) && chkS k es sc vs
    | _ => false
  | .dic _ .nil, sc, e => match e with
    | .Dict [] [] _ => true
    | _ => false
  | .dic false (.cons a (.cons b .nil)), sc, e => match e with
    | .Dict [some x] [y] _ => chkE k a sc x && chkE k b sc y
    | _ => false
  | .dic false (.cons a (.cons b (.cons c (.cons d .nil)))), sc, e => match e with
    | .Dict [some x, some z] [y, v] _ => chkE k a sc x && chkE k b sc y && chkE k c sc z && chkE k d sc v
    | _ => false
  | .mt .values (.var i) .nil, sc, e => k.cal && (match e with
    | .Call (.Name y _) [.Call (.Attribute (.Name x _) m apos) [] [] cpos] [] _ => decide (y = "list") && glC sc y && nameC k sc i x && decide (m = "values") && (apos.endLine == cpos.line)
    | _ => false)
  | .mt .get (.var i) (.cons a .nil), sc, e => match e with
    | .Call (.Attribute (.Name x _) m apos) [y] [] cpos => nameC k sc i x && decide (m = "get") && noStar y && (apos.endLine == cpos.line) && chkE k a sc y
    | _ => false
  | .mt .get (.var i) (.cons a (.cons b .nil)), sc, e => match e with
    | .Call (.Attribute (.Name x _) m apos) [y, z] [] cpos => nameC k sc i x && decide (m = "get") && noStar y && noStar z && (apos.endLine == cpos.line) && chkE k a sc y && chkE k b sc z
    | _ => false
  | .mt .index (.var i) (.cons a .nil), sc, e => match e with
    | .Call (.Attribute (.Name x _) m apos) [y] [] cpos => nameC k sc i x && decide (m = "index") && noStar y && (apos.endLine == cpos.line) && chkE k a sc y
    | _ => false
  | .mt .join a (.cons b .nil), sc, e => match e with
    | .Call (.Attribute o m apos) [y] [] cpos => plainT o && decide (m = "join") && noStar y && (apos.endLine == cpos.line) && chkE k a sc o && chkE k b sc y
    | _ => false
  | .mt .split a (.cons b .nil), sc, e => match e with
    | .Call (.Attribute o m apos) [y] [] cpos => plainT o && decide (m = "split") && noStar y && (apos.endLine == cpos.line) && chkE k a sc o && chkE k b sc y
    | _ => false
  | .mt .part a (.cons b .nil), sc, e => match e with
    | .Call (.Attribute o m apos) [y] [] cpos => plainT o && decide (m = "partition") && noStar y && (apos.endLine == cpos.line) && chkE k a sc o && chkE k b sc y
    | _ => false
  | .ix a i, sc, e => match e with
    | .Subscript x y _ => noSl y && chkE k a sc x && chkE k i sc y
    | _ => false
  | .sl a lo hi, sc, e => match e with
    | .Subscript x (.Slice l h none _) _ => chkE k a sc x && chkO k lo sc l && chkO k hi sc h
    | _ => false
  | .comp x j it cs, sc, e => k.cal && (match e with
    | .ListComp el [⟨.Name y p, iter, ifs, as⟩] scope _ => decide (as = 0) && blkC k.N sc scope y j && locC scope sc y && noSet iter && chkI k it sc (.Name y p) iter && chkT k cs (relS scope sc) ifs && chkE k x (relS scope sc) el
    | _ => false)
  | .call f es, sc, e => k.cal && (match e with
    | .Call (.Name x _) args [] _ => glC sc x && decide (k.fn.lookup f = some x) && noDbg x && chkS k es sc args
    | _ => false)
  | .blt b es, sc, e => match e with
    | .Call (.Name x _) (a :: args) [] _ => k.cal && (decide (x = btN b) && glC sc x && chkS k es sc (a :: args))
    | _ => false
  | .tupN a, sc, e => match e with
    | .Call (.Name x _) [v] [] _ => decide (x = "tuple") && glC sc x && noStar v && chkE k a sc v
    | _ => false
  | .bltI .tuple (.rev a), sc, e => k.cal && (match e with
    | .Call (.Name x _) [.Call (.Name z _) [y] [] _] [] _ => decide (x = "tuple") && glC sc x && decide (z = "reversed") && glC sc z && noStar y && chkE k a sc y
    | _ => false)
  | .bltI .list (.rev a), sc, e => k.cal && (match e with
    | .Call (.Name x _) [.Call (.Name z _) [y] [] _] [] _ => decide (x = "list") && glC sc x && decide (z = "reversed") && glC sc z && noStar y && chkE k a sc y
    | _ => false)
  | .bltI .tuple (.rng (.cons a .nil)), sc, e => k.cal && (match e with
    | .Call (.Name x _) [.Call (.Name z _) [y] [] _] [] _ => decide (x = "tuple") && glC sc x && decide (z = "range") && glC sc z && noStar y && chkE k a sc y
    | _ => false)
  | .isi a t, sc, e => match e with
    | .Call (.Name x _) [v, .Name y _] [] _ => decide (x = "isinstance") && glC sc x && decide (y = tyS t) && !isCls t && glC sc y && noStar v && chkE k a sc v
    | _ => false
  | .box a, sc, e => chkE k a sc e
  | .nx a, sc, e => isCallE e && chkE k a sc e
  | .isx i c, sc, e => match e with
    | .Call (.Name x _) [.Name y _, .Name z _] [] _ => decide (x = "isinstance") && glC sc x && nameC k sc i y && decide (z = excS c) && (c == 100 || k.xs.contains c) && glC sc z && noDbg z
    | _ => false
  | .newN, sc, e => match e with
    | .Dict [] [] _ => true
    | _ => false
  | .srt a, sc, e => k.cal && (match e with
    | .Call (.Name y _) [x] [] _ => decide (y = "sorted") && glC sc y && noStar x && chkE k a sc x
    | _ => false)
  | .nget a i, sc, e => match e with
    | .Subscript x y _ => noSl y && chkE k a sc x && chkE k i sc y
    | _ => false
  | .nhas neg a b, sc, e => match e with
    | .Compare x [o] [y] _ => decide (o = if neg then .NotIn else .In) && !behindInMarks o y && chkE k a sc x && chkE k b sc y
    | _ => false
  | .cmpD op a b, sc, e => match e with
    | .Compare x [o] [y] _ => decide (o = cpOf op) && !behindInMarks o y && chkE k a sc x && chkE k b sc y
    | _ => false
  | .compR x j a cs, sc, e => k.cal && (match e with
    | .ListComp el [⟨.Name y p, iter, ifs, as⟩] scope _ => decide (as = 0) && blkC k.N sc scope y j && locC scope sc y && noSet iter && chkE k a sc iter && chkT k cs (relS scope sc) ifs && chkE k x (relS scope sc) el
    | _ => false)
  | .fld a f, sc, e => match e with
    | .Attribute x n _ => plainR x && decide (n = fldS f) && chkE k a sc x
    | _ => false
  | .meth a m es, sc, e => k.cal && (match e with
    | .Call (.Attribute o n apos) args [] cpos => plainR o && decide (n = mthS m) && (apos.endLine == cpos.line) && decide (args.length < 30) && chkE k a sc o && chkS k es sc args
    | _ => false)
  | .make c m es, sc, e => k.cal && (match e with
    | .Call (.Name x _) (a :: args) [] _ => decide (x = clsS c) && decide (m % 100 = 0) && glC sc x && noDbg x && chkS k es sc (a :: args)
    | _ => false)
  | .callM c m es, sc, e => k.cal && (match e with
    | .Call (.Attribute (.Name x _) n apos) (a :: args) [] cpos => decide (x = clsS c) && decide (n = mthS m) && k.cms.contains (c * 1000 + m) && glC sc x && noDbg x && (apos.endLine == cpos.line) && decide ((a :: args).length < 30) && chkS k es sc (a :: args)
    | _ => false)
  | .mu .pop a .nil, sc, e => match e with
    | .Call (.Attribute x n apos) [] [] cpos => plainR x && decide (n = "pop") && (apos.endLine == cpos.line) && chkE k a sc x
    | _ => false
  | _, _, _ => false
def chkS (k : Ck) : Es → Scope → List Expr → Bool
  | .nil, sc, l => l.isEmpty
  | .cons c cs, sc, l => match l with
    | v :: vs => noStar v && chkE k c sc v && chkS k cs sc vs
    | [] => false
def chkB (k : Ck) : Es → Scope → List Expr → Bool
  | .nil, sc, l => false
  | .cons c cs, sc, l => match l with
    | [v] => (match cs with | .nil => true | _ => false) && tstOk c && chkE k c sc v
    | v :: w :: vs => tstOk c && chkE k c sc v && chkB k cs sc (w :: vs)
    | [] => false
def chkO (k : Ck) : Es → Scope → Option Expr → Bool
  | .nil, sc, o => o.isNone
  | .cons c cs, sc, o => match o with
    | some v => chkE k c sc v
    | none => false
def chkT (k : Ck) : Es → Scope → List Expr → Bool
  | .nil, sc, l => l.isEmpty
  | .cons c cs, sc, l => match l with
    | [v] => tstOk c && chkE k c sc v
    | _ => false
def chkI (k : Ck) : It → Scope → Expr → Expr → Bool
  | .seq a, sc, tg, e => chkE k a sc e
  | .enum a, sc, tg, e => match e with
    | .Call (.Name x _) [v] [] _ => decide (x = "enumerate") && glC sc x && isTup tg && noStar v && chkE k a sc v
    | _ => false
  | .rev a, sc, tg, e => match e with
    | .Call (.Name x _) [v] [] _ => decide (x = "reversed") && glC sc x && noStar v && chkE k a sc v
    | _ => false
  | .rng es, sc, tg, e => match e with
    | .Call (.Name x _) args [] _ => decide (x = "range") && glC sc x && chkS k es sc args && decide (1 ≤ args.length) && decide (args.length ≤ 3)
    | _ => false
end
end Ev

/-! SndD: isinstance, comprehensions by the rules; the sides of the look. -/
namespace Ev
open PySem PySem.Spec PyProof.Rows L2

def tyT : Ty → String
  | .int => "int" | .bool => "bool" | .str => "str" | .list => "list" | .tuple => "tuple" | .cls _ => "__name__"
theorem isV_kit {K : PySem.W.Frag} {w : World} {H : Hp} {r : List Addr} {x : Val} {v : V} {F : List Addr} {t : Ty} {b : Bool} (p : Rep K w H r x v F) (h : isV t x = .ok b) : ∃ tn, TyX K H v (.type tn) ∧ PySem.W.kitOne K (.type tn) (.type (tyT t)) = some b := by
  cases p with
  | non => refine ⟨"NoneType", .base .non, kit_ty ?_⟩; cases t <;> first | (cases h; decide +kernel) | cases h
  | bl c => refine ⟨"bool", .base (.bl c), kit_ty ?_⟩; cases t <;> first | (cases h; decide +kernel) | cases h
  | int i => refine ⟨"int", .base (.int i), kit_ty ?_⟩; cases t <;> first | (cases h; decide +kernel) | cases h
  | str s => refine ⟨"str", .base (.str s), kit_ty ?_⟩; cases t <;> first | (cases h; decide +kernel) | cases h
  | tup e l => refine ⟨"tuple", .base (.tup e), kit_ty ?_⟩; cases t <;> first | (cases h; decide +kernel) | cases h
  | lst e l => refine ⟨"list", .base (.lst e), kit_ty ?_⟩; cases t <;> first | (cases h; decide +kernel) | cases h
  | scr e => cases t <;> cases h
  | scrL e => cases t <;> cases h
  | dicK e l => cases t <;> cases h
  | dicT e l => cases t <;> cases h
  | set n e => cases t <;> cases h
  | ref e => cases t <;> cases h
theorem boot_ty (t : Ty) (h : isCls t = false) : bootBuiltins (tyS t) = some (.type (tyT t)) ∧ tyS t ≠ "__name__" ∧ (tyS t == ("__debug__" : Str)) = false := by
  cases t <;> first | decide +kernel | cases h
theorem boot_isi : bootBuiltins ("isinstance" : Str) = some (.builtin "isinstance") := by decide +kernel

section
variable {X : Cx} {pos : Pos} {pg : Pg} {cl : CallT} {a : Expr} {ca : E} {fa : Bool}
theorem s_isi {t : Ty} {p p2 : Pos} (ht : isCls t = false) (hg : Gl X "isinstance") (hm : X.mg "isinstance" = none) (hg2 : Gl X (tyS t)) (hm2 : X.mg (tyS t) = none) (ha : PE X a (TEv X.K X.w (evE pg cl ca) fa))
    (hs : noStar a = true) : PE X (.Call (.Name "isinstance" p) [a, .Name (tyS t) p2] [] pos) (TEv X.K X.w (evE pg cl (.isi ca t)) true) := by
  obtain ⟨b1, b2, b3⟩ := boot_ty t ht
  have h1 : PE X (.Name (tyS t) p2) (tC (.ty (tyT t))) := pe_bltn hg2 hm2 b1 rfl b2 b3
  have st : starEach (a :: [.Name (tyS t) p2]) X.env = (false, eval a X.env) :: starEach [.Name (tyS t) p2] X.env := by
    cases a <;> first | rfl | cases hs
  refine pe_w (pe_callB call_isi hg hm boot_isi (pa_cons ha (pa_cons h1 pa_nil rfl) st) (by decide) (by decide) st rfl) fun σ H Q ⟨env, S, r, x, S', RE, RS, ev, k⟩ => ?_
  simp only [evE] at ev
  obtain ⟨p, e1, ev⟩ := bind_ok' ev
  obtain ⟨b, e2, ev⟩ := bind_ok' ev
  cases ev
  refine ⟨env, S, r, p.1, p.2, RE, RS, e1, fun v1 H1 r1 F1 p1 o1 s1 t1 f1 => ?_⟩
  obtain ⟨G, d⟩ := p1.dr s1
  obtain ⟨tn, ty, kit⟩ := isV_kit d e2
  exact ⟨_, _, _, _, b, rfl, .ty _, ty, kit, k.new (.bl b) s1 t1⟩

theorem star_one (hs : noStar a = true) (es : List Expr) (env : PySem.Env) : starEach (a :: es) env = (false, eval a env) :: starEach es env := by
  cases a <;> first | rfl | cases hs
theorem star_plain {pos : Pos} {env : PySem.Env} : ∀ {es : List Expr}, es.all noStar = true → (backTo pos (starEach es env)).any (·.1) = false
  | [], _ => rfl
  | e :: es, h => by
    rw [List.all_cons, Bool.and_eq_true] at h
    rw [star_one h.1]
    show (false || (backTo pos (starEach es env)).any (·.1)) = false
    rw [star_plain h.2]
    rfl
theorem plain_ix {b : Expr} (h : noSl b = true) : PlainIx b := by
  intro o i
  cases b <;> first | rfl | cases h
theorem fold_it {e : Expr} {env : PySem.Env} (h : noSet e = true) (x : Value) : foldedSetIterable e env x = pure x := by
  cases e <;> first | rfl | cases h
theorem vis_of {sc : Scope} {x : Str} (h : visC sc x = true) : Vis sc x := by
  unfold visC at h
  split at h <;> first | (rename_i e; exact .inl e) | (rename_i e; exact .inr (.inl e)) | (rename_i e; exact .inr (.inr e)) | cases h
theorem gl_of {X : Cx} {x : Str} (h : glC X.env.scope x = true) : Gl X x := by
  unfold glC at h
  split at h
  · rename_i e; exact e
  · cases h
theorem dbg_of {x : Str} (h : noDbg x = true) : (x == ("__debug__" : Str)) = false ∧ (x == ("__classdict__" : Str)) = false := by
  unfold noDbg at h
  simpa using h
theorem blk_of {N : List Str} {sc scope : Scope} {x : Str} {j : Nat} (h : blkC N sc scope x j = true) : BlkOk N sc scope [(x, j)] ∧ N[j]? = some x := by
  unfold blkC at h
  simp only [Bool.and_eq_true, decide_eq_true_eq, List.all_eq_true, Bool.or_eq_true, Bool.not_eq_true', decide_eq_false_iff_not] at h
  obtain ⟨⟨⟨⟨h1, h2⟩, h3⟩, h4⟩, h5⟩ := h
  refine ⟨⟨h1, h2, fun p hp => ?_, fun y hy e => ?_, fun y hy e => ?_⟩, h3⟩
  · obtain rfl := List.mem_singleton.mp hp
    exact h3
  · rcases h4 y hy with (z | z) | z
    · exact absurd e z
    · exact .inl z
    · exact .inr z
  · rcases h5 y hy with (z | z) | z
    · simp only [Bool.or_eq_false_iff, decide_eq_false_iff_not] at z
      exact (e.elim z.1 z.2).elim
    · exact .inl (by simp [z])
    · exact .inr (by simpa using z)
theorem pts_nilV {X : Cx} : PTs X [] (TCv X.K X.w (evC pg cl .nil)) :=
  ⟨fun pins s σ H Q I ⟨env, S, r, x, S', RE, RS, ev, k⟩ => pts_nil.run pins s σ H Q I (by
    simp only [evC] at ev; cases ev
    exact k H r RS .refl)⟩
theorem pts_oneV {X : Cx} {c : Expr} {cr : Es} (h : PT X c (TTv X.K X.w (evE pg cl ca))) : PTs X [c] (TCv X.K X.w (evC pg cl (.cons ca cr))) :=
  ⟨fun pins s σ H Q I ⟨env, S, r, x, S', RE, RS, ev, k⟩ => (pts_one h).run pins s σ H Q I (by
    simp only [evC] at ev
    obtain ⟨p, e1, ev⟩ := bind_ok' ev
    obtain ⟨b, e2, ev⟩ := bind_ok' ev
    cases ev
    exact ⟨env, S, r, _, _, RE, RS, by rw [e1, ← isB_ok e2], k⟩)⟩
/-- a comprehension's block -/
abbrev blkX (X : Cx) (scope : Scope) (s : Shared) (H : Hp) (C : Addr) (cl : List (Str × Addr)) (fp : List Addr) : Cx := X.blk s H scope (compEnvC scope cl C X.env) fp
theorem blk_scope {X : Cx} {scope : Scope} {s : Shared} {H : Hp} {C : Addr} {cl : List (Str × Addr)} {fp : List Addr} : (blkX X scope s H C cl fp).env.scope = relS scope X.env.scope := rfl
theorem s_comp {x : Str} {j : Nat} {p1 : Pos} {iter elt : Expr} {ifs : List Expr} {scope : Scope} {it : It} {cx : E} {cs : Es} {fr : Bool} (hc : X.calm = true) (hN : X.N.Nodup) (hi : PI X (.Name x p1) iter (TIv X.K X.w (evI pg cl it) fr)) (ok : blkC X.N X.env.scope scope x j = true) (hl : locC scope X.env.scope x = true)
    (ht : ∀ (s : Shared) (H : Hp) (C : Addr) (cl' : List (Str × Addr)) (fp : List Addr), PTs (blkX X scope s H C cl' fp) ifs (TCv X.K X.w (evC pg cl cs)))
    (he : ∀ (s : Shared) (H : Hp) (C : Addr) (cl' : List (Str × Addr)) (fp : List Addr), PE (blkX X scope s H C cl' fp) elt (TEv X.K X.w (evE pg cl cx) (fresh cx)))
    (hs : noSet iter = true) : PE X (.ListComp elt [⟨.Name x p1, iter, ifs, 0⟩] scope pos) (TEv X.K X.w (evE pg cl (.comp cx j it cs)) true) ∧
      (∀ (i : Nat) (y : Str) (py spos : Pos), X.N[i]? = some y → X.env.scope.names.lookup y = some .local → swapsWith (.ListComp elt [⟨.Name x p1, iter, ifs, 0⟩] scope pos) (some (.Name y py)) spos.line X.env = pure true →
        PS X (.Assign [.Name y py] (.ListComp elt [⟨.Name x p1, iter, ifs, 0⟩] scope pos) spos) (tAsg (TEv X.K X.w (evE pg cl (.comp cx j it cs)) true) (gName i))) := by
  obtain ⟨bo, hx⟩ := blk_of ok
  have hg : ∀ (s : Shared) (H : Hp) (C : Addr) (cl' : List (Str × Addr)) (fp : List Addr), PG (X.blk s H scope (compEnvC scope cl' C X.env) fp) (.Name x p1) (gName j) := fun s H C cl' fp => by
    unfold locC at hl
    simp only [Bool.or_eq_true, Bool.and_eq_true, decide_eq_true_eq] at hl
    rcases hl with hl | ⟨hl, hl2⟩
    · exact pg_name hN hx (.inl hl) (.inr hl)
    · exact pg_name hN hx (.inr hl) (.inl (by show (scope.names.lookup x == some NameKind.cell) = true; rw [hl2]; rfl))
  have hj : ∀ {pins σ H s}, L2.Inv X pins σ H s → j < σ.length := fun I => by rw [I.len]; exact (List.getElem?_eq_some_iff.mp hx).1
  refine ⟨⟨fun pins s σ H Q I q => (pe_lc hc hN hi bo hg ht he (fold_it hs)).run pins s σ H Q I (lc_read (hj I) q)⟩, fun i y py spos hy hyl hsw => ⟨fun pins s σ H D I q => (ps_setLc hc hN hy hyl hsw hi bo hg ht he (fold_it hs)).run pins s σ H D I (lc_read (hj I) q)⟩⟩
end
end Ev

/-! SndL: dicts as expressions. -/
namespace Ev
open PySem PySem.Spec PyProof.Rows L2

section
variable {K : PySem.W.Frag} {w : World} {H : Hp} {r : List Addr} {S : Sto}
theorem some_ne {o : Option HO} {u : HO} (h : o = some u) : o ≠ none := by rw [h]; exact fun z => nomatch z
theorem kp_updG {D : Addr} {o u : HO} {F : List Addr} (hD : H D = some u) (hu : ¬immut u) (n : D ∉ F) : Kp H (L2.upd H D o) F :=
  ⟨fun a z m e => by rw [upd_ne (fun q => n (by rw [← q]; exact m))]; exact e, fun a z e i => by
    rw [upd_ne (fun q => ?_)]
    · exact e
    · subst q
      rw [hD] at e
      cases e
      exact hu i⟩
theorem RSto.updG (h : RSto K w H r S) {D : Addr} {o u : HO} (hD : H D = some u) (hu : ¬immut u) (hw : ∀ x, u ≠ .own x) (n : D ∉ r) : RSto K w (L2.upd H D o) r S := by
  refine ⟨h.len, h.nd, fun n' ob q => ?_⟩
  obtain ⟨a, ha, rp⟩ := h.at_ n' ob q
  have ne : a ≠ D := fun e => n (e ▸ (List.mem_of_getElem? ha))
  exact ⟨a, ha, rp.keep (fun _ _ z => z) (fun u e => by rw [upd_ne ne]; exact e) (fun b e => by rw [upd_ne (ne_of e hD (fun z => hw _ z.symm))]; exact e) (kp_updG hD hu (by simp))⟩
end

section
variable {X : Cx} {pos : Pos} {pg : Pg} {cl : CallT} {e a b : Expr} {ca cb : E} {fa fb : Bool}
theorem New.dicK {K : PySem.W.Frag} {w : World} {H : Hp} {r : List Addr} {p : Addr} {qs : List (L2.Key × V)} {kvs : List (Val × Val)} (h : H p = none) (l : RepK K w H r kvs qs) : New K w H (upd H p (.dK qs)) r (.dic false kvs) (.ref p) := by
  refine ⟨[p], .dicK upd_same (l.keep ids ⟨fun a o m => (by cases m), fun a o q _ => same_upd h a o q⟩), by simp, fun a m => ?_, same_upd h⟩
  rw [List.mem_singleton.mp m]; exact h
theorem New.dicT {K : PySem.W.Frag} {w : World} {H : Hp} {r : List Addr} {p : Addr} {qs : List (List L2.Key × V)} {kvs : List (Val × Val)} (h : H p = none) (l : RepT K w H r kvs qs) : New K w H (upd H p (.dT qs)) r (.dic true kvs) (.ref p) := by
  refine ⟨[p], .dicT upd_same (l.keep ids ⟨fun a o m => (by cases m), fun a o q _ => same_upd h a o q⟩), by simp, fun a m => ?_, same_upd h⟩
  rw [List.mem_singleton.mp m]; exact h
theorem s_dicK : PE X (.Dict [] [] pos) (TEv X.K X.w (evE pg cl (.dic false .nil)) true) :=
  pe_w pe_dnewK fun σ H Q ⟨env, S, r, x, S', RE, RS, ev, k⟩ => by
    simp only [evE, evD] at ev; cases ev
    exact fun p hp => k.new (.dicK hp .nil) RS .refl
theorem s_dicT : PE X (.Dict [] [] pos) (TEv X.K X.w (evE pg cl (.dic true .nil)) true) :=
  pe_w pe_dnewT fun σ H Q ⟨env, S, r, x, S', RE, RS, ev, k⟩ => by
    simp only [evE, evD] at ev; cases ev
    exact fun p hp => k.new (.dicT hp .nil) RS .refl
theorem s_dic1 (ha : PE X a (TEv X.K X.w (evE pg cl ca) fa)) (hb : PE X b (TEv X.K X.w (evE pg cl cb) fb)) : PE X (.Dict [some a] [b] pos) (TEv X.K X.w (evE pg cl (.dic false (.cons ca (.cons cb .nil)))) true) := by
  have key := pe_disp (X := X) (pos := pos) (keys := [some a]) (values := [b]) (pps_cons ha hb pps_nil) rfl rfl (by simp) (by simp)
  refine pe_w key fun σ H Q ⟨env, S, r, x, S', RE, RS, ev, k⟩ => fun p hp => ?_
  simp only [evE, evD] at ev
  obtain ⟨q1, e1, ev⟩ := bind_ok' ev
  obtain ⟨q2, e2, ev⟩ := bind_ok' ev
  obtain ⟨g, ev⟩ := guard_ok ev
  obtain rfl := congrArg Prod.fst (ok_inj ev)
  obtain rfl := congrArg Prod.snd (ok_inj ev)
  rw [Bool.and_eq_true] at g
  have t0 : Stp H (upd H p (.dK [])) r r := .upd hp
  refine ⟨env, S, r, q1.1, q1.2, RE.step t0, RS.same (same_upd hp), e1, fun v1 H1 r1 F1 p1 o1 s1 t1 _ => ⟨env, q1.2, r1, q2.1, q2.2, RE.step (t0.trans t1), s1, e2, fun v2 H2 r2 F2 p2 o2 s2 t2 _ => ?_⟩⟩
  have tt := t1.trans t2
  have npr : p ∉ r := RS.nmem hp
  have hp2 : H2 p = some (.dK []) := tt.keep _ _ upd_same npr
  obtain ⟨kq, ek⟩ := key_false g.1
  have p1' := p1.step o1 t2
  rw [ek] at p1'
  obtain rfl := rep_keyV p1'
  have pv := p2.plain g.2
  refine ⟨hp2, [(kq, v2)], rfl, by simp, ?_⟩
  have npr2 : p ∉ r2 := tt.off (F := [p]) (fun a m => by rw [List.mem_singleton.mp m, upd_same]; exact fun z => nomatch z) (fun a m => by rw [List.mem_singleton.mp m]; exact npr) p (by simp)
  have kp : Kp H2 (upd H2 p (.dK (mergeK [] [(kq, v2)]))) [] := kp_updG hp2 (fun z => z) (by simp)
  have em : mergeK [] [(kq, v2)] = [(kq, v2)] := rfl
  have lk : RepK X.K X.w H2 r2 [(keyV kq, q2.1)] [(kq, v2)] := RepK.snoc kq pv .nil
  rw [em] at kp ⊢
  have ed : dput [] q1.1 q2.1 = [(keyV kq, q2.1)] := by rw [ek]; rfl
  refine k _ _ r2 [p] ?_ (fun a m => by rw [List.mem_singleton.mp m]; exact npr2) (s2.updG hp2 (fun z => z) (fun x z => nomatch z) npr2) ((t0.trans tt).over hp) fun _ => ⟨by simp, fun a m => by rw [List.mem_singleton.mp m]; exact hp⟩
  rw [ed]
  exact .dicK upd_same (lk.keep ids kp)
theorem s_dic2 {a2 b2 : Expr} {ca2 cb2 : E} {fa2 fb2 : Bool} (ha : PE X a (TEv X.K X.w (evE pg cl ca) fa)) (hb : PE X b (TEv X.K X.w (evE pg cl cb) fb)) (ha2 : PE X a2 (TEv X.K X.w (evE pg cl ca2) fa2)) (hb2 : PE X b2 (TEv X.K X.w (evE pg cl cb2) fb2)) : PE X (.Dict [some a, some a2] [b, b2] pos) (TEv X.K X.w (evE pg cl (.dic false (.cons ca (.cons cb (.cons ca2 (.cons cb2 .nil)))))) true) := by
  have key := pe_disp (X := X) (pos := pos) (keys := [some a, some a2]) (values := [b, b2]) (pps_cons ha hb (pps_cons ha2 hb2 pps_nil)) rfl rfl (by simp) (by simp)
  refine pe_w key fun σ H Q ⟨env, S, r, x, S', RE, RS, ev, k⟩ => fun p hp => ?_
  simp only [evE, evD] at ev
  obtain ⟨q1, e1, ev⟩ := bind_ok' ev
  obtain ⟨q2, e2, ev⟩ := bind_ok' ev
  obtain ⟨g, ev⟩ := guard_ok ev
  obtain ⟨q3, e3, ev⟩ := bind_ok' ev
  obtain ⟨q4, e4, ev⟩ := bind_ok' ev
  obtain ⟨g', ev⟩ := guard_ok ev
  obtain rfl := congrArg Prod.fst (ok_inj ev)
  obtain rfl := congrArg Prod.snd (ok_inj ev)
  rw [Bool.and_eq_true] at g g'
  have t0 : Stp H (upd H p (.dK [])) r r := .upd hp
  refine ⟨env, S, r, q1.1, q1.2, RE.step t0, RS.same (same_upd hp), e1, fun v1 H1 r1 F1 p1 o1 s1 t1 _ => ⟨env, q1.2, r1, q2.1, q2.2, RE.step (t0.trans t1), s1, e2, fun v2 H2 r2 F2 p2 o2 s2 t2 _ => ⟨env, q2.2, r2, q3.1, q3.2, RE.step (t0.trans (t1.trans t2)), s2, e3, fun v3 H3 r3 F3 p3 o3 s3 t3 _ => ⟨env, q3.2, r3, q4.1, q4.2, RE.step (t0.trans (t1.trans (t2.trans t3))), s3, e4, fun v4 H4 r4 F4 p4 o4 s4 t4 _ => ?_⟩⟩⟩⟩
  have tt := t1.trans (t2.trans (t3.trans t4))
  have npr : p ∉ r := RS.nmem hp
  have hp2 : H4 p = some (.dK []) := tt.keep _ _ upd_same npr
  obtain ⟨kq, ek⟩ := key_false g.1
  obtain ⟨kq3, ek3⟩ := key_false g'.1
  have p1' := p1.step o1 (t2.trans (t3.trans t4))
  rw [ek] at p1'
  obtain rfl := rep_keyV p1'
  have p3' := p3.step o3 t4
  rw [ek3] at p3'
  obtain rfl := rep_keyV p3'
  have pv := (p2.plain g.2).step (by simp) (t3.trans t4)
  have pv4 := p4.plain g'.2
  refine ⟨hp2, [(kq, v2), (kq3, v4)], rfl, by simp, ?_⟩
  have npr2 : p ∉ r4 := tt.off (F := [p]) (fun a m => by rw [List.mem_singleton.mp m, upd_same]; exact fun z => nomatch z) (fun a m => by rw [List.mem_singleton.mp m]; exact npr) p (by simp)
  have em : mergeK [] [(kq, v2), (kq3, v4)] = putK (putK [] kq v2) kq3 v4 := rfl
  have kp : Kp H4 (upd H4 p (.dK (mergeK [] [(kq, v2), (kq3, v4)]))) [] := kp_updG hp2 (fun z => z) (by simp)
  have lk : RepK X.K X.w H4 r4 (dput (dput [] (keyV kq) q2.1) (keyV kq3) q4.1) (putK (putK [] kq v2) kq3 v4) := RepK.put kq3 pv4 (RepK.put kq pv .nil)
  rw [em] at kp ⊢
  refine k _ _ r4 [p] ?_ (fun a m => by rw [List.mem_singleton.mp m]; exact npr2) (s4.updG hp2 (fun z => z) (fun x z => nomatch z) npr2) ((t0.trans tt).over hp) fun _ => ⟨by simp, fun a m => by rw [List.mem_singleton.mp m]; exact hp⟩
  rw [ek, ek3]
  exact .dicK upd_same (lk.keep ids kp)
theorem isd_of {K : PySem.W.Frag} {w : World} {H : Hp} {r : List Addr} {t : Bool} {kvs : List (Val × Val)} {x : V} {F : List Addr} (h : Rep K w H r (.dic t kvs) x F) : ∃ a, x = .ref a ∧ IsD H a := by
  cases h with
  | dicK a b => exact ⟨_, rfl, .inl ⟨_, .of a⟩⟩
  | dicT a b => exact ⟨_, rfl, .inr ⟨_, .of a⟩⟩
theorem get_dic {x : Val} {l : List Val} {v : Val} (h : mtV .get x l = .ok v) : ∃ t kvs, x = .dic t kvs := by
  cases x <;> first
    | exact ⟨_, _, rfl⟩
    | (cases l with
       | nil => cases h
       | cons y l => cases l with
         | nil => cases h
         | cons z l => cases l <;> cases h)
theorem s_get1 {x : Str} {p apos cpos : Pos} {i : Nat} (hu : X.A.units + 200 < cLine) (ha : PE X (.Name x p) (TEv X.K X.w (evE pg cl (.var i)) fa)) (hb : PE X b (TEv X.K X.w (evE pg cl cb) fb)) (hs : noStar b = true) (hline : (apos.endLine == cpos.line) = true) :
    PE X (.Call (.Attribute (.Name x p) "get" apos) [b] [] cpos) (TEv X.K X.w (evE pg cl (.mt .get (.var i) (.cons cb .nil))) false) := by
  have st : starEach [b] X.env = (false, eval b X.env) :: starEach [] X.env := by cases b <;> first | rfl | cases hs
  refine pe_w (pe_dget1 (by omega) ha hb ⟨rfl, by rw [st]; rfl, hline, by rw [st]; rfl⟩) fun σ H Q ⟨env, S, r, y, S', RE, RS, ev, k⟩ => ?_
  rw [evE] at ev
  obtain ⟨⟨dv, S1⟩, e1, ev⟩ := bind_ok' ev
  obtain ⟨gd, ev⟩ := guard_ok ev
  obtain ⟨t0, kvs0, ed0⟩ := mtOk_get gd
  simp only [evS] at ev
  obtain ⟨q2, e2, ev⟩ := bind_ok' ev
  obtain ⟨q3, e3, e2⟩ := bind_ok' e2
  simp only [bind_ok] at e2
  obtain rfl := ok_inj e2
  obtain ⟨v, e4, ev⟩ := bind_ok' ev
  obtain ⟨rfl, rfl⟩ := Prod.mk.inj (ok_inj ev)
  obtain ⟨t, kvs, ed⟩ := get_dic e4
  rw [ed] at e4
  simp only [mtV, mtA] at e4
  obtain ⟨g, e4⟩ := guard_ok e4
  obtain rfl := ok_inj e4
  refine ⟨env, S, r, _, _, RE, RS, e1, fun v1 H1 r1 F1 p1 o1 s1 t1 _ => ?_⟩
  obtain ⟨_, d1⟩ := p1.dr s1
  have d1 : Rep X.K X.w H1 r1 (Ev.dr S1 dv) v1 _ := d1
  rw [show Ev.dr S1 dv = .dic t0 kvs0 from ed0] at d1
  obtain ⟨a', ea, isd⟩ := isd_of d1
  refine ⟨a', ea, isd, env, S1, r1, _, _, RE.step t1, s1, e3, fun v2 H2 r2 F2 p2 o2 s2 t2 _ => ?_⟩
  obtain ⟨_, d2⟩ := (p1.step o1 t2).dr s2
  rw [show Ev.dr q3.2 dv = .dic t kvs from ed] at d2
  obtain ⟨a2, o, e5, dg, alt⟩ := dgetV d2 p2 g
  rw [ea] at e5
  obtain rfl : a' = a2 := by injection e5
  refine ⟨o, dg, ?_⟩
  rcases alt with ⟨h1, h2⟩ | ⟨z, v, h1, h2, h3⟩
  · rw [h1] at k
    rw [h2]
    exact k.at_ .non (by simp) s2 (t1.trans t2)
  · rw [h1] at k
    rw [h2]
    exact k.at_ h3 (by simp) s2 (t1.trans t2)
theorem s_get2 {x : Str} {p apos cpos : Pos} {i : Nat} {cc : E} {fc : Bool} {c : Expr} (hu : X.A.units + 200 < cLine) (ha : PE X (.Name x p) (TEv X.K X.w (evE pg cl (.var i)) fa)) (hb : PE X b (TEv X.K X.w (evE pg cl cb) fb)) (hc : PE X c (TEv X.K X.w (evE pg cl cc) fc)) (hs : noStar b = true) (hs2 : noStar c = true) (hline : (apos.endLine == cpos.line) = true) :
    PE X (.Call (.Attribute (.Name x p) "get" apos) [b, c] [] cpos) (TEv X.K X.w (evE pg cl (.mt .get (.var i) (.cons cb (.cons cc .nil)))) false) := by
  have st : starEach [b, c] X.env = [(false, eval b X.env), (false, eval c X.env)] := by
    have h1 : starEach [b, c] X.env = (false, eval b X.env) :: starEach [c] X.env := by cases b <;> first | rfl | cases hs
    have h2 : starEach [c] X.env = (false, eval c X.env) :: starEach [] X.env := by cases c <;> first | rfl | cases hs2
    rw [h1, h2]; rfl
  refine pe_w (pe_dget2 (by omega) ha hb hc ⟨rfl, by rw [st]; rfl, hline, by rw [st]; rfl⟩) fun σ H Q ⟨env, S, r, y, S', RE, RS, ev, k⟩ => ?_
  rw [evE] at ev
  obtain ⟨⟨dv, S1⟩, e1, ev⟩ := bind_ok' ev
  obtain ⟨gd, ev⟩ := guard_ok ev
  obtain ⟨t0, kvs0, ed0⟩ := mtOk_get gd
  simp only [evS] at ev
  obtain ⟨q2, e2, ev⟩ := bind_ok' ev
  obtain ⟨q3, e3, e2⟩ := bind_ok' e2
  obtain ⟨q4, e5, e2⟩ := bind_ok' e2
  obtain ⟨q5, e6, e5⟩ := bind_ok' e5
  simp only [bind_ok] at e5
  obtain rfl := ok_inj e5
  obtain rfl := ok_inj e2
  obtain ⟨v, e4, ev⟩ := bind_ok' ev
  obtain ⟨rfl, rfl⟩ := Prod.mk.inj (ok_inj ev)
  obtain ⟨t, kvs, ed⟩ := get_dic e4
  rw [ed] at e4
  simp only [mtV, mtA] at e4
  obtain ⟨g, e4⟩ := guard_ok e4
  obtain rfl := ok_inj e4
  refine ⟨env, S, r, _, _, RE, RS, e1, fun v1 H1 r1 F1 p1 o1 s1 t1 _ => ?_⟩
  obtain ⟨_, d1⟩ := p1.dr s1
  have d1 : Rep X.K X.w H1 r1 (Ev.dr S1 dv) v1 _ := d1
  rw [show Ev.dr S1 dv = .dic t0 kvs0 from ed0] at d1
  obtain ⟨a', ea, isd⟩ := isd_of d1
  refine ⟨a', ea, isd, env, S1, r1, _, _, RE.step t1, s1, e3, fun v2 H2 r2 F2 p2 o2 s2 t2 _ => ⟨env, q3.2, r2, _, _, RE.step (t1.trans t2), s2, e6, fun v3 H3 r3 F3 p3 o3 s3 t3 _ => ?_⟩⟩
  obtain ⟨_, d2⟩ := (p1.step o1 (t2.trans t3)).dr s3
  rw [show Ev.dr q5.2 dv = .dic t kvs from ed] at d2
  obtain ⟨a2, o, e7, dg, alt⟩ := dgetV d2 (p2.step o2 t3) g
  rw [ea] at e7
  obtain rfl : a' = a2 := by injection e7
  refine ⟨o, dg, ?_⟩
  rcases alt with ⟨h1, h2⟩ | ⟨z, v, h1, h2, h3⟩
  · rw [h1] at k
    rw [h2]
    exact k.at_ p3 o3 s3 (t1.trans (t2.trans t3))
  · rw [h1] at k
    rw [h2]
    exact k.at_ h3 (by simp) s3 (t1.trans (t2.trans t3))
end


section
variable {X : Cx} {pos : Pos} {pg : Pg} {cl : CallT} {e a b : Expr} {ca cb : E} {fa fb : Bool}
theorem idx_first : ∀ {is : List Int} {i : Int} {j : Nat}, is.findIdx? (· == i) = some j → is[j]? = some i ∧ ∀ (m : Nat) (z : Int), m < j → is[m]? = some z → (z == i) = false := fun {is i j} h => by
  obtain ⟨hj, h1, h2⟩ := List.findIdx?_eq_some_iff_getElem.mp h
  refine ⟨by rw [List.getElem?_eq_getElem hj]; simpa using h1, fun m z hm hz => ?_⟩
  have hml : m < is.length := by omega
  rw [List.getElem?_eq_getElem hml] at hz
  have := h2 m hm
  rw [Option.some.inj hz] at this
  simpa using this
theorem s_index {x : Str} {p apos cpos : Pos} {i : Nat} (ha : PE X (.Name x p) (TEv X.K X.w (evE pg cl (.var i)) fa)) (hb : PE X b (TEv X.K X.w (evE pg cl cb) fb)) (hs : noStar b = true) (hline : (apos.endLine == cpos.line) = true) :
    PE X (.Call (.Attribute (.Name x p) "index" apos) [b] [] cpos) (TEv X.K X.w (evE pg cl (.mt .index (.var i) (.cons cb .nil))) false) := by
  have st : starEach [b] X.env = (false, eval b X.env) :: starEach [] X.env := by cases b <;> first | rfl | cases hs
  refine pe_w (pe_bm PySem.F.plainAttrs_list PySem.F.slot_list_index PySem.F.type_list_index mt_index ha (pa_cons hb pa_nil st) rfl (by rw [st]; rfl) hline st rfl) fun σ H Q ⟨env, S, r, y, S', RE, RS, ev, k⟩ => ?_
  rw [evE] at ev
  obtain ⟨⟨dv, S1⟩, e1, ev⟩ := bind_ok' ev
  obtain ⟨gd, ev⟩ := guard_ok ev
  obtain ⟨xs0, ed0⟩ := mtOk_lst gd
  simp only [evS] at ev
  obtain ⟨q2, e2, ev⟩ := bind_ok' ev
  obtain ⟨q3, e3, e2⟩ := bind_ok' e2
  simp only [bind_ok] at e2
  obtain rfl := ok_inj e2
  obtain ⟨v, e4, ev⟩ := bind_ok' ev
  obtain ⟨rfl, rfl⟩ := Prod.mk.inj (ok_inj ev)
  refine ⟨env, S, r, _, _, RE, RS, e1, fun v1 H1 r1 F1 p1 o1 s1 t1 _ => ?_⟩
  obtain ⟨_, d1⟩ := p1.dr s1
  have d1 : Rep X.K X.w H1 r1 (Ev.dr S1 dv) v1 _ := d1
  rw [show Ev.dr S1 dv = .lst xs0 from ed0] at d1
  obtain ⟨a1, vs1, G1, rfl, h1, l1⟩ := vlst d1
  refine ⟨.inl ⟨rfl, _, .of h1⟩, env, S1, r1, _, _, RE.step t1, s1, e3, fun v2 H2 r2 F2 p2 o2 s2 t2 _ => ?_⟩
  obtain ⟨_, d2⟩ := (p1.step o1 t2).dr s2
  have d2 : Rep X.K X.w H2 r2 (Ev.dr q3.2 dv) _ _ := d2
  have e4 : mtV .index (Ev.dr q3.2 dv) [q3.1] = .ok v := e4
  generalize Ev.dr q3.2 dv = lv at d2 e4
  generalize q3.1 = iv at p2 e4
  obtain ⟨xs, rfl⟩ : ∃ xs, lv = .lst xs := by cases lv <;> first | exact ⟨_, rfl⟩ | (simp [mtV] at e4)
  obtain ⟨n, rfl⟩ : ∃ n, iv = .int n := by cases iv <;> first | exact ⟨_, rfl⟩ | (simp [mtV] at e4)
  simp only [mtV, mtA] at e4
  obtain ⟨is, e5, e4⟩ := bind_ok' e4
  obtain ⟨j, e6, e4⟩ := bind_ok' e4
  obtain rfl := ok_inj e4
  obtain rfl := asI_some (of_ok e5)
  obtain ⟨a2, vs2, G2, ea, h2, l2⟩ := vlst d2
  obtain rfl : a1 = a2 := by injection ea
  have hv := repL_int l2
  subst hv
  obtain ⟨g1, g2⟩ := idx_first (of_ok e6)
  refine ⟨a1, _, _, j, .int n, rfl, rfl, .of h2, by rw [vint p2]; rfl, by rw [List.all_map]; exact List.all_eq_true.mpr fun _ _ => rfl, by rw [List.getElem?_map, g1]; rfl, by rw [vint p2]; show (n == n) = true; simp, fun m z' hm hz => ?_, k.at_ (.int _) (by simp) s2 (t1.trans t2)⟩
  rw [List.getElem?_map] at hz
  cases hq : is[m]? with
  | none => rw [hq] at hz; cases hz
  | some z =>
    rw [hq] at hz
    obtain rfl := Option.some.inj hz
    rw [vint p2]
    exact g2 m z hm hq
end
end Ev

/-! SndW: list(d.values()). -/
namespace Ev
open PySem PySem.Spec PyProof.Rows L2
section
variable {X : Cx} {pos : Pos} {pg : Pg} {cl : CallT} {fa : Bool} {td : TE}
/-- the values of a dict, as they stand -/
def ValsAt (H : Hp) (d : Addr) (vs : List V) : Prop := (∃ kvs, H d = some (.dK kvs) ∧ vs = kvs.map (·.2)) ∨ ∃ kvs, H d = some (.dT kvs) ∧ vs = kvs.map (·.2)
theorem paired_at {α β : Type} {F : α → β → Prop} : ∀ {as : List α} {bs : List β} {i : Nat} {a : α}, Paired F as bs → as[i]? = some a → ∃ b, bs[i]? = some b ∧ F a b
  | _, _, i, a, .nil, h => by cases h
  | _, _, 0, a, .cons x _, h => by cases h; exact ⟨_, rfl, x⟩
  | _, _, i + 1, a, .cons _ r, h => paired_at (i := i) r (by simpa using h)
def vwHO (p d : Addr) : HO := .ext fun h => h.IsValuesView p d
theorem vwHO_ok {P : Program} {w : World} {H : Hp} {h : Heap} {p d : Addr} (e : h.IsValuesView p d) : ObjOk P w H h p (vwHO p d) := by
  obtain ⟨o, e1, e2⟩ := e
  exact ⟨⟨o, e1, e2⟩, ⟨o, e1⟩, fun h1 h2 ⟨o', q1, q2⟩ k => ⟨o', k _ q1, q2⟩⟩
theorem raw_of {pins : List (Addr × Obj)} {σ : L2.St} {H : Hp} {s : Shared} {d : Addr} {vs : List V} (I : Inv X pins σ H s) (h : ValsAt H d vs) :
    (d == sysModules) = false ∧ vs.length ≤ sizeLine ∧ ∃ es ep, s.heap.DictRaw d es ep ∧ es.size = vs.length ∧ ∀ (i : Nat) (hi : i < es.size) (v : V), vs[i]? = some v → RelV v es[i].val := by
  rcases h with ⟨kvs, h, rfl⟩ | ⟨kvs, h, rfl⟩
  · obtain ⟨z, hs, ws, kv, dof⟩ := (show ObjOk X.prog X.w H s.heap d (.dK kvs) from I.hok d _ h)
    obtain ⟨es, ep, raw, sz, en⟩ := dof.raw
    have hl : kvs.length = ws.length := Paired.length kv
    refine ⟨hs, by rw [List.length_map]; exact z, es, ep, raw, by rw [sz, List.length_map, hl], fun i hi v hv => ?_⟩
    have hiw : i < ws.length := by omega
    obtain ⟨x, h1, h2⟩ := KV.at' kv (i := i) (k := ws[i].1) (v := ws[i].2) (List.getElem?_eq_getElem hiw)
    rw [List.getElem?_map, h1] at hv
    cases hv
    rw [(en i hi ws[i].1 ws[i].2 (List.getElem?_eq_getElem hiw)).2]
    exact h2
  · obtain ⟨z, hs, xs, pr, o, es, ep, ho, hx, hdt, he, hn⟩ := (show ObjOk X.prog X.w H s.heap d (.dT kvs) from I.hok d _ h)
    have l1 : es.size = xs.length := size_of_entries he
    have l2 : kvs.length = xs.length := Paired.length pr
    refine ⟨hs, by rw [List.length_map]; exact z, es, ep, ⟨o, ho, hx, hdt⟩, by rw [List.length_map]; omega, fun i hi v hv => ?_⟩
    have hix : i < xs.length := by omega
    have qe := entry_at he i
    rw [Array.getElem?_eq_getElem hi, List.getElem?_eq_getElem hix, Option.map_some] at qe
    have ee := Option.some.inj qe
    have hik : i < kvs.length := by omega
    rw [List.getElem?_map, List.getElem?_eq_getElem hik] at hv
    cases hv
    obtain ⟨q, hq, hr⟩ := paired_at pr (List.getElem?_eq_getElem hik)
    rw [List.getElem?_eq_getElem hix] at hq
    cases hq
    rw [ee]
    exact hr.2.2
/-- d.values(): a new view -/
def tView (td : TE) : TE := fun σ H Q => td σ H fun x H1 => ∃ d vs, x = .ref d ∧ ValsAt H1 d vs ∧ ∀ p, H1 p = none → Q (.ref p) (upd H1 p (vwHO p d))
theorem pe_view {e : Expr} {apos cpos : Pos} (he : PE X e td) (hbase : attributeBase e "values" X.env (eval e X.env) = eval e X.env) (hline : (apos.endLine == cpos.line) = true) : PE X (.Call (.Attribute e "values" apos) [] [] cpos) (tView td) := by
  refine ⟨fun pins s σ H Q I h => ?_⟩
  refine wpAny_Call_method (T := "dict") (id := "dict.values") hbase rfl hline F.plainAttrs_dict F.slot_dict_values F.type_dict_values (thn (he.run pins s σ H _ I h) fun u s1 ⟨x, H1, I1, rx, d, vs, ex, hv, q⟩ => ?_)
  subst ex
  obtain rfl : u = Value.ref d := rx
  obtain ⟨hs, hz, es, ep, raw, sz, en⟩ := raw_of I1 hv
  refine ⟨raw.typeIs, fun a ea => ?_, ?_⟩
  · cases ea
    obtain ⟨o, ho, hx, hd⟩ := raw
    exact ⟨o, ho, hx.2.1⟩
  have lay : Inv X pins σ (upd H1 s1.heap.objs.size (vwHO s1.heap.objs.size d)) { s1 with heap := s1.heap.push { cls := .type "dict_values", data := .fields #[.ref d] } } := I1.laid (t' := s1.toks) (fun b ob q => Heap.get?_push_of_some _ q) (Nat.le_refl _) (vwHO_ok ⟨_, Heap.get?_push_size _ rfl, rfl, rfl⟩)
  show wpAny _ _ (callWith cpos (.builtin "dict.values") [Value.ref d] [] []) _ X.xe s1
  exact method_meetsIn F.slot_dict_values F.entry_dict_values rfl (PySem.evalArgs_none ⟨rfl, raw.typeIs, F.args_dict_values_1 _, _, meets_dict_values_raw d hs, ⟨es, ep, raw⟩, V.ref s1.heap.objs.size, _, lay, rfl, q _ (I1.hok.fresh (Nat.le_refl _))⟩)
/-- list(v) of such a view -/
theorem cr_listV (hc : X.calm = true) : CallR X (.type "list") (fun xs H Q => ∃ p d vs, xs = [V.ref p] ∧ H p = some (vwHO p d) ∧ ValsAt H d vs ∧ ∀ l, H l = none → Q (.ref l) (upd H l (.lst vs))) := by
  intro pins s σ H xs us Q I r h
  obtain ⟨p, d, vs, rfl, hp, hv, q⟩ := h
  obtain ⟨u, rfl, rx⟩ := r.one
  cases rx
  obtain ⟨hs, hz, es, ep, raw, sz, en⟩ := raw_of I hv
  have vw : s.heap.IsValuesView p d := (show ObjOk X.prog X.w H s.heap p (vwHO p d) from I.hok p _ hp).1
  refine PySem.W.kdl_call (PySem.KdlSrc.rawValues (r := p) (d := d) (es := es) (ep := ep)) (I.ok.hd hc) ⟨vw, raw⟩ (by omega) fun g m acc n kp at_ it => ?_
  have rv : Vals vs acc.toList := by
    refine vals_of_at ((sz.symm.trans it.1.symm).trans Array.length_toList.symm) fun j x v h1 h2 => ?_
    obtain ⟨hi, e⟩ := it.2 j v (by rw [← Array.getElem?_toList]; exact h2)
    rw [e]
    exact en j hi x h1
  exact ⟨.ref s.heap.objs.size, _, I.laid (t' := m) kp (Nat.le_refl _) (show ObjOk X.prog X.w _ _ _ (.lst vs) from ⟨hz, acc.toList, n, rv, by rw [Array.toArray_toList]; exact at_⟩), rfl, q _ (I.hok.fresh (Nat.le_refl _))⟩
theorem repK_vals {K : PySem.W.Frag} {w : World} {H : Hp} {r : List Addr} : ∀ {kvs : List (Val × Val)} {qs : List (L2.Key × V)}, RepK K w H r kvs qs → RepL K w H r (kvs.map (·.2)) (qs.map (·.2)) []
  | _, _, .nil => .nil
  | _, _, .int h t => .cons h (repK_vals t)
  | _, _, .str h t => .cons h (repK_vals t)
theorem repT_vals {K : PySem.W.Frag} {w : World} {H : Hp} {r : List Addr} : ∀ {kvs : List (Val × Val)} {qs : List (List L2.Key × V)}, RepT K w H r kvs qs → RepL K w H r (kvs.map (·.2)) (qs.map (·.2)) []
  | _, _, .nil => .nil
  | _, _, .cons h t => .cons h (repT_vals t)
theorem s_vals {x : Str} {p lp apos cpos : Pos} {i : Nat} (hc : X.calm = true) (hg : Gl X "list") (hm : X.mg "list" = none) (ha : PE X (.Name x p) (TEv X.K X.w (evE pg cl (.var i)) fa)) (hline : (apos.endLine == cpos.line) = true) :
    PE X (.Call (.Name "list" lp) [.Call (.Attribute (.Name x p) "values" apos) [] [] cpos] [] pos) (TEv X.K X.w (evE pg cl (.mt .values (.var i) .nil)) false) := by
  have pv := pe_view (apos := apos) (cpos := cpos) ha rfl hline
  have key := pe_callTy (X := X) (pos := pos) (p := lp) (cr_listV hc) hg hm (boot_bt .list) (pa_cons pv pa_nil) (bt_ne .list).1 (bt_ne .list).2 rfl rfl
  refine pe_w key fun σ H Q ⟨env, S, r, y, S', RE, RS, ev, k⟩ => ?_
  rw [evE] at ev
  obtain ⟨⟨dv, S1⟩, e1, ev⟩ := bind_ok' ev
  obtain ⟨_, ev⟩ := guard_ok ev
  simp only [evS, bind_ok] at ev
  obtain ⟨v, e4, ev⟩ := bind_ok' ev
  obtain ⟨rfl, rfl⟩ := Prod.mk.inj (ok_inj ev)
  obtain ⟨t, kvs, ed⟩ : ∃ t kvs, Ev.dr S1 dv = .dic t kvs := by
    generalize Ev.dr S1 dv = z at e4
    cases z <;> first | exact ⟨_, _, rfl⟩ | cases e4
  rw [ed] at e4
  simp only [mtV, mtA] at e4
  obtain ⟨g, e4⟩ := guard_ok e4
  obtain rfl := ok_inj e4
  refine ⟨env, S, r, _, _, RE, RS, e1, fun v1 H1 r1 F1 p1 o1 s1 t1 _ => ?_⟩
  obtain ⟨d, vs, ev1, va, rl⟩ : ∃ d vs, v1 = .ref d ∧ ValsAt H1 d vs ∧ RepL X.K X.w H1 r1 (kvs.map (·.2)) vs [] := by
    obtain ⟨_, d1⟩ := p1.dr s1
    have d1 : Rep X.K X.w H1 r1 (Ev.dr S1 dv) v1 _ := d1
    rw [ed] at d1
    cases d1 with
    | dicK a b => exact ⟨_, _, rfl, .inl ⟨_, a, rfl⟩, repK_vals b⟩
    | dicT a b => exact ⟨_, _, rfl, .inr ⟨_, a, rfl⟩, repT_vals b⟩
  refine ⟨d, vs, ev1, va, fun p hp => ?_⟩
  have hdp : d ≠ p := fun e => by
    subst e
    rcases va with ⟨_, z, _⟩ | ⟨_, z, _⟩ <;> rw [hp] at z <;> cases z
  refine ⟨p, d, vs, rfl, upd_same, ?_, fun l hl => ?_⟩
  · rcases va with ⟨q, z, e⟩ | ⟨q, z, e⟩
    · exact .inl ⟨q, by rw [upd_ne hdp]; exact z, e⟩
    · exact .inr ⟨q, by rw [upd_ne hdp]; exact z, e⟩
  · have kp1 : Kp H1 (upd H1 p (vwHO p d)) [] := ⟨fun a o m => (by cases m), fun a o q _ => same_upd hp a o q⟩
    exact k.new (New.lst hl (rl.keep ids kp1)) (s1.same (same_upd hp)) (t1.trans (.upd hp))
end
end Ev

/-! SndR: the store by expressions: things put there, lists, dicts and instances of it. -/
namespace Ev
open PySem PySem.Spec PyProof.Rows L2

section
variable {K : PySem.W.Frag} {w : World} {H H1 : Hp} {r r1 : List Addr} {S : Sto}
/-- one more object of the store -/
theorem RSto.push (h : RSto K w H r S) {p : Addr} {o : Ob} (ob : RepOb K w H (r ++ [p]) o p) (n : p ∉ r) : RSto K w H (r ++ [p]) (S ++ [o]) where
  len := by rw [List.length_append, List.length_append, h.len]; rfl
  nd := List.nodup_append.mpr ⟨h.nd, by simp, fun a m b m' e => n (by rw [← List.mem_singleton.mp m', ← e]; exact m)⟩
  at_ := fun i o' e => by
    have sub : ∀ (n : Nat) (a : Addr), r[n]? = some a → (r ++ [p])[n]? = some a := fun n a e => by rw [List.getElem?_append_left (List.getElem?_eq_some_iff.mp e).1]; exact e
    by_cases hi : i < S.length
    · rw [List.getElem?_append_left hi] at e
      obtain ⟨a, ha, ob'⟩ := h.at_ i o' e
      exact ⟨a, sub i a ha, ob'.keep sub (fun u z => z) (fun b z => z) ⟨fun a o _ z => z, fun a o z _ => z⟩⟩
    · rw [List.getElem?_append_right (by omega)] at e
      have h0 : i - S.length = 0 := by
        have := (List.getElem?_eq_some_iff.mp e).1
        simp at this; omega
      rw [h0] at e
      cases e
      refine ⟨p, ?_, ob⟩
      rw [List.getElem?_append_right (by rw [← h.len]; omega), ← h.len, h0]
      rfl
theorem RSto.lt (h : RSto K w H r S) {n : Nat} {a : Addr} (e : r[n]? = some a) : n < S.length := by
  rw [h.len]; exact (List.getElem?_eq_some_iff.mp e).1
theorem get_push (r : List Addr) (p : Addr) {n : Nat} (h : n = r.length) : (r ++ [p])[n]? = some p := by
  subst h
  rw [List.getElem?_append_right (Nat.le_refl _), Nat.sub_self]
  rfl
theorem Stp.push (t : Stp H H1 r r1) {p : Addr} (h : H p = Option.none) : Stp H H1 r (r1 ++ [p]) where
  keep := t.keep
  there := t.there
  im := t.im
  ext := by
    obtain ⟨more, e, f⟩ := t.ext
    refine ⟨more ++ [p], by rw [e, List.append_assoc], fun a m => ?_⟩
    rcases List.mem_append.mp m with m | m
    · exact f a m
    · rw [List.mem_singleton.mp m]; exact h
/-- an object of the store is another one now -/
theorem RSto.put (h : RSto K w H r S) {n : Nat} {l : Addr} {o : Ob} {u : HO} (e : r[n]? = some l) (ob : RepOb K w (L2.upd H l u) r o l) : RSto K w (L2.upd H l u) r (S.set n o) where
  len := by rw [List.length_set]; exact h.len
  nd := h.nd
  at_ := fun i o' q => by
    obtain ⟨u0, hl, hi, hw⟩ := (h.get e (List.getElem?_eq_getElem (h.lt e))).mut
    rcases set_get q with ⟨rfl, rfl⟩ | ⟨ne, q⟩
    · exact ⟨l, e, ob⟩
    · obtain ⟨a, ha, ob'⟩ := h.at_ i o' q
      have na : a ≠ l := fun z => by
        subst z
        obtain ⟨h1, e1⟩ := List.getElem?_eq_some_iff.mp ha
        obtain ⟨h2, e2⟩ := List.getElem?_eq_some_iff.mp e
        exact ne ((List.getElem_inj h.nd).mp (e1.trans e2.symm))
      exact ⟨a, ha, ob'.keep (fun _ _ z => z) (fun v z => by rw [upd_ne na]; exact z) (fun b z => by rw [upd_ne (ne_of z hl (fun z => hw _ z.symm))]; exact z) (kp_updG hl hi (by simp))⟩
theorem RSto.stp (h : RSto K w H r S) {l : Addr} {u : HO} (m : l ∈ r) : Stp H (L2.upd H l u) r r where
  keep := fun b o e n => by rw [upd_ne (fun z => n (by rw [z]; exact m))]; exact e
  there := fun b e => by
    by_cases q : b = l
    · subst q; rw [upd_same]; exact fun z => nomatch z
    · rw [upd_ne q]; exact e
  im := fun a o e i => by
    rw [upd_ne (fun z => ?_)]
    · exact e
    · subst z
      obtain ⟨n, hn, en⟩ := List.getElem_of_mem m
      have en' : r[n]? = some a := by rw [List.getElem?_eq_getElem hn, en]
      obtain ⟨u0, hl, hi, _⟩ := (h.get en' (List.getElem?_eq_getElem (h.lt en'))).mut
      rw [hl] at e
      cases e
      exact hi i
  ext := ⟨[], by simp, by simp⟩
theorem lstR_ok {v : Val} {o : Nat × List Val} (h : lstR S v = .ok o) : v = .ref o.1 ∧ S[o.1]? = some (.lst o.2) := by
  unfold lstR at h
  split at h
  · split at h
    · cases h; exact ⟨rfl, by assumption⟩
    · cases h
  · cases h
theorem insR_ok {v : Val} {o : Nat × Nat × List (Nat × Val)} (h : insR S v = .ok o) : v = .ref o.1 ∧ S[o.1]? = some (.ins o.2.1 o.2.2) := by
  unfold insR at h
  split at h
  · split at h
    · cases h; exact ⟨rfl, by assumption⟩
    · cases h
  · cases h
theorem nkvs_ok {v : Val} {kvs : List (Val × Val)} (h : nkvs S v = .ok kvs) : ∃ n, v = .ref n ∧ S[n]? = some (.dicN kvs) := by
  unfold nkvs at h
  split at h
  · split at h
    · cases h; exact ⟨_, rfl, by assumption⟩
    · cases h
  · cases h
/-- a thing of the store, by its value -/
theorem RSto.ref (h : RSto K w H r S) {n : Nat} {v : V} {F : List Addr} {o : Ob} (p : Rep K w H r (.ref n) v F) (e : S[n]? = some o) : ∃ l, v = .ref l ∧ r[n]? = some l ∧ RepOb K w H r o l := by
  cases p with
  | ref q => exact ⟨_, rfl, q, h.get q e⟩
end

section
variable {X : Cx} {pos : Pos} {pg : Pg} {cl : CallT} {e a b : Expr} {ca cb : E} {fa fb : Bool}
theorem box_imp {K : PySem.W.Frag} {w : World} {σ : L2.St} {H : Hp} {Q : VK} (h : TEv K w (evE pg cl (.box ca)) true σ H Q) : TEv K w (evE pg cl ca) (fresh ca) σ H Q := by
    obtain ⟨env, S, r, x, S', RE, RS, ev, k⟩ := h
    simp only [evE] at ev
    obtain ⟨p, e1, ev⟩ := bind_ok' ev
    obtain ⟨o, e2, ev⟩ := bind_ok' ev
    obtain ⟨g, ev⟩ := guard_ok ev
    cases ev
    refine ⟨env, S, r, p.1, p.2, RE, RS, e1, fun v1 H1 r1 F1 p1 o1 s1 t1 f1 => ?_⟩
    have f1 := f1 g
    have key : ∃ q, v1 = .ref q ∧ q ∈ F1 ∧ ∀ r', (∀ (n : Nat) (a : Addr), r1[n]? = some a → r'[n]? = some a) → RepOb K w H1 r' o q := by
      cases hp : p.1 <;> rw [hp] at e2 p1 <;> try (cases e2; done)
      · obtain ⟨gp, e2⟩ := guard_ok e2
        obtain rfl := ok_inj e2
        cases p1 with
        | lst h l => exact ⟨_, rfl, List.mem_cons_self, fun r' hr => ⟨_, h, (l.plain gp).keep hr ⟨fun a o _ z => z, fun a o z _ => z⟩⟩⟩
      · obtain rfl := ok_inj e2
        cases p1 with
        | dicK h l => exact ⟨_, rfl, List.mem_cons_self, fun r' hr => .inl ⟨rfl, _, h, l.keep hr ⟨fun a o _ z => z, fun a o z _ => z⟩⟩⟩
        | dicT h l => exact ⟨_, rfl, List.mem_cons_self, fun r' hr => .inr ⟨rfl, _, h, l.keep hr ⟨fun a o _ z => z, fun a o z _ => z⟩⟩⟩
    obtain ⟨q, rfl, hq, ob⟩ := key
    have sub : ∀ (n : Nat) (a : Addr), r1[n]? = some a → (r1 ++ [q])[n]? = some a := fun n a e => by rw [List.getElem?_append_left (List.getElem?_eq_some_iff.mp e).1]; exact e
    exact k _ H1 (r1 ++ [q]) [] (.ref (get_push r1 q s1.len)) (by simp) (s1.push (ob _ sub) (o1 q hq)) (t1.push (f1.2 q hq)) fun _ => ⟨List.nodup_nil, by simp⟩
theorem s_box (ha : PE X a (TEv X.K X.w (evE pg cl ca) (fresh ca))) : PE X a (TEv X.K X.w (evE pg cl (.box ca)) true) := pe_w ha fun σ H Q q => box_imp q
theorem repL_nil {K : PySem.W.Frag} {w : World} {H : Hp} {r : List Addr} {xs : List Val} {vs : List V} (l : RepL K w H r xs vs []) {i : Nat} {x : Val} (e : xs[i]? = some x) : ∃ v, vs[i]? = some v ∧ Rep K w H r x v [] := by
  obtain ⟨v, G, h1, h2, h3⟩ := l.get e
  have : G = [] := by
    cases G with
    | nil => rfl
    | cons a G => exact absurd (h3 a List.mem_cons_self) (by simp)
  subst this
  exact ⟨v, h1, h2⟩
theorem repL_cons {K : PySem.W.Frag} {w : World} {H : Hp} {r : List Addr} {x : Val} {v : V} {xs : List Val} {vs : List V} (h : Rep K w H r x v []) (l : RepL K w H r xs vs []) : RepL K w H r (x :: xs) (v :: vs) [] :=
  (RepL.cons h l : RepL K w H r _ _ ([] ++ []))
theorem repL_unc {K : PySem.W.Frag} {w : World} {H : Hp} {r : List Addr} {x : Val} {v : V} {xs : List Val} {vs : List V} (l : RepL K w H r (x :: xs) (v :: vs) []) : Rep K w H r x v [] ∧ RepL K w H r xs vs [] := by
  generalize hF : ([] : List Addr) = F at l
  cases l with
  | cons h t =>
    obtain ⟨rfl, rfl⟩ := List.append_eq_nil_iff.mp hF.symm
    exact ⟨h, t⟩
theorem repL_init {K : PySem.W.Frag} {w : World} {H : Hp} {r : List Addr} : ∀ {xs : List Val} {vs : List V}, RepL K w H r xs vs [] → RepL K w H r xs.dropLast vs.dropLast []
  | [], vs, l => by cases l; exact .nil
  | [x], vs, l => by
    have := l.length
    cases vs with
    | nil => simp at this
    | cons v vs =>
      cases vs with
      | nil => exact .nil
      | cons _ _ => simp at this
  | x :: y :: xs, vs, l => by
    have := l.length
    cases vs with
    | nil => simp at this
    | cons v vs =>
      cases vs with
      | nil => simp at this
      | cons u vs =>
        obtain ⟨h1, h2⟩ := repL_unc l
        exact repL_cons h1 (repL_init h2)
theorem s_pop {apos cpos : Pos} (ha : PE X a (TEv X.K X.w (evE pg cl ca) fa)) (hb : attributeBase a "pop" X.env (eval a X.env) = eval a X.env) (hline : (apos.endLine == cpos.line) = true) : PE X (.Call (.Attribute a "pop" apos) [] [] cpos) (TEv X.K X.w (evE pg cl (.mu .pop ca .nil)) false) :=
  pe_w (pe_bm0 PySem.F.plainAttrs_list PySem.F.slot_list_pop PySem.F.type_list_pop mt_pop ha hb hline) fun σ H Q ⟨env, S, r, x, S', RE, RS, ev, k⟩ => by
    simp only [evE, evS, bind_ok] at ev
    obtain ⟨p, e1, ev⟩ := bind_ok' ev
    obtain ⟨_, _, ev⟩ := bind_ok' ev
    obtain ⟨o, e2, ev⟩ := bind_ok' ev
    obtain ⟨u, e3, ev⟩ := bind_ok' ev
    cases ev
    refine ⟨env, S, r, p.1, p.2, RE, RS, e1, fun v1 H1 r1 F1 p1 o1 s1 t1 f1 => ?_⟩
    obtain ⟨e4, es⟩ := lstR_ok e2
    rw [e4] at p1
    obtain ⟨l, rfl, hl, vs, hv, lv⟩ := s1.ref p1 es
    simp only [muE] at e3
    obtain ⟨y, e5, e3⟩ := bind_ok' e3
    cases e3
    have e5 := of_ok e5
    rw [List.getLast?_eq_getElem?] at e5
    obtain ⟨yv, h1, h2⟩ := repL_nil lv e5
    have m := List.mem_of_getElem? hl
    refine ⟨.inl ⟨rfl, _, .of hv⟩, l, vs, yv, rfl, rfl, hv, by rw [← lv.length]; exact h1, ?_⟩
    have kp : Kp H1 (upd H1 l (.lst vs.dropLast)) [] := kp_updG hv (fun z => z) (by simp)
    exact k _ _ r1 [] (h2.keep ids kp) (by simp) (s1.put hl ⟨_, upd_same, (repL_init lv).keep ids kp⟩) (t1.trans (s1.stp m)) fun z => nomatch z

/-! ### instances -/
theorem repF_get {K : PySem.W.Frag} {w : World} {H : Hp} {r : List Addr} {f : Nat} {x : Val} (hf : f < 9) : ∀ {fs : List (Nat × Val)} {qs : List (Str × V)}, RepF K w H r fs qs → fs.lookup f = some x → ∃ v, qs.lookup (fldS f) = some v ∧ Rep K w H r x v []
  | [], [], _, e => by cases e
  | (g, y) :: fs, (n, v) :: qs, ⟨h1, h0, h2, h3⟩, e => by
    rw [List.lookup_cons] at e
    by_cases q : f = g
    · subst q
      simp at e
      subst e
      exact ⟨v, by rw [List.lookup_cons, h1]; simp, h2⟩
    · have hb : (f == g) = false := beq_eq_false_iff_ne.mpr q
      rw [hb] at e
      obtain ⟨u, e1, e2⟩ := repF_get hf h3 e
      refine ⟨u, ?_, e2⟩
      have hn : (fldS f == n) = false := beq_eq_false_iff_ne.mpr (by rw [h1]; exact fun z => fldS_ne f hf g (fun z => q z.symm) z.symm)
      rw [List.lookup_cons, hn]
      exact e1
  | [], _ :: _, h, _ => h.elim
  | _ :: _, [], h, _ => h.elim
theorem repF_put {K : PySem.W.Frag} {w : World} {H : Hp} {r : List Addr} {f : Nat} {x : Val} {v : V} (hf : f < 9) (p : Rep K w H r x v []) : ∀ {fs : List (Nat × Val)} {qs : List (Str × V)}, RepF K w H r fs qs → RepF K w H r (fput f x fs) (putF (fldS f) v qs)
  | [], [], _ => ⟨rfl, hf, p, trivial⟩
  | (g, y) :: fs, (n, u) :: qs, ⟨h1, h0, h2, h3⟩ => by
    unfold fput putF
    by_cases q : g = f
    · subst q
      rw [if_pos rfl, if_pos h1]
      exact ⟨h1, h0, p, h3⟩
    · rw [if_neg q, if_neg (by rw [h1]; exact fldS_ne f hf g q)]
      exact ⟨h1, h0, h2, repF_put hf p h3⟩
  | [], _ :: _, h => h.elim
  | _ :: _, [], h => h.elim
theorem repF_len {K : PySem.W.Frag} {w : World} {H : Hp} {r : List Addr} : ∀ {fs : List (Nat × Val)} {qs : List (Str × V)}, RepF K w H r fs qs → fs.length = qs.length
  | [], [], _ => rfl
  | _ :: _, _ :: _, ⟨_, _, _, h⟩ => by rw [List.length_cons, List.length_cons, repF_len h]
  | [], _ :: _, h => h.elim
  | _ :: _, [], h => h.elim
/-- a name that is no field's -/
theorem repF_none {K : PySem.W.Frag} {w : World} {H : Hp} {r : List Addr} {m : Str} (hm : ∀ f, f < 9 → fldS f ≠ m) : ∀ {fs : List (Nat × Val)} {qs : List (Str × V)}, RepF K w H r fs qs → qs.lookup m = Option.none
  | [], [], _ => rfl
  | (g, y) :: fs, (n, u) :: qs, ⟨h1, h0, h2, h3⟩ => by
    have hn : (m == n) = false := beq_eq_false_iff_ne.mpr (by rw [h1]; exact fun z => hm g h0 z.symm)
    rw [List.lookup_cons, hn]
    exact repF_none hm h3
  | [], _ :: _, h => h.elim
  | _ :: _, [], h => h.elim
/-- what the classes have: fields that no class of theirs has as a name -/
def FldOk (K : PySem.W.Frag) (pg : Pg) : Prop := ∀ c f, pg.hasF c f = true → f < 9 ∧ Cls K (clsA K c) ∧ NoAttr K (clsA K c) (fldS f)
theorem s_fld {f : Nat} (hf : FldOk X.K pg) (ha : PE X a (TEv X.K X.w (evE pg cl ca) fa)) (hb : attributeBase a (fldS f) X.env (eval a X.env) = eval a X.env) : PE X (.Attribute a (fldS f) pos) (TEv X.K X.w (evE pg cl (.fld ca f)) false) :=
  pe_w (pe_fld ha hb) fun σ H Q ⟨env, S, r, x, S', RE, RS, ev, k⟩ => by
    simp only [evE] at ev
    obtain ⟨p, e1, ev⟩ := bind_ok' ev
    obtain ⟨o, e2, ev⟩ := bind_ok' ev
    obtain ⟨g, ev⟩ := guard_ok ev
    obtain ⟨v, e3, ev⟩ := bind_ok' ev
    cases ev
    refine ⟨env, S, r, p.1, p.2, RE, RS, e1, fun v1 H1 r1 F1 p1 o1 s1 t1 f1 => ?_⟩
    obtain ⟨e4, es⟩ := insR_ok e2
    rw [e4] at p1
    obtain ⟨l, rfl, hl, dx, qs, hv, hd, rf⟩ := s1.ref p1 es
    obtain ⟨h9, c, n⟩ := hf _ _ g
    obtain ⟨u, e5, e6⟩ := repF_get h9 rf (of_ok e3)
    exact ⟨l, _, dx, qs, u, rfl, hv, c, n, e5, k.at_ e6 (by simp) s1 t1⟩
theorem mth_fld (m : Nat) : ∀ f, f < 9 → fldS f ≠ mthS m := by
  have h : ∀ f, f < 9 → ∀ k, k < 16 → fldS f ≠ mthL.getD k "" := by decide +kernel
  have h0 : ∀ f, f < 9 → fldS f ≠ ("" : Str) := by decide +kernel
  intro f hf
  unfold mthS
  by_cases q : m % 100 < 16
  · exact h f hf _ q
  · rw [List.getD_eq_getElem?_getD, List.getElem?_eq_none (by show 16 ≤ m % 100; omega)]
    exact h0 f hf
/-- a method as it is called -/
structure CalM (P : Program) (w : World) (K : PySem.W.Frag) (mg : Str → Option Value) (base : Heap) (k : Nat) (C : Addr) (m : Str) (sp : Sp) : Prop where
  ex : ∃ (f : Addr) (fd : FuncData) (ps : List Str) (sp' : Sp) (dvs : List V) (ds : List Value), FnOk P w K mg base (L2N.CX P w) k f fd ps sp' ∧ Cls K C ∧ Meth K C m f ∧ Binds K fd ps ds ∧ Vals dvs ds ∧ ∀ vs H Q E, sp vs H Q E → sp' (vs ++ dvs) H Q E
def MthOk (P : Program) (w : World) (K : PySem.W.Frag) (mg : Str → Option Value) (base : Heap) (pg : Pg) (cl : CallT) (j : Nat) : Prop := ∀ c m f, pg.meth c m = some f → CalM P w K mg base j (clsA K c) (mthS m) (spV K w (cl f))
theorem meth_text {o : Expr} {m : Str} {apos : Pos} {args : List Expr} {env : PySem.Env} (ho : plainR o = true) (hf : methodCallForm (args.length + ([] : List Keyword).length) (backTo pos (starEach args env)) (backToKw pos (keywordEach [] env)) = true) (hl : (apos.endLine == pos.line) = true) :
    eval (.Call (.Attribute o m apos) args [] pos) env = (do
      let ov ← eval o env
      standAt apos.atName
      let (f, first) ← holding [ov] (getMethod ov m (do return (← importBound o env).getD true))
      callWith pos f first (backTo pos (starEach args env)) (backToKw pos (keywordEach [] env))) := by
  have key : eval (.Call (.Attribute o m apos) args [] pos) env = (do
    let ov ← eval o env
    standAt apos.atName
    methodCall o m apos pos env ov (args.length + ([] : List Keyword).length) (backTo pos (starEach args env)) (backToKw pos (keywordEach [] env))) := by
    cases o <;> first | rfl | cases ho
  rw [key]
  unfold methodCall
  rw [hf]
  have e : methodCallPos true o env apos pos = pure pos := by
    unfold methodCallPos
    rw [hl]
    rfl
  rw [e]
  rfl
theorem form_ok {args : List Expr} {env : PySem.Env} (h : args.all noStar = true) (h2 : args.length < 30) : methodCallForm (args.length + ([] : List Keyword).length) (backTo pos (starEach args env)) (backToKw pos (keywordEach [] env)) = true := by
  unfold methodCallForm
  have h3 : (backTo pos (starEach args env)).all (!·.1) = true := by
    have := star_plain (pos := pos) (env := env) h
    rw [List.all_eq_true]
    intro x hx
    rw [List.any_eq_false] at this
    simpa using this x hx
  rw [h3]
  have h4 : keywordEach [] env = [] := rfl
  have h5 : backToKw pos (keywordEach [] env) = [] := by rw [h4]; rfl
  rw [h5]
  simp [h2]
/-- an instance is made -/
structure CalK (P : Program) (w : World) (K : PySem.W.Frag) (mg : Str → Option Value) (base : Heap) (k : Nat) (C : Addr) (sp : Sp) : Prop where
  ex : ∃ (f : Addr) (fd : FuncData) (ps : List Str) (sp' : Sp) (dvs : List V) (ds : List Value), FnOk P w K mg base (L2N.CX P w) k f fd ps sp' ∧ Mk K C f ∧ Binds K fd ps ds ∧ Vals dvs ds ∧ ∀ vs H Q E, sp vs H Q E → sp' (vs ++ dvs) H Q E
/-- classes that are made -/
def MkOk (P : Program) (w : World) (K : PySem.W.Frag) (mg : Str → Option Value) (base : Heap) (pg : Pg) (cl : CallT) (j : Nat) : Prop := ∀ c m f, pg.meth c m = some f → m % 100 = 0 → mg (clsS c) = some (.ref (clsA K c)) ∧ CalK P w K mg base j (clsA K c) (spV K w (cl f))
theorem s_meth {j m : Nat} {o : Expr} {co : E} {fo : Bool} {apos : Pos} {es : List Expr} {cs : Es} (hpr : plainR o = true) (hm : MthOk X.prog X.w X.K X.mg X.base pg cl j) (hr : Room j X.A) (ho : PE X o (TEv X.K X.w (evE pg cl co) fo)) (ha : PA X (a :: es) (TAv X.K X.w (evS pg cl cs) false))
    (he : starEach (a :: es) X.env = (false, eval a X.env) :: starEach es X.env) (hpl : (backTo pos (starEach es X.env)).any (·.1) = false) (hst : (a :: es).all noStar = true) (hl30 : (a :: es).length < 30) (hline : (apos.endLine == pos.line) = true) :
    PE X (.Call (.Attribute o (mthS m) apos) (a :: es) [] pos) (TEv X.K X.w (evE pg cl (.meth co m cs)) true) := ⟨fun pins s σ H Q I ⟨env, S, r, y, S', RE, RS, ev, k⟩ => by
  rw [evE] at ev
  obtain ⟨q, e1, ev⟩ := bind_ok' ev
  obtain ⟨o, e2, ev⟩ := bind_ok' ev
  obtain ⟨f, e3, ev⟩ := bind_ok' ev
  obtain ⟨u, e4, ev⟩ := bind_ok' ev
  obtain ⟨e5, es'⟩ := insR_ok e2
  obtain ⟨f', fd, ps, sp', dvs, ds, F, c, M, b, dv, im⟩ := (hm _ _ _ (of_ok e3)).ex
  refine (pe_meth (dvs := dvs) ho c M F hr b dv passN ha he hpl (meth_text hpr (form_ok hst hl30) hline)).run pins s σ H Q I ⟨env, S, r, q.1, q.2, RE, RS, e1, fun v1 H1 r1 F1 p1 o1 s1 t1 f1 => ?_⟩
  have p1' := p1
  rw [e5] at p1'
  obtain ⟨l, rfl, hl, dx, qs, hv, hd, rf⟩ := s1.ref p1' es'
  refine ⟨l, dx, qs, rfl, hv, repF_none (mth_fld m) rf, env, q.2, r1, u.1, u.2, RE.step t1, s1, e4, fun vs H2 r2 F2 p2 o2 s2 t2 f2 => ?_⟩
  refine im (.ref l :: vs) H2 Q E0 ?_
  refine ⟨u.2, r2, .ref o.1 :: u.1, F2, (RepL.cons (.ref (t2.sub _ _ hl)) p2 : RepL X.K X.w H2 r2 _ _ ([] ++ F2)), o2, s2, .inl ⟨y, S', ev, fun v3 H3 r3 F3 p3 o3 s3 t3 f3 => k v3 H3 r3 F3 p3 o3 s3 (t1.trans (t2.trans t3)) fun z => ⟨(f3 z).1, fun a m => (t1.trans t2).none ((f3 z).2 a m)⟩⟩⟩⟩
theorem s_meth0 {j m : Nat} {o : Expr} {co : E} {fo : Bool} {apos : Pos} (hpr : plainR o = true) (hm : MthOk X.prog X.w X.K X.mg X.base pg cl j) (hr : Room j X.A) (ho : PE X o (TEv X.K X.w (evE pg cl co) fo)) (hline : (apos.endLine == pos.line) = true) :
    PE X (.Call (.Attribute o (mthS m) apos) [] [] pos) (TEv X.K X.w (evE pg cl (.meth co m .nil)) true) := ⟨fun pins s σ H Q I ⟨env, S, r, y, S', RE, RS, ev, k⟩ => by
  rw [evE] at ev
  obtain ⟨q, e1, ev⟩ := bind_ok' ev
  obtain ⟨o, e2, ev⟩ := bind_ok' ev
  obtain ⟨f, e3, ev⟩ := bind_ok' ev
  simp only [evS, bind_ok] at ev
  obtain ⟨e5, es'⟩ := insR_ok e2
  obtain ⟨f', fd, ps, sp', dvs, ds, F, c, M, b, dv, im⟩ := (hm _ _ _ (of_ok e3)).ex
  refine (pe_meth0 (dvs := dvs) ho c M F hr b dv passN (meth_text hpr (form_ok rfl (by decide)) hline)).run pins s σ H Q I ⟨env, S, r, q.1, q.2, RE, RS, e1, fun v1 H1 r1 F1 p1 o1 s1 t1 f1 => ?_⟩
  have p1' := p1
  rw [e5] at p1'
  obtain ⟨l, rfl, hl, dx, qs, hv, hd, rf⟩ := s1.ref p1' es'
  refine ⟨l, dx, qs, rfl, hv, repF_none (mth_fld m) rf, ?_⟩
  refine im [.ref l] H1 Q E0 ?_
  exact ⟨q.2, r1, [.ref o.1], [] ++ [], .cons (.ref hl) .nil, by simp, s1, .inl ⟨y, S', ev, fun v3 H3 r3 F3 p3 o3 s3 t3 f3 => k v3 H3 r3 F3 p3 o3 s3 (t1.trans t3) fun z => ⟨(f3 z).1, fun a m => t1.none ((f3 z).2 a m)⟩⟩⟩⟩
theorem s_make {c m f j : Nat} {x : Str} {p : Pos} {es : List Expr} {cs : Es} (hf : pg.meth c m = some f) (hk : CalK X.prog X.w X.K X.mg X.base j (clsA X.K c) (spV X.K X.w (cl f))) (hr : Room (j + 1) X.A) (hg : Gl X x) (hm : X.mg x = some (.ref (clsA X.K c))) (ha : PA X (a :: es) (TAv X.K X.w (evS pg cl cs) false))
    (hdb : (x == ("__debug__" : Str)) = false) (he : starEach (a :: es) X.env = (false, eval a X.env) :: starEach es X.env) (hpl : (backTo pos (starEach es X.env)).any (·.1) = false) :
    PE X (.Call (.Name x p) (a :: es) [] pos) (TEv X.K X.w (evE pg cl (.make c m cs)) true) := by
  obtain ⟨f', fd, ps, sp', dvs, ds, F, M, b, dv, im⟩ := hk.ex
  refine pe_w (pe_make (dvs := dvs) M F hr hg hm b dv passN ha hdb he hpl) fun σ H Q ⟨env, S, r, y, S', RE, RS, ev, k⟩ => ?_
  simp only [evE, hf, of_some, bind_ok] at ev
  obtain ⟨q, e1, ev⟩ := bind_ok' ev
  obtain ⟨u, e2, ev⟩ := bind_ok' ev
  obtain ⟨g, ev⟩ := guard_ok ev
  cases ev
  refine ⟨env, S, r, q.1, q.2, RE, RS, e1, fun vs H1 r1 F1 p1 o1 s1 t1 f1 => fun z dx hz hdx ne => ?_⟩
  have sm : Same H1 (upd (upd H1 dx (.own z)) z (.ins (clsA X.K c) dx [])) := fun b' o' e' => by
    rw [upd_ne (ne_of_none e' hz), upd_ne (ne_of_none e' hdx)]; exact e'
  have ob : RepOb X.K X.w (upd (upd H1 dx (.own z)) z (.ins (clsA X.K c) dx [])) (r1 ++ [z]) (.ins c []) z := ⟨dx, [], upd_same, by rw [upd_ne ne, upd_same], trivial⟩
  have st : Stp H1 (upd (upd H1 dx (.own z)) z (.ins (clsA X.K c) dx [])) r1 (r1 ++ [z]) := (Stp.same sm).push hz
  refine im (.ref z :: vs) _ _ E0 ?_
  refine ⟨q.2 ++ [.ins c []], r1 ++ [z], .ref q.2.length :: q.1, F1, (RepL.cons (.ref (get_push r1 z s1.len)) (p1.step o1 st) : RepL X.K X.w _ _ _ _ ([] ++ F1)), st.off p1.there o1, (s1.same sm).push ob (s1.nmem hz), .inl ⟨u.1, u.2, e2, fun v3 H3 r3 F3 p3 o3 s3 t3 f3 => ⟨?_, ?_⟩⟩⟩
  · have : u.1 = .non := by
      cases h : u.1 <;> rw [h] at g <;> first | rfl | cases g
    rw [this] at p3
    exact vnon p3
  · exact k _ H3 r3 [] (.ref (t3.sub _ _ (get_push r1 z s1.len))) (by simp) s3 (t1.trans (st.trans t3)) fun _ => ⟨List.nodup_nil, by simp⟩

/-! ### deep comparisons -/
theorem RepL.drs {K : PySem.W.Frag} {w : World} {H : Hp} {r : List Addr} {S : Sto} (st : RSto K w H r S) {xs : List Val} {vs : List V} {F : List Addr} (l : RepL K w H r xs vs F) : ∃ G, RepL K w H r (xs.map (Ev.dr S)) vs G := l.dr st
theorem Rep.drE {K : PySem.W.Frag} {w : World} {H : Hp} {r : List Addr} {S : Sto} {x : Val} {v : V} {F : List Addr} (h : Rep K w H r x v F) (st : RSto K w H r S) : ∃ G, Rep K w H r (Ev.drE S x) v G := by
  obtain ⟨G, d⟩ := h.dr st
  unfold Ev.drE
  split
  · rename_i xs e
    rw [e] at d
    cases d with
    | lst q l =>
      obtain ⟨G2, l2⟩ := l.dr st
      exact ⟨_, .lst q l2⟩
  · exact ⟨G, d⟩
theorem RepL.drE {K : PySem.W.Frag} {w : World} {H : Hp} {r : List Addr} {S : Sto} (st : RSto K w H r S) : ∀ {xs : List Val} {vs : List V} {F : List Addr}, RepL K w H r xs vs F → ∃ G, RepL K w H r (xs.map (Ev.drE S)) vs G
  | _, _, _, .nil => ⟨_, .nil⟩
  | _, _, _, .cons h l => by
    obtain ⟨G, h'⟩ := h.drE st
    obtain ⟨G2, l'⟩ := RepL.drE st l
    exact ⟨_, .cons h' l'⟩
theorem Rep.drD {K : PySem.W.Frag} {w : World} {H : Hp} {r : List Addr} {S : Sto} {x : Val} {v : V} {F : List Addr} (h : Rep K w H r x v F) (st : RSto K w H r S) : ∃ G, Rep K w H r (Ev.drD S x) v G := by
  obtain ⟨G, d⟩ := h.dr st
  unfold Ev.drD
  split
  · rename_i xs e
    rw [e] at d
    cases d with
    | lst q l =>
      obtain ⟨G2, l2⟩ := l.drE st
      exact ⟨_, .lst q l2⟩
  · exact ⟨G, d⟩
theorem s_cmpD (hu : X.A.units + 200 < cLine) {op : COp} (ha : PE X a (TEv X.K X.w (evE pg cl ca) fa)) (hb : PE X b (TEv X.K X.w (evE pg cl cb) fb)) (hm : behindInMarks (cpOf op) b = false) : PE X (.Compare a [cpOf op] [b] pos) (TEv X.K X.w (evE pg cl (.cmpD op ca cb)) true) ∧ PT X (.Compare a [cpOf op] [b] pos) (TTv X.K X.w (evE pg cl (.cmpD op ca cb))) := by
  constructor
  · refine pe_w (pe_cmpR (op_cmpV hu op) ha hb hm) fun σ H Q ⟨env, S, r, x, S', RE, RS, ev, k⟩ => ?_
    simp only [evE] at ev
    obtain ⟨p, e1, ev⟩ := bind_ok' ev
    obtain ⟨q, e2, ev⟩ := bind_ok' ev
    obtain ⟨v, e3, ev⟩ := bind_ok' ev
    cases ev
    refine ⟨env, S, r, p.1, p.2, RE, RS, e1, fun v1 H1 r1 F1 p1 o1 s1 t1 _ => ⟨env, p.2, r1, q.1, q.2, RE.step t1, s1, e2, fun v2 H2 r2 F2 p2 o2 s2 t2 _ => ?_⟩⟩
    obtain ⟨G1, d1⟩ := (p1.step o1 t2).drD s2
    obtain ⟨G2, d2⟩ := p2.drD s2
    exact ⟨r2, _, _, _, G1, G2, d1, d2, e3, fun v3 H3 n => k.new n s2 (t1.trans t2)⟩
  · refine pt_w (pt_cmpR (op_cmpV hu op) ha hb hm) fun σ H Q ⟨env, S, r, x, S', RE, RS, ev, k⟩ => ?_
    simp only [evE] at ev
    obtain ⟨p, e1, ev⟩ := bind_ok' ev
    obtain ⟨q, e2, ev⟩ := bind_ok' ev
    obtain ⟨v, e3, ev⟩ := bind_ok' ev
    cases ev
    refine ⟨env, S, r, p.1, p.2, RE, RS, e1, fun v1 H1 r1 F1 p1 o1 s1 t1 _ => ⟨env, p.2, r1, q.1, q.2, RE.step t1, s1, e2, fun v2 H2 r2 F2 p2 o2 s2 t2 _ => ?_⟩⟩
    obtain ⟨G1, d1⟩ := (p1.step o1 t2).drD s2
    obtain ⟨G2, d2⟩ := p2.drD s2
    refine ⟨r2, _, _, _, G1, G2, d1, d2, e3, fun v3 H3 n => ?_⟩
    obtain ⟨e, sm⟩ := n.bl_inv
    exact ⟨_, e, k _ r2 (s2.same sm) ((t1.trans t2).trans (.same sm))⟩
end

/-! ### comprehensions over a list of the store -/
section
variable {K : PySem.W.Frag} {w : World} {pg : Pg} {cl : CallT}
theorem stay_ok {α : Type} {S : Sto} {o : Nat × List Val} {q : Res α} {a : α} (h : stay S o q = .ok a) : S[o.1]? = some (.lst o.2) ∧ q = .ok a := by
  unfold stay at h
  split at h
  · exact ⟨by assumption, h⟩
  · cases h
/-- what is walked: a list of the store -/
def TIr (K : PySem.W.Frag) (w : World) (f : Env → Sto → Res (Val × Sto)) : TI := fun σ H R =>
  ∃ env S r n xs S', REnv K w H r env σ ∧ RSto K w H r S ∧ f env S = .ok (.ref n, S') ∧ S'[n]? = some (.lst xs) ∧ ∀ l H' r', r'[n]? = some l → RSto K w H' r' S' → Stp H H' r r' → xs.length ≤ sizeLine → R (Itl K l) H'
theorem i_ref {X : Cx} {tg a : Expr} {ca : E} {fa : Bool} (ha : PE X a (TEv X.K X.w (evE pg cl ca) fa)) : PI X tg a (TIr X.K X.w (evE pg cl ca)) :=
  pi_w (pi_list (pe_len ha)) fun σ H R ⟨env, S, r, n, xs, S', RE, RS, ev, es, k⟩ => by
    refine ⟨env, S, r, _, _, RE, RS, ev, fun v1 H1 r1 F1 p1 o1 s1 t1 _ ln => ?_⟩
    obtain ⟨l, rfl, hl, vs, hv, lv⟩ := s1.ref p1 es
    exact ⟨l, rfl, ⟨vs, .of hv⟩, k l H1 r1 hl s1 t1 (by rw [lv.length]; exact ln _ _ rfl (.inl (.of hv)))⟩
/-- a turn over a list of the store -/
theorem ref_go {H : Hp} {r : List Addr} {S : Sto} {l : Addr} {o : Nat × List Val} (s : RSto K w H r S) (hl : r[o.1]? = some l) (e : S[o.1]? = some (.lst o.2)) {i : Nat} {x : Val} (hx : o.2[i]? = some x) : (Itl K l).go i H ∧ ∀ v H', (Itl K l).yld i H v H' → H' = H ∧ Rep K w H r x v [] := by
  obtain ⟨vs, hv, lv⟩ := s.get hl e
  obtain ⟨v, h1, h2⟩ := repL_nil lv hx
  refine ⟨⟨vs, v, .of hv, h1⟩, fun v' H' ⟨e1, y⟩ => ?_⟩
  have := y vs (.of hv)
  rw [h1] at this
  cases this
  exact ⟨e1, h2⟩
theorem ref_stop {H : Hp} {r : List Addr} {S : Sto} {l : Addr} {o : Nat × List Val} (s : RSto K w H r S) (hl : r[o.1]? = some l) (e : S[o.1]? = some (.lst o.2)) : (Itl K l).stop o.2.length H := by
  obtain ⟨vs, hv, lv⟩ := s.get hl e
  exact ⟨vs, .of hv, by rw [lv.length]; exact Nat.le_refl _⟩
noncomputable def cmpFR (pg : Pg) (cl : CallT) (cx : E) (j : Nat) (cs : Es) (env : Env) (o : Nat × List Val) : Val → Sto → Res (Option Val × Sto) := fun v S => stay S o (cmpF pg cl cx j cs env v S)
theorem lc_readR {cx a : E} {j : Nat} {cs : Es} {σ : L2.St} {H : Hp} {Q : VK} (hj : j < σ.length) (h : TEv K w (evE pg cl (.compR cx j a cs)) true σ H Q) :
    tLc (TIr K w (evE pg cl a)) (gName j) (TCv K w (evC pg cl cs)) (TEv K w (evE pg cl cx) (fresh cx)) [j] σ H Q := by
  obtain ⟨env, S, r, x, S', RE, RS, ev, k⟩ := h
  simp only [evE] at ev
  obtain ⟨⟨av, S1⟩, e1, ev⟩ := bind_ok' ev
  obtain ⟨o, e0, ev⟩ := bind_ok' ev
  obtain ⟨⟨xs, S2⟩, e2, ev⟩ := bind_ok' ev
  obtain ⟨ef, ev⟩ := stay_ok ev
  cases ev
  obtain ⟨ea, es0⟩ := lstR_ok e0
  have ea : av = .ref o.1 := ea
  subst ea
  have ef : S2[o.1]? = some (.lst o.2) := ef
  refine ⟨env, S, r, o.1, o.2, S1, RE, RS, e1, es0, fun l H1 r1 hl s1 t1 ln => fun D hD => ?_⟩
  refine ⟨cmpW K w (cmpFR pg cl cx j cs env o) o.2 xs S2 H H1 r1 D, ?_, ?_⟩
  · refine ⟨o.2.length - 0, rfl, Nat.zero_le _, S1, r1, [], [], [], xs, s1.same (same_upd hD), .upd hD, s1.nmem hD, upd_same, .nil, by simp, List.nodup_nil, Nat.le_refl _, ?_, rfl⟩
    rw [List.drop_zero]
    exact e2
  · intro i m H2 ⟨hm, hi, Si, r2, avs, acc, Fa, rest, s2, t2, nD, hD2, la, oa, na, lna, hR, hx⟩
    have hl2 := t2.sub _ _ hl
    rcases Nat.lt_or_eq_of_le hi with hi | rfl
    · rw [List.drop_eq_getElem_cons hi] at hR
      simp only [mapR] at hR
      obtain ⟨⟨ov, S3⟩, e3, hR⟩ := bind_ok' hR
      unfold cmpFR at e3
      obtain ⟨eg, e3⟩ := stay_ok e3
      obtain ⟨go, yl⟩ := ref_go s2 hl2 eg (List.getElem?_eq_getElem hi)
      refine .inr ⟨go, cmpW K w (cmpFR pg cl cx j cs env o) o.2 xs S2 H H1 r1 D (i + 1) (o.2.length - (i + 1)), fun H' q => ⟨_, by omega, q⟩, fun v H3 hy => ?_⟩
      obtain ⟨rfl, rp⟩ := yl v H3 hy
      unfold cmpF at e3
      obtain ⟨⟨b, S4⟩, e4, e3⟩ := bind_ok' e3
      obtain ⟨⟨rest', S5⟩, e5, hR⟩ := bind_ok' hR
      have RE3 : REnv K w H3 r2 (env.set j (some o.2[i])) ((wipe σ [j]).set j (some v)) := (RE.step (t1.trans t2)).wput hj rp (by simp)
      refine ⟨wipe_set σ j _, env.set j (some o.2[i]), Si, r2, b, S4, RE3, s2, e4, fun H4 r4 s4 t4 => ?_⟩
      have nD4 : D ∉ r4 := t4.off (F := [D]) (fun a m => by rw [List.mem_singleton.mp m, hD2]; exact fun z => nomatch z) (fun a m => by rw [List.mem_singleton.mp m]; exact nD) D (List.mem_singleton.mpr rfl)
      have hD4 : H4 D = some (.lst avs) := t4.keep _ _ hD2 nD
      have la4 : RepL K w H4 r4 acc avs Fa := la.step (fun a m => (oa a m).1) t4
      have oa4 : ∀ a, a ∈ Fa → a ∉ r4 := t4.off la.there fun a m => (oa a m).1
      cases b with
      | false =>
        rw [if_neg (by exact fun z => nomatch z)] at e3
        show cmpW K w (cmpFR pg cl cx j cs env o) o.2 xs S2 H H1 r1 D (i + 1) (o.2.length - (i + 1)) H4
        cases e3
        cases hR
        refine ⟨rfl, hi, _, r4, avs, acc, Fa, _, s4, t2.trans t4, nD4, hD4, la4, fun a m => ⟨oa4 a m, (oa a m).2⟩, na, by omega, e5, hx⟩
      | true =>
        rw [if_pos rfl] at e3
        obtain ⟨⟨y, S6⟩, e6, e3⟩ := bind_ok' e3
        obtain ⟨g, e3⟩ := guard_ok e3
        cases e3
        cases hR
        refine ⟨env.set j (some o.2[i]), S4, r4, y, _, RE3.step t4, s4, e6, fun yv H5 r5 F5 p5 o5 s5 t5 f5 => ?_⟩
        have nD5 : D ∉ r5 := t5.off (F := [D]) (fun a m => by rw [List.mem_singleton.mp m, hD4]; exact fun z => nomatch z) (fun a m => by rw [List.mem_singleton.mp m]; exact nD4) D (List.mem_singleton.mpr rfl)
        have hD5 : H5 D = some (.lst avs) := t5.keep _ _ hD4 nD4
        have la5 := la4.step oa4 t5
        have oa5 := t5.off la4.there oa4
        obtain ⟨n5, g5⟩ := keep_new g p5 f5
        have nDF : D ∉ F5 := fun m => by have := g5 D m; rw [hD4] at this; cases this
        have nDa : D ∉ Fa := fun m => (oa D m).2.1 rfl
        have h0 : ∀ a, a ∈ F5 → H a = Option.none := fun a m => (t1.trans (t2.trans t4)).none (g5 a m)
        refine ⟨avs, hD5, ?_, rfl, hi, _, r5, avs ++ [yv], acc ++ [y], Fa ++ F5, _, s5.upd hD5 nD5, ?_, nD5, upd_same, (la5.snoc p5).keep ids (kp_upd hD5 (by simp [nDa, nDF])), fun a m => ?_, ?_, ?_, e5, ?_⟩
        · rw [← la.length]
          exact Nat.lt_of_le_of_lt lna (Nat.lt_of_lt_of_le hi ln)
        · exact (t2.trans (t4.trans t5)).over hD
        · rcases List.mem_append.mp m with m | m
          · exact ⟨oa5 a m, (oa a m).2⟩
          · exact ⟨o5 a m, fun e => nDF (e ▸ m), h0 a m⟩
        · exact List.nodup_append.mpr ⟨na, n5, fun a m b m' e => la4.there a m (by rw [e]; exact g5 b m')⟩
        · rw [List.length_append]
          show acc.length + 1 ≤ i + 1
          omega
        · rw [List.append_assoc]
          exact hx
    · rw [List.drop_length] at hR
      simp only [mapR] at hR
      cases hR
      rw [List.append_nil] at hx
      subst hx
      refine .inl ⟨ref_stop s2 hl2 ef, ?_⟩
      refine k _ H2 r2 (D :: Fa) (.lst hD2 la) (fun a m => ?_) s2 (t1.trans t2) fun _ => ⟨List.nodup_cons.mpr ⟨fun m => (oa D m).2.1 rfl, na⟩, fun a m => ?_⟩
      · rcases List.mem_cons.mp m with rfl | m
        · exact nD
        · exact (oa a m).1
      · rcases List.mem_cons.mp m with rfl | m
        · exact t1.none hD
        · exact (oa a m).2.2
end
section
variable {X : Cx} {pos : Pos} {pg : Pg} {cl : CallT}
theorem s_compR {x : Str} {j : Nat} {p1 : Pos} {iter elt : Expr} {ifs : List Expr} {scope : Scope} {ca cx : E} {cs : Es} {fa : Bool} (hc : X.calm = true) (hN : X.N.Nodup) (ha : PE X iter (TEv X.K X.w (evE pg cl ca) fa)) (ok : blkC X.N X.env.scope scope x j = true) (hl : locC scope X.env.scope x = true)
    (ht : ∀ (s : Shared) (H : Hp) (C : Addr) (cl' : List (Str × Addr)) (fp : List Addr), PTs (blkX X scope s H C cl' fp) ifs (TCv X.K X.w (evC pg cl cs)))
    (he : ∀ (s : Shared) (H : Hp) (C : Addr) (cl' : List (Str × Addr)) (fp : List Addr), PE (blkX X scope s H C cl' fp) elt (TEv X.K X.w (evE pg cl cx) (fresh cx)))
    (hs : noSet iter = true) : PE X (.ListComp elt [⟨.Name x p1, iter, ifs, 0⟩] scope pos) (TEv X.K X.w (evE pg cl (.compR cx j ca cs)) true) ∧
      (∀ (i : Nat) (y : Str) (py spos : Pos), X.N[i]? = some y → X.env.scope.names.lookup y = some .local → swapsWith (.ListComp elt [⟨.Name x p1, iter, ifs, 0⟩] scope pos) (some (.Name y py)) spos.line X.env = pure true →
        PS X (.Assign [.Name y py] (.ListComp elt [⟨.Name x p1, iter, ifs, 0⟩] scope pos) spos) (tAsg (TEv X.K X.w (evE pg cl (.compR cx j ca cs)) true) (gName i))) := by
  obtain ⟨bo, hx⟩ := blk_of ok
  have hg : ∀ (s : Shared) (H : Hp) (C : Addr) (cl' : List (Str × Addr)) (fp : List Addr), PG (X.blk s H scope (compEnvC scope cl' C X.env) fp) (.Name x p1) (gName j) := fun s H C cl' fp => by
    unfold locC at hl
    simp only [Bool.or_eq_true, Bool.and_eq_true, decide_eq_true_eq] at hl
    rcases hl with hl | ⟨hl, hl2⟩
    · exact pg_name hN hx (.inl hl) (.inr hl)
    · exact pg_name hN hx (.inr hl) (.inl (by show (scope.names.lookup x == some NameKind.cell) = true; rw [hl2]; rfl))
  have hj : ∀ {pins σ H s}, L2.Inv X pins σ H s → j < σ.length := fun I => by rw [I.len]; exact (List.getElem?_eq_some_iff.mp hx).1
  have hi := i_ref (tg := .Name x p1) ha
  refine ⟨⟨fun pins s σ H Q I q => (pe_lc hc hN hi bo hg ht he (fold_it hs)).run pins s σ H Q I (lc_readR (hj I) q)⟩, fun i y py spos hy hyl hsw => ⟨fun pins s σ H D I q => (ps_setLc hc hN hy hyl hsw hi bo hg ht he (fold_it hs)).run pins s σ H D I (lc_readR (hj I) q)⟩⟩
end
end Ev

/-! SndY: dicts whose keys are tuples within tuples, in the store. -/
namespace Ev
open PySem PySem.Spec PyProof.Rows L2

section
variable {X : Cx} {pins : List (Addr × Obj)} {σ : L2.St} {H : Hp} {s : Shared} {r : List Addr}
mutual
theorem nk_is (I : Inv X pins σ H s) : ∀ (x : Val) (v : V) (u : Value) (F : List Addr), Rep X.K X.w H r x v F → isNK x = true → RelV v u → NestedIs s.heap (toNK x) u
  | .int i, v, u, F, p, _, q => by
    cases p
    obtain ⟨t, rfl⟩ := (show ∃ t, u = Value.int i t from q)
    exact .int i t
  | .str z, v, u, F, p, _, q => by
    cases p
    obtain ⟨t, rfl⟩ := (show ∃ t, u = Value.str z t from q)
    exact .text z t
  | .tup xs, v, u, F, p, h, q => by
    cases p with
    | tup e l =>
      rename_i a vs
      obtain rfl : u = Value.ref a := q
      obtain ⟨_, its, rv, o, e1, c, n, d⟩ := I.hok a _ e
      exact .tup e1 c d (by simpa using nks_is I xs vs its F l (by simpa [isNK] using h) rv)
  | .non, _, _, _, _, h, _ => by simp [isNK] at h
  | .bl _, _, _, _, _, h, _ => by simp [isNK] at h
  | .lst _, _, _, _, _, h, _ => by simp [isNK] at h
  | .dic _ _, _, _, _, _, h, _ => by simp [isNK] at h
  | .set _, _, _, _, _, h, _ => by simp [isNK] at h
  | .ref _, _, _, _, _, h, _ => by simp [isNK] at h
  | .exc _, _, _, _, _, h, _ => by simp [isNK] at h
  | .scr _, _, _, _, _, h, _ => by simp [isNK] at h
theorem nks_is (I : Inv X pins σ H s) : ∀ (xs : List Val) (vs : List V) (us : List Value) (F : List Addr), RepL X.K X.w H r xs vs F → isNKs xs = true → Vals vs us → NestedAll s.heap (toNKs xs) us
  | [], _, _, _, l, _, rv => by
    cases l
    cases rv
    exact .nil
  | x :: xs, _, _, _, l, h, rv => by
    rw [isNKs, Bool.and_eq_true] at h
    cases l with
    | cons p l =>
      cases rv with
      | cons a b => exact .cons (nk_is I x _ _ _ p h.1 a) (nks_is I xs _ _ _ l h.2 b)
end
theorem nkey_is (I : Inv X pins σ H s) {x : Val} {b : Addr} {F : List Addr} (p : Rep X.K X.w H r x (.ref b) F) (h : nkey x = true) : (nestedKind X.prog X.w).is s.heap (toNK x) b :=
  ⟨nk_is I x _ _ F p (nkey_nk h) rfl, nkey_depth h⟩
theorem nkey_ref {K : PySem.W.Frag} {w : World} {x : Val} {v : V} {F : List Addr} (p : Rep K w H r x v F) (h : nkey x = true) : ∃ b, v = .ref b := by
  cases x <;> simp [nkey] at h
  cases p
  exact ⟨_, rfl⟩
abbrev NP (xs : List (NestedKey × Addr × V)) (us : List (NestedKey × Addr × Value)) : Prop := Paired (fun p q => p.1 = q.1 ∧ p.2.1 = q.2.1 ∧ RelV p.2.2 q.2.2) xs us
theorem repN_is (I : Inv X pins σ H s) : ∀ {kvs : List (Val × Val)} {xs : List (NestedKey × Addr × V)} {us : List (NestedKey × Addr × Value)}, RepN X.K X.w H r kvs xs → NP xs us → ∀ x, x ∈ us → (nestedKind X.prog X.w).is s.heap x.1 x.2.1
  | [], [], _, _, p, x, m => by cases p; cases m
  | (k, y) :: kvs, (n, b, v) :: xs, _, ⟨h1, h2, h3, h4, h5⟩, p, x, m => by
    cases p with
    | cons q p =>
      rename_i u us
      rcases List.mem_cons.mp m with rfl | m
      · have := nkey_is I h3 h2
        rw [← h1] at this
        rw [← q.1, ← q.2.1]
        exact this
      · exact repN_is I h5 p x m
  | [], _ :: _, _, h, _, _, _ => h.elim
  | _ :: _, [], _, h, _, _, _ => h.elim
theorem repN_get {K : PySem.W.Frag} {w : World} {k : Val} (hk : nkey k = true) : ∀ {kvs : List (Val × Val)} {xs : List (NestedKey × Addr × V)} {us : List (NestedKey × Addr × Value)}, RepN K w H r kvs xs → NP xs us →
    (dget kvs k = Option.none ∧ atKey us (toNK k) = Option.none) ∨ ∃ y v b u, dget kvs k = some y ∧ atKey us (toNK k) = some (b, u) ∧ RelV v u ∧ Rep K w H r y v []
  | [], [], _, _, p => by cases p; exact .inl ⟨rfl, rfl⟩
  | (k', y) :: kvs, (n, b, v) :: xs, _, ⟨h1, h2, h3, h4, h5⟩, p => by
    cases p with
    | cons q p =>
      rename_i u us
      obtain ⟨n', b', u'⟩ := u
      obtain ⟨q1, q2, q3⟩ := q
      have q1 : n = n' := q1
      subst q1
      have ih := repN_get hk h5 p
      unfold dget atKey at ih ⊢
      rw [List.find?_cons, List.find?_cons]
      have e : veq k' k = decide (n = toNK k) := by rw [nkey_eq h2 hk, h1]
      show _ ∨ _
      simp only [e]
      by_cases z : n = toNK k
      · simp only [z, decide_true]
        exact .inr ⟨y, v, b', u', rfl, rfl, q3, h4⟩
      · simp only [z, decide_false]
        exact ih
  | [], _ :: _, _, h, _ => h.elim
  | _ :: _, [], _, h, _ => h.elim
theorem repN_len {K : PySem.W.Frag} {w : World} : ∀ {kvs : List (Val × Val)} {xs : List (NestedKey × Addr × V)}, RepN K w H r kvs xs → kvs.length = xs.length
  | [], [], _ => rfl
  | _ :: _, _ :: _, ⟨_, _, _, _, h⟩ => by rw [List.length_cons, List.length_cons, repN_len h]
  | [], _ :: _, h => h.elim
  | _ :: _, [], h => h.elim
/-- a value put at a key -/
def putN (k : NestedKey) (b : Addr) (v : V) (xs : List (NestedKey × Addr × V)) : List (NestedKey × Addr × V) := if (xs.any fun x => decide (x.1 = k)) = true then xs.map (fun x => if x.1 = k then (x.1, x.2.1, v) else x) else xs ++ [(k, b, v)]
theorem np_any : ∀ {xs : List (NestedKey × Addr × V)} {us : List (NestedKey × Addr × Value)} (k : NestedKey), NP xs us → (atKey us k).isSome = xs.any fun x => decide (x.1 = k)
  | _, _, k, .nil => rfl
  | _, _, k, .cons (a := x) (b := u) q p => by
    have ih := np_any k p
    unfold atKey at ih ⊢
    rw [List.find?_cons, List.any_cons, ← ih, q.1]
    cases decide (u.1 = k) <;> simp
theorem np_map (k : NestedKey) {v : V} {u : Value} (rv : RelV v u) : ∀ {xs : List (NestedKey × Addr × V)} {us : List (NestedKey × Addr × Value)}, NP xs us → NP (xs.map (fun x => if x.1 = k then (x.1, x.2.1, v) else x)) (us.map (putAt k u))
  | _, _, .nil => .nil
  | _, _, .cons q p => by
    refine .cons ?_ (np_map k rv p)
    unfold putAt
    dsimp only
    rw [q.1]
    split
    · exact ⟨rfl, q.2.1, rv⟩
    · exact ⟨q.1, q.2⟩
theorem np_put {xs : List (NestedKey × Addr × V)} {us : List (NestedKey × Addr × Value)} (p : NP xs us) (k : NestedKey) (b : Addr) {v : V} {u : Value} (rv : RelV v u) : NP (putN k b v xs) (storedH us k b u) := by
  unfold putN storedH
  rw [np_any k p]
  split
  · exact np_map k rv p
  · exact Paired.snoc p ⟨rfl, rfl, rv⟩
theorem repN_any {K : PySem.W.Frag} {w : World} {k : Val} (hk : nkey k = true) : ∀ {kvs : List (Val × Val)} {xs : List (NestedKey × Addr × V)}, RepN K w H r kvs xs → (kvs.any fun p => veq p.1 k) = xs.any fun x => decide (x.1 = toNK k)
  | [], [], _ => rfl
  | (k', y) :: kvs, (n, b, v) :: xs, ⟨h1, h2, h3, h4, h5⟩ => by
    rw [List.any_cons, List.any_cons, repN_any hk h5]
    show (veq k' k || _) = (decide (n = toNK k) || _)
    rw [nkey_eq h2 hk, h1]
  | [], _ :: _, h => h.elim
  | _ :: _, [], h => h.elim
theorem repN_map {K : PySem.W.Frag} {w : World} {k y : Val} {v : V} (hk : nkey k = true) (py : Rep K w H r y v []) : ∀ {kvs : List (Val × Val)} {xs : List (NestedKey × Addr × V)}, RepN K w H r kvs xs → RepN K w H r (kvs.map (fun p => if veq p.1 k = true then (p.1, y) else p)) (xs.map (fun x => if x.1 = toNK k then (x.1, x.2.1, v) else x))
  | [], [], _ => trivial
  | (k', y') :: kvs, (n, b', v') :: xs, ⟨h1, h2, h3, h4, h5⟩ => by
    have ih := repN_map hk py h5
    have e : (veq k' k = true) = (n = toNK k) := by rw [nkey_eq h2 hk, ← h1]; simp
    rw [List.map_cons, List.map_cons]
    show RepN K w H r ((if veq k' k = true then (k', y) else (k', y')) :: _) ((if n = toNK k then (n, b', v) else (n, b', v')) :: _)
    by_cases z : n = toNK k
    · rw [if_pos (e ▸ z), if_pos z]
      exact ⟨h1, h2, h3, py, ih⟩
    · rw [if_neg (e ▸ z), if_neg z]
      exact ⟨h1, h2, h3, h4, ih⟩
  | [], _ :: _, h => h.elim
  | _ :: _, [], h => h.elim
theorem repN_snoc {K : PySem.W.Frag} {w : World} {k y : Val} {b : Addr} {v : V} (hk : nkey k = true) (pk : Rep K w H r k (.ref b) []) (py : Rep K w H r y v []) : ∀ {kvs : List (Val × Val)} {xs : List (NestedKey × Addr × V)}, RepN K w H r kvs xs → RepN K w H r (kvs ++ [(k, y)]) (xs ++ [(toNK k, b, v)])
  | [], [], _ => ⟨rfl, hk, pk, py, trivial⟩
  | (_, _) :: _, (_, _, _) :: _, ⟨h1, h2, h3, h4, h5⟩ => ⟨h1, h2, h3, h4, repN_snoc hk pk py h5⟩
  | [], _ :: _, h => h.elim
  | _ :: _, [], h => h.elim
theorem repN_put {K : PySem.W.Frag} {w : World} {kvs : List (Val × Val)} {xs : List (NestedKey × Addr × V)} (h : RepN K w H r kvs xs) {k y : Val} {b : Addr} {v : V} (hk : nkey k = true) (pk : Rep K w H r k (.ref b) []) (py : Rep K w H r y v []) : RepN K w H r (dput kvs k y) (putN (toNK k) b v xs) := by
  unfold dput putN
  rw [repN_any hk h]
  split
  · exact repN_map hk py h
  · exact repN_snoc hk pk py h
theorem putN_len (k : NestedKey) (b : Addr) (v : V) (xs : List (NestedKey × Addr × V)) : (putN k b v xs).length ≤ xs.length + 1 := by
  unfold putN
  split
  · rw [List.length_map]; omega
  · rw [List.length_append]; exact Nat.le_refl _
/-- the dict as the library tells it -/
theorem nd_of (I : Inv X pins σ H s) {a : Addr} {kvs : List (Val × Val)} {xs : List (NestedKey × Addr × V)} (e : H a = some (NdO X.w a xs)) (l : RepN X.K X.w H r kvs xs) :
    (a == sysModules) = false ∧ xs.length ≤ sizeLine ∧ ∃ us, NP xs us ∧ s.heap.DictOfH (nestedKind X.prog X.w) a us := by
  obtain ⟨⟨h1, h2, us, p, o, es, ep, e1, h3, h4, h5, h6⟩, _, _⟩ := I.hok a _ e
  exact ⟨h1, h2, us, p, o, es, ep, e1, h3, h4, h5, repN_is I l p, h6⟩
end

section
variable {X : Cx} {pos : Pos} {pg : Pg} {cl : CallT} {e a b : Expr} {ca cb : E} {fa fb : Bool}
theorem s_newN : PE X (.Dict [] [] pos) (TEv X.K X.w (evE pg cl .newN) true) := ⟨fun pins s σ H Q I ⟨env, S, r, x, S', RE, RS, ev, k⟩ => by
  simp only [evE] at ev
  cases ev
  have hn := I.hok.fresh (Nat.le_refl s.heap.objs.size)
  have nd : NdR X.w (s.heap.push { cls := .type "dict", data := .dict #[] }) s.heap.objs.size [] :=
    ⟨beq_eq_false_iff_ne.mpr (Ne.symm (Nat.ne_of_lt I.big)), Nat.zero_le _, [], .nil, _, #[], 0, Heap.get?_push_size _ rfl, ⟨rfl, rfl, rfl⟩, rfl, rfl, List.nodup_nil⟩
  refine wpAny_Dict_empty ⟨.ref s.heap.objs.size, _, I.laid (a := s.heap.objs.size) (o := NdO X.w s.heap.objs.size []) (t' := s.toks) (fun _ _ q => Heap.get?_push_of_some _ q) (Nat.le_refl _) (ndO_ok nd), rfl, ?_⟩
  have st : Stp H (upd H s.heap.objs.size (NdO X.w s.heap.objs.size [])) r r := .upd hn
  exact k _ _ (r ++ [s.heap.objs.size]) [] (.ref (get_push r _ RS.len)) (by simp) ((RS.same (same_upd hn)).push ⟨[], upd_same, trivial⟩ (RS.nmem hn)) (st.push hn) fun _ => ⟨List.nodup_nil, by simp⟩⟩
theorem s_nget (hu : X.A.units + 200 < cLine) (ha : PE X a (TEv X.K X.w (evE pg cl ca) fa)) (hb : PE X b (TEv X.K X.w (evE pg cl cb) fb)) (hs : NoSl b) : PE X (.Subscript a b pos) (TEv X.K X.w (evE pg cl (.nget ca cb)) false) := ⟨fun pins s σ H Q I ⟨env, S, r, x, S', RE, RS, ev, k⟩ => by
  simp only [evE] at ev
  obtain ⟨p, e1, ev⟩ := bind_ok' ev
  obtain ⟨q, e2, ev⟩ := bind_ok' ev
  obtain ⟨kvs, e3, ev⟩ := bind_ok' ev
  obtain ⟨g, ev⟩ := guard_ok ev
  obtain ⟨v, e4, ev⟩ := bind_ok' ev
  cases ev
  obtain ⟨n, en, es⟩ := nkvs_ok e3
  refine subD_of PySem.F.slot_dict_getitem.lookup hs (thn (ha.run pins s σ H (fun v1 H1 => ∃ r1 F1, Rep X.K X.w H1 r1 p.1 v1 F1 ∧ (∀ a, a ∈ F1 → a ∉ r1) ∧ RSto X.K X.w H1 r1 p.2 ∧ Stp H H1 r r1) I ⟨env, S, r, p.1, p.2, RE, RS, e1, fun v1 H1 r1 F1 p1 o1 s1 t1 _ => ⟨r1, F1, p1, o1, s1, t1⟩⟩) fun u s1 ⟨v1, H1, I1, rx, r1, F1, p1, o1, st1, t1⟩ =>
    thn (hb.run pins s1 σ H1 (fun v2 H2 => ∃ r2 F2, Rep X.K X.w H2 r2 q.1 v2 F2 ∧ RSto X.K X.w H2 r2 q.2 ∧ Stp H1 H2 r1 r2) I1 ⟨env, p.2, r1, q.1, q.2, RE.step t1, st1, e2, fun v2 H2 r2 F2 p2 o2 s2 t2 _ => ⟨r2, F2, p2, s2, t2⟩⟩) fun iv s2 ⟨v2, H2, I2, ry, r2, F2, p2, st2, t2⟩ => ?_)
  have p1' := p1.step o1 t2
  rw [en] at p1'
  obtain ⟨l, rfl, hl, xs, hx, rn⟩ := st2.ref p1' es
  obtain rfl : u = Value.ref l := rx
  obtain ⟨m1, m2, us, np, dd⟩ := nd_of I2 hx rn
  refine ⟨dd.typeIs, ?_⟩
  obtain ⟨b2, rfl⟩ := nkey_ref p2 g
  obtain rfl : iv = Value.ref b2 := ry
  rcases repN_get g rn np with ⟨z, _⟩ | ⟨y, v', b', u', h1, h2, h3, h4⟩
  · rw [of_ok e4] at z; cases z
  · rw [of_ok e4] at h1
    cases h1
    refine wpAny_getItem_heap (knd := nestedKind X.prog X.w) (by show X.A.units + 1 + 8 < cLine; omega) (nkey_is I2 p2 g) dd h2 ⟨v', H2, I2.tok _, h3, k.at_ h4 (by simp) st2 (t1.trans t2)⟩⟩
theorem pc_nhas (hu : X.A.units + 200 < cLine) (neg : Bool) {op : CmpOp} (hop : op = if neg then .NotIn else .In) (ha : PE X a (TEv X.K X.w (evE pg cl ca) fa)) (hb : PE X b (TEv X.K X.w (evE pg cl cb) fb)) : PC X op a b (TEv X.K X.w (evE pg cl (.nhas neg ca cb)) true) := ⟨fun pins s σ H Q I ⟨env, S, r, x, S', RE, RS, ev, k⟩ => by
  simp only [evE] at ev
  obtain ⟨p, e1, ev⟩ := bind_ok' ev
  obtain ⟨q, e2, ev⟩ := bind_ok' ev
  obtain ⟨kvs, e3, ev⟩ := bind_ok' ev
  obtain ⟨g, ev⟩ := guard_ok ev
  cases ev
  obtain ⟨n, en, es⟩ := nkvs_ok e3
  refine (thn (ha.run pins s σ H (fun v1 H1 => ∃ r1 F1, Rep X.K X.w H1 r1 p.1 v1 F1 ∧ (∀ a, a ∈ F1 → a ∉ r1) ∧ RSto X.K X.w H1 r1 p.2 ∧ Stp H H1 r r1) I ⟨env, S, r, p.1, p.2, RE, RS, e1, fun v1 H1 r1 F1 p1 o1 s1 t1 _ => ⟨r1, F1, p1, o1, s1, t1⟩⟩) fun iv s1 ⟨v1, H1, I1, ry, r1, F1, p1, o1, st1, t1⟩ =>
    thn (hb.run pins s1 σ H1 (fun v2 H2 => ∃ r2 F2, Rep X.K X.w H2 r2 q.1 v2 F2 ∧ RSto X.K X.w H2 r2 q.2 ∧ Stp H1 H2 r1 r2) I1 ⟨env, p.2, r1, q.1, q.2, RE.step t1, st1, e2, fun v2 H2 r2 F2 p2 o2 s2 t2 _ => ⟨r2, F2, p2, s2, t2⟩⟩) fun u s2 ⟨v2, H2, I2, rx, r2, F2, p2, st2, t2⟩ => ?_)
  have p1' := p1.step o1 t2
  rw [en] at p2
  obtain ⟨l, rfl, hl, xs, hx, rn⟩ := st2.ref p2 es
  obtain rfl : u = Value.ref l := rx
  obtain ⟨m1, m2, us, np, dd⟩ := nd_of I2 hx rn
  obtain ⟨b2, rfl⟩ := nkey_ref p1' g
  obtain rfl : iv = Value.ref b2 := ry
  have hr : (nestedKind X.prog X.w).room X.A.in1 := by show X.A.units + 1 + 8 < cLine; omega
  have hi : (dget kvs p.1).isSome = (atKey us (toNK p.1)).isSome := by
    rcases repN_get g rn np with ⟨z1, z2⟩ | ⟨y, v', b', u', h1, h2, h3, h4⟩
    · rw [z1, z2]; rfl
    · rw [h1, h2]; rfl
  rw [hi] at k
  have fin : ∀ t', ∃ v' H', Inv X pins σ H' { s2 with toks := t' } ∧ RelV v' (Value.bool (xor neg (atKey us (toNK p.1)).isSome)) ∧ Q v' H' := fun t' => ⟨.bl _, H2, I2.tok t', rfl, Pst.new k (New.bl _) st2 (t1.trans t2)⟩
  subst hop
  cases neg with
  | false => exact wpAny_in_heap (knd := nestedKind X.prog X.w) hr (nkey_is I2 p1' g) m1 dd (by have := fin (s2.toks + (nestedKind X.prog X.w).draws (toNK p.1)); rw [Bool.false_xor] at this; exact this)
  | true => exact wpAny_notIn_heap (knd := nestedKind X.prog X.w) hr (nkey_is I2 p1' g) m1 dd (by have := fin (s2.toks + (nestedKind X.prog X.w).draws (toNK p.1)); rw [Bool.true_xor] at this; exact this)⟩
end
end Ev

/-! SndX: a list turned about: list(reversed(x)), tuple(reversed(x)). -/
namespace Ev
open PySem PySem.Spec PyProof.Rows L2
section
variable {prog : Program} {w : World} {A : Around} {E : Value → Shared → Prop} {s : Shared}
theorem extend_rev {R : Result → Shared → Prop} {it l : Addr} {items : Array Value} (hh : A.handled = none) (hit : s.heap.IsRevIter it l ((items.size : Int) - 1)) (hl : s.heap.IsList l items) (hne : l ≠ it) (hn : items.size ≤ sizeLine)
    (S : Addr) (hSi : S ≠ it) (hSl : S ≠ l) (res : Value) (c₀ : Nat) (hS : s.heap.get? S = some { cls := .type "list", data := .seq #[] c₀ })
    (hR : ∀ h' tk acc' c', (∀ b o, b ≠ S → b ≠ it → s.heap.get? b = some o → h'.get? b = some o) → h'.get? S = some { cls := .type "list", dict := none, data := .seq acc' c', slots := #[] } →
      ItemsOf (fun i v => items[items.size - 1 - i]? = some v) acc' items.size → R (.ok (.ret res)) { s with heap := h', toks := tk }) :
    wpAny (model prog w) A.in1 (Builtin.List.listExtendWith (.ref S) (.ref it) res)
      (fun fin s' => match fin with | .done f => R (.ok f) s' | .again c' => c'.quiet = true ∧ codeAny (model prog w) A c' R s') (fun e s' => R (.error e) s') s := by
  have W := (Walks.listRev (prog := prog) (w := w) (A := A.in1) hh it l hne items).toS
  have hSf : S ∉ [it, l] := by simp only [List.mem_cons, List.not_mem_nil, or_false, not_or]; exact ⟨hSi, hSl⟩
  have hT : s.TypeIs (.ref it) "list_reverseiterator" := hit.typeIs
  have h1 : Builtin.List.listSameRef (.ref S) (.ref it) = false := by simp [Builtin.List.listSameRef, hSi]
  unfold Builtin.List.listExtendWith
  refine wpAny_bind (wpAny_typeOf hT ?_)
  rw [if_neg (by rw [h1]; decide)]
  refine wpAny_bind (wpAny_pyIter_revIter hit ?_)
  refine wpAny_bind (wpAny_holding ?_)
  unfold Builtin.List.listLengthHint
  refine wpAny_bind (wpAny_specialOf hT RT.nolen_lri ?_)
  show wpAny _ A.in1 (specialOf (Value.ref it) (Str.ofString "__length_hint__") >>= _) _ _ _
  refine wpAny_bind (wpAny_specialOf hT RT.hint_lri ?_)
  generalize hid : ("list_reverseiterator.__length_hint__" : String) = id0
  wp_delta
  rw [show splitId id0 = some ("list_reverseiterator", "__length_hint__") from by subst hid; decide +kernel]
  subst hid
  refine wpAny_bind (wpAny_isInstance (b := true) hT (by rw [isSubtype_type]; kernel_rfl) ?_)
  refine wpAny_pure ?_
  rw [if_neg (by decide)]
  have e0 : ((items.size : Nat) : Int) - 1 - ((0 : Nat) : Int) = (items.size : Int) - 1 := by omega
  refine wpAny_pure ⟨plainId_quiet F.plain_extend_loop _, codeAny_extend_loopS W hn _ hSf _ items.size 0 _ _ _ rfl (Nat.zero_le _) ⟨Nat.zero_le _, by rw [e0]; exact hit, hl⟩ hS (ItemsOf.nil _) fun s' acc' c' hm hS' hacc => ?_⟩
  rw [Moved.eq_with hm]
  refine hR s'.heap s'.toks acc' c' (fun b o hb hb2 e => hm.heap b o (fun hmem => ?_) e) hS' hacc
  rcases List.mem_cons.mp hmem with e' | hmem
  · exact hb e'
  · exact hb2 (List.mem_singleton.mp hmem)
theorem list_init_rev {R : Result → Shared → Prop} {it l : Addr} {items : Array Value} (hh : A.handled = none) (hit : s.heap.IsRevIter it l ((items.size : Int) - 1)) (hl : s.heap.IsList l items) (hne : l ≠ it) (hn : items.size ≤ sizeLine)
    (S : Addr) (hSi : S ≠ it) (hSl : S ≠ l) (hS : s.heap.get? S = some { cls := .type "list", data := .seq #[] })
    (hR : ∀ h' tk acc' c', (∀ b o, b ≠ S → b ≠ it → s.heap.get? b = some o → h'.get? b = some o) → h'.get? S = some { cls := .type "list", dict := none, data := .seq acc' c', slots := #[] } →
      ItemsOf (fun i v => items[items.size - 1 - i]? = some v) acc' items.size → R (.ok (.ret .none)) { s with heap := h', toks := tk }) :
    wpAny (model prog w) A.in1 (Builtin.«list.__init__» ⟨[.ref S, .ref it], []⟩)
      (fun fin s' => match fin with | .done f => R (.ok f) s' | .again c' => c'.quiet = true ∧ codeAny (model prog w) A c' R s') (fun e s' => R (.error e) s') s := by
  show wpAny _ _ (do let old ← Builtin.List.listItems (.ref S); Builtin.List.listUpdate (.ref S) (fun _ => #[]); letGo old.toList.reverse; Builtin.List.listExtendWith (.ref S) (.ref it) .none) _ _ s
  refine wpAny_bind ?_
  unfold Builtin.List.listItems
  refine wpAny_bind (wpAny_seqItems hS rfl (wpAny_pure ?_))
  show wpAny _ _ (updateSeq S (fun _ => #[]) >>= fun _ => letGo (#[] : Array Value).toList.reverse >>= fun _ => Builtin.List.listExtendWith (.ref S) (.ref it) .none) _ _ s
  refine wpAny_bind (wpAny_updateSeq hS rfl ?_)
  have hS₂ := Heap.get?_update_self (Obj.mapSeq (fun _ => (#[] : Array Value))) hS rfl
  have oth : ∀ b o, b ≠ S → s.heap.get? b = some o → (s.heap.update S (Obj.mapSeq (fun _ => (#[] : Array Value)))).get? b = some o :=
    fun b o hb e => (Heap.get?_update_other _ _ (Ne.symm hb)).trans e
  refine wpAny_bind (wpAny_letGo ?_)
  have hit2 : (s.heap.update S (Obj.mapSeq (fun _ => (#[] : Array Value)))).IsRevIter it l ((items.size : Int) - 1) := hit.at fun o e => oth it o (Ne.symm hSi) e
  obtain ⟨ol, hol, hl2⟩ := id hl
  have hl3 : (s.heap.update S (Obj.mapSeq (fun _ => (#[] : Array Value)))).IsList l items := ⟨ol, oth l ol (Ne.symm hSl) hol, hl2⟩
  refine extend_rev (s := { s with heap := s.heap.update S (Obj.mapSeq (fun _ => (#[] : Array Value))) }) hh hit2 hl3 hne hn S hSi hSl .none _ hS₂ fun h' tk acc' c' hk hS' hacc => ?_
  exact hR h' tk acc' c' (fun b o hb hb2 e => hk b o hb hb2 (oth b o hb e)) hS' hacc
theorem call_list_rev {it l : Addr} {items : Array Value} {Q : Value → Shared → Prop} (hh : A.handled = none) (hit : s.heap.IsRevIter it l ((items.size : Int) - 1)) (hl : s.heap.IsList l items) (hne : l ≠ it) (hn : items.size ≤ sizeLine)
    (hQ : ∀ h' tk acc' c', (∀ b o, b ≠ it → s.heap.get? b = some o → h'.get? b = some o) → h'.get? s.heap.objs.size = some { cls := .type "list", dict := none, data := .seq acc' c', slots := #[] } →
      ItemsOf (fun i v => items[items.size - 1 - i]? = some v) acc' items.size → Q (.ref s.heap.objs.size) { s with heap := h', toks := tk }) :
    wpAny (model prog w) A (PySem.call (.type "list") [.ref it]) Q E s := by
  refine callType_codes (Q₁ := fun obj s₁ => obj = .ref s.heap.objs.size ∧ s₁ = { s with heap := s.heap.push { cls := .type "list", data := .seq #[] } }) F.called_list (F.typeCall_list_1 _) F.entry_list_init
    (code_list_new _ ⟨rfl, rfl⟩) fun obj s₁ h₁ => ?_
  obtain ⟨rfl, rfl⟩ := h₁
  have hS : (s.heap.push { cls := .type "list", data := .seq #[] }).get? s.heap.objs.size = some { cls := .type "list", data := .seq #[] } := Heap.get?_push_size _ rfl
  obtain ⟨oi, hoi, hi2⟩ := id hit
  obtain ⟨ol, hol, hl2⟩ := id hl
  have hSi : s.heap.objs.size ≠ it := Nat.ne_of_gt (Heap.lt_size hoi)
  have hSl : s.heap.objs.size ≠ l := Nat.ne_of_gt (Heap.lt_size hol)
  refine ⟨⟨_, hS, rfl⟩, F.args_list_init_2 _ _, list_init_rev (A := A.in1) (s := { s with heap := s.heap.push { cls := .type "list", data := .seq #[] } }) hh (hit.at fun o e => Heap.get?_push_of_some _ e) (hl.push _) hne hn _ hSi hSl hS fun h' tk acc' c' hk hS' hacc => ?_⟩
  exact ⟨rfl, hQ h' tk acc' c' (fun b o hb e => hk b o (Nat.ne_of_lt (Heap.lt_size e)) hb (Heap.get?_push_of_some _ e)) hS' hacc⟩
end
/-- list(reversed(x)), x a list: a new list -/
def tLstRev (K : PySem.W.Frag) (te : TE) : TE := fun σ H Q => te σ H fun v H1 => ∃ (a : Addr) (xs : List V), v = .ref a ∧ SqL K H1 a xs ∧ ∀ q, H1 q = none → Q (.ref q) (upd H1 q (.lst xs.reverse))
theorem pe_lstRev {X : Cx} {e : Expr} {te : TE} {p p2 pos pos2 : Pos} (hc : X.calm = true) (hg : Gl X "list") (hm : X.mg "list" = none) (hg2 : Gl X "reversed") (hm2 : X.mg "reversed" = none) (he : PE X e te)
    (hs : starEach [e] X.env = (false, eval e X.env) :: starEach [] X.env := by rfl)
    (hs2 : starEach [.Call (.Name "reversed" p2) [e] [] pos2] X.env = (false, eval (.Call (.Name "reversed" p2) [e] [] pos2) X.env) :: starEach [] X.env := by rfl) :
    PE X (.Call (.Name "list" p) [.Call (.Name "reversed" p2) [e] [] pos2] [] pos) (tLstRev X.K te) := by
  refine ⟨fun pins s σ H Q I h => ?_⟩
  refine Call_ (ld_blt I hg hm boot_list (PyProof.Rows.callWith_type1 (args_cons (Call_ (ld_blt I hg2 hm2 PyProof.Rows.boot_reversed (PyProof.Rows.callWith_type1 (args_cons (thn (he.run pins s σ H _ I h) fun u s1 ⟨v, H1, I1, r1, q1⟩ => args_nil ?_) hs) hs rfl))) hs2) hs2 rfl))
  obtain ⟨a, xs, ev, hq, q⟩ := q1
  subst ev
  obtain rfl : u = Value.ref a := r1
  obtain ⟨its, rv, p', hz⟩ := I1.list hq
  refine call_reversed_list p'.isList (args_nil ?_)
  have k0 : ∀ b o, s1.heap.get? b = some o → (s1.heap.push (revObj a ((its.toArray.size : Int) - 1))).get? b = some o := fun b o e => Heap.get?_push_of_some _ e
  have I2 : Inv X pins σ H1 { s1 with heap := s1.heap.push (revObj a ((its.toArray.size : Int) - 1)) } := I1.kept (t' := s1.toks) k0
  obtain ⟨f0, f1, f2, f3, f4, f5⟩ := I1.fpOk (H' := H1) (b := s1.heap.objs.size) (Nat.le_refl _) (I1.hok.fresh (Nat.le_refl _))
  have hl := p'.isList
  obtain ⟨ol, hol, _⟩ := id hl
  have hne : a ≠ s1.heap.objs.size := Nat.ne_of_lt (Heap.lt_size hol)
  have hn : its.toArray.size ≤ sizeLine := by rw [List.size_toArray, ← rv.length]; exact hz
  refine call_list_rev (s := { s1 with heap := s1.heap.push (revObj a ((its.toArray.size : Int) - 1)) }) (I1.ok.hd hc) ⟨_, Heap.get?_push_size _ rfl, rfl, rfl⟩ (hl.push _) hne hn fun h' tk acc c' hk hS' hi => ?_
  have I3 : Inv X pins σ H1 { s1 with heap := h', toks := tk } := I2.turned (t' := tk) (fun b o hb e => hk b o hb e) f0 f1 f3 f4 f5
  refine ⟨.ref (s1.heap.push (revObj a ((its.toArray.size : Int) - 1))).objs.size, upd H1 (s1.heap.push (revObj a ((its.toArray.size : Int) - 1))).objs.size (.lst xs.reverse), ?_, rfl, q _ (I2.hok.fresh (Nat.le_refl _))⟩
  refine I2.turnedNew (t' := tk) (ch := [s1.heap.objs.size]) (fun b o hb e => hk b o (fun z => hb (by simp [z])) e) (fun b hb => ?_) (Nat.le_refl _) ⟨by rw [List.length_reverse]; exact hz, acc.toList, c', RT.vals_rev rv hi, ?_⟩
  · rw [List.mem_singleton.mp hb]
    exact ⟨f0, f1, f2, f3, f4, f5⟩
  · rw [Array.toArray_toList]
    exact hS'
theorem RepL.rev {K : PySem.W.Frag} {w : World} {H : Hp} {r : List Addr} : ∀ {xs : List Val} {vs : List V} {F : List Addr}, RepL K w H r xs vs F → purs xs = true → RepL K w H r xs.reverse vs.reverse []
  | _, _, _, .nil, _ => .nil
  | _, _, _, .cons h l, p => by
    rw [purs, Bool.and_eq_true] at p
    rw [List.reverse_cons, List.reverse_cons]
    exact (RepL.rev l p.2).append (.cons (h.plain p.1) .nil)
theorem RepL.ints {K : PySem.W.Frag} {w : World} {H : Hp} {r : List Addr} : ∀ ks : List Int, RepL K w H r (ks.map .int) (ks.map .int) []
  | [] => .nil
  | k :: ks => .cons (.int k) (RepL.ints ks)
/-- a list turned about, as it is read -/
theorem rev_read {K : PySem.W.Frag} {w : World} {H : Hp} {r : List Addr} {x : Val} {v : V} {F : List Addr} {l : List Val} (h : Rep K w H r x v F) (e : seqW x = .ok l) (p : purs l.reverse = true) : ∃ a vs, v = .ref a ∧ SqL K H a vs ∧ RepL K w H r l.reverse vs.reverse [] := by
  have hp : purs l = true := by rw [← p, purs_rev]
  cases h with
  | lst h1 h2 => cases e; exact ⟨_, _, rfl, .of h1, h2.rev hp⟩
  | scr h1 =>
    cases e
    exact ⟨_, _, rfl, h1 H fun _ _ e _ => e, (RepL.ints _).rev (F := []) hp⟩
  | scrL h1 =>
    cases e
    exact ⟨_, _, rfl, .of h1, (RepL.ints _).rev (F := []) hp⟩
  | _ => cases e
section
variable {X : Cx} {pos : Pos} {pg : Pg} {cl : CallT} {a : Expr} {ca : E} {fa : Bool}
theorem s_tupRev {p p2 pos2 : Pos} (hc : X.calm = true) (hg : Gl X "tuple") (hm : X.mg "tuple" = none) (hg2 : Gl X "reversed") (hm2 : X.mg "reversed" = none) (ha : PE X a (TEv X.K X.w (evE pg cl ca) fa)) (hs : noStar a = true) :
    PE X (.Call (.Name "tuple" p) [.Call (.Name "reversed" p2) [a] [] pos2] [] pos) (TEv X.K X.w (evE pg cl (.bltI .tuple (.rev ca))) true) := by
  refine pe_w (RT.pe_tupRev hc hg hm hg2 hm2 ha (star_one hs [] _)) fun σ H Q ⟨env, S, r, x, S', RE, RS, ev, k⟩ => ?_
  simp only [evE] at ev
  obtain ⟨p, e1, ev⟩ := bind_ok' ev
  obtain ⟨l, e2, ev⟩ := bind_ok' ev
  obtain ⟨v, e3, ev⟩ := bind_ok' ev
  cases ev
  refine ⟨env, S, r, p.1, p.2, RE, RS, e1, fun v1 H1 r1 F1 p1 o1 s1 t1 f1 => ?_⟩
  obtain ⟨G, d⟩ := p1.dr s1
  simp only [bltV] at e3
  obtain ⟨g, e3⟩ := guard_ok e3
  cases e3
  obtain ⟨b, vs, rfl, hq, hl⟩ := rev_read d e2 g
  exact ⟨b, vs, rfl, hq, fun q hq2 => k.new (.tup hq2 hl) s1 t1⟩
theorem s_lstRev {p p2 pos2 : Pos} (hc : X.calm = true) (hg : Gl X "list") (hm : X.mg "list" = none) (hg2 : Gl X "reversed") (hm2 : X.mg "reversed" = none) (ha : PE X a (TEv X.K X.w (evE pg cl ca) fa)) (hs : noStar a = true) :
    PE X (.Call (.Name "list" p) [.Call (.Name "reversed" p2) [a] [] pos2] [] pos) (TEv X.K X.w (evE pg cl (.bltI .list (.rev ca))) true) := by
  refine pe_w (pe_lstRev hc hg hm hg2 hm2 ha (star_one hs [] _)) fun σ H Q ⟨env, S, r, x, S', RE, RS, ev, k⟩ => ?_
  simp only [evE] at ev
  obtain ⟨p, e1, ev⟩ := bind_ok' ev
  obtain ⟨l, e2, ev⟩ := bind_ok' ev
  obtain ⟨v, e3, ev⟩ := bind_ok' ev
  cases ev
  refine ⟨env, S, r, p.1, p.2, RE, RS, e1, fun v1 H1 r1 F1 p1 o1 s1 t1 f1 => ?_⟩
  obtain ⟨G, d⟩ := p1.dr s1
  simp only [bltV] at e3
  obtain ⟨g, e3⟩ := guard_ok e3
  cases e3
  obtain ⟨b, vs, rfl, hq, hl⟩ := rev_read d e2 g
  exact ⟨b, vs, rfl, hq, fun q hq2 => k.new (.lst hq2 hl) s1 t1⟩
theorem rgV_range (n : Int) : RepL X.K X.w H r (range 0 n.toNat) (rgV 0 n) [] := by
  have e : range 0 n.toNat = ((List.range n.toNat).map fun i => ((i : Nat) : Int)).map Val.int := by
    rw [List.map_map]
    exact range0 n.toNat
  have e2 : rgV 0 n = ((List.range n.toNat).map fun i => ((i : Nat) : Int)).map V.int := by
    unfold rgV
    rw [List.map_map, Int.sub_zero]
    refine List.map_congr_left fun i _ => ?_
    show V.int (0 + ((i : Nat) : Int)) = V.int ((i : Nat) : Int)
    rw [Int.zero_add]
  rw [e, e2]
  exact RepL.ints _
theorem s_tupRg {p p2 pos2 : Pos} (hc : X.calm = true) (hg : Gl X "tuple") (hm : X.mg "tuple" = none) (hg2 : Gl X "range") (hm2 : X.mg "range" = none) (ha : PE X a (TEv X.K X.w (evE pg cl ca) fa)) (hs : noStar a = true) :
    PE X (.Call (.Name "tuple" p) [.Call (.Name "range" p2) [a] [] pos2] [] pos) (TEv X.K X.w (evE pg cl (.bltI .tuple (.rng (.cons ca .nil)))) true) := by
  refine pe_w (pe_tupRg hc hg hm (prg_1 hg2 hm2 ha (star_one hs [] _)) rfl) fun σ H Q ⟨env, S, r, x, S', RE, RS, ev, k⟩ => ?_
  simp only [evE, evS, bind_ok] at ev
  obtain ⟨p, e0, ev⟩ := bind_ok' ev
  obtain ⟨p0, e1, e0'⟩ := bind_ok' e0
  cases e0'
  obtain ⟨l, e2, ev⟩ := bind_ok' ev
  obtain ⟨v, e3, ev⟩ := bind_ok' ev
  cases ev
  refine ⟨env, S, r, p0.1, p0.2, RE, RS, e1, fun v1 H1 r1 F1 p1 o1 s1 t1 f1 => ?_⟩
  obtain ⟨n, g, hn, rfl⟩ := rng1_inv e2
  simp only [bltV] at e3
  obtain ⟨g2, e3⟩ := guard_ok e3
  cases e3
  rw [hn] at p1
  have hb : n ≤ 1000000 := g.2
  have hb2 := g.1
  refine ⟨n, by rw [vint p1], ⟨by omega, by omega, hb2, by omega, by omega⟩, fun q hq2 => k.new (.tup hq2 (rgV_range n)) s1 t1⟩
/-- a tuple of a list's items, which may be lists -/
theorem s_tupN {p : Pos} (hg : Gl X "tuple") (hm : X.mg "tuple" = none) (ha : PE X a (TEv X.K X.w (evE pg cl ca) fa)) (hs : noStar a = true) : PE X (.Call (.Name "tuple" p) [a] [] pos) (TEv X.K X.w (evE pg cl (.tupN ca)) false) := by
  refine pe_w (pe_tupleOf hg hm ha (star_one hs [] _)) fun σ H Q ⟨env, S, r, x, S', RE, RS, ev, k⟩ => ?_
  simp only [evE] at ev
  obtain ⟨p, e1, ev⟩ := bind_ok' ev
  refine ⟨env, S, r, p.1, p.2, RE, RS, e1, fun v1 H1 r1 F1 p1 o1 s1 t1 f1 => ?_⟩
  cases hx : p.1 with
  | lst xs =>
    rw [hx] at ev p1
    cases ev
    cases p1 with
    | lst h1 h2 =>
      refine .inl ⟨_, _, rfl, .of h1, fun q hq => k _ _ r1 _ (.tup upd_same (h2.keep ids ⟨fun a o _ e => same_upd hq a o e, fun a o e _ => same_upd hq a o e⟩)) (fun a m => o1 a (List.mem_cons_of_mem _ m)) (s1.same (same_upd hq)) (t1.trans (.upd hq)) fun z => nomatch z⟩
  | _ => rw [hx] at ev; cases ev
end
end Ev

/-! SndTx: methods of texts: join, split. -/
namespace Ev
open PySem PySem.Spec PySem.W PyProof.Rows L2
theorem asS_some : ∀ {xs : List Val} {ys : List Str}, asS xs = some ys → xs = ys.map .str
  | [], ys, h => by cases h; rfl
  | x :: xs, ys, h => by
    cases x <;> try (cases h; done)
    rename_i b
    simp only [asS, Option.map_eq_some_iff] at h
    obtain ⟨zs, h1, rfl⟩ := h
    rw [asS_some h1]; rfl
theorem repL_str {K : PySem.W.Frag} {w : World} {H : Hp} {r : List Addr} : ∀ {is : List Str} {vs : List V} {F : List Addr}, RepL K w H r (is.map .str) vs F → vs = is.map V.str
  | [], _, _, h => by cases h; rfl
  | i :: is, _, _, h => by
    cases h with
    | cons h t => rw [vstr h, repL_str t]; rfl
theorem repL_strs {K : PySem.W.Frag} {w : World} {H : Hp} {r : List Addr} : ∀ ks : List Str, RepL K w H r (ks.map .str) (ks.map .str) []
  | [] => .nil
  | k :: ks => .cons (F := []) (.str k) (repL_strs ks)
section
variable {X : Cx} {pg : Pg} {cl : CallT} {o b : Expr} {ca cb : E} {fa fb : Bool}
theorem mt_one {m : Mt} {env : Env} {S : Sto} {y : Val} {S' : Sto} (ev : evE pg cl (.mt m ca (.cons cb .nil)) env S = .ok (y, S')) : ∃ dv S1 u, evE pg cl ca env S = .ok (dv, S1) ∧ mtOk m (dr S1 dv) = true ∧ evE pg cl cb env S1 = .ok (u, S') ∧ mtV m (dr S' dv) (mtA m S' [u]) = .ok y := by
  rw [evE] at ev
  obtain ⟨⟨dv, S1⟩, e1, ev⟩ := bind_ok' ev
  obtain ⟨gd, ev⟩ := guard_ok ev
  simp only [evS] at ev
  obtain ⟨q2, e2, ev⟩ := bind_ok' ev
  obtain ⟨q3, e3, e2⟩ := bind_ok' e2
  simp only [bind_ok] at e2
  obtain rfl := ok_inj e2
  obtain ⟨v, e4, ev⟩ := bind_ok' ev
  obtain ⟨rfl, rfl⟩ := Prod.mk.inj (ok_inj ev)
  exact ⟨dv, S1, q3.1, e1, gd, e3, e4⟩
theorem dr_str1 {S : Sto} {v : Val} {a : Str} (h : dr S v = .str a) : v = .str a := by
  unfold dr at h
  split at h
  · split at h <;> cases h
  · exact h
theorem s_join {apos cpos : Pos} (ha : PE X o (TEv X.K X.w (evE pg cl ca) fa)) (hb : PE X b (TEv X.K X.w (evE pg cl cb) fb)) (hs : noStar b = true) (hbase : attributeBase o "join" X.env (eval o X.env) = eval o X.env) (hline : (apos.endLine == cpos.line) = true) :
    PE X (.Call (.Attribute o "join" apos) [b] [] cpos) (TEv X.K X.w (evE pg cl (.mt .join ca (.cons cb .nil))) false) := by
  have st : starEach [b] X.env = [(false, eval b X.env)] := by cases b <;> first | rfl | cases hs
  refine pe_w (pe_join ha hb st hbase hline) fun σ H Q ⟨env, S, r, y, S', RE, RS, ev, k⟩ => ?_
  obtain ⟨dv, S1, u, e1, gd, e2, e3⟩ := mt_one ev
  obtain ⟨a, ed⟩ := mtOk_jn gd
  obtain rfl := dr_str1 ed
  refine ⟨env, S, r, _, _, RE, RS, e1, fun v1 H1 r1 F1 p1 o1 s1 t1 _ => ?_⟩
  obtain rfl := vstr p1
  refine ⟨⟨a, rfl⟩, env, S1, r1, _, _, RE.step t1, s1, e2, fun v2 H2 r2 F2 p2 o2 s2 t2 _ => ?_⟩
  obtain ⟨_, d2⟩ := p2.dr s2
  replace e3 : mtV .join (.str a) [dr S' u] = .ok y := e3
  generalize dr S' u = w at d2 e3
  cases w <;> try (cases e3; done)
  · simp only [mtV] at e3
    obtain ⟨ys, g1, e4⟩ := bind_ok' e3
    obtain ⟨g2, e5⟩ := guard_ok e4
    obtain rfl := ok_inj e5
    obtain rfl := asS_some (of_ok g1)
    obtain ⟨p, vs, rfl, h1, l1⟩ := vtup d2
    obtain rfl := repL_str l1
    exact ⟨a, p, ys, rfl, rfl, .inr (.of h1), of_decide_eq_true g2, k.at_ (.str _) (by simp) s2 (t1.trans t2)⟩
  · simp only [mtV] at e3
    obtain ⟨ys, g1, e4⟩ := bind_ok' e3
    obtain ⟨g2, e5⟩ := guard_ok e4
    obtain rfl := ok_inj e5
    obtain rfl := asS_some (of_ok g1)
    obtain ⟨p, vs, G, rfl, h1, l1⟩ := vlst d2
    obtain rfl := repL_str l1
    exact ⟨a, p, ys, rfl, rfl, .inl (.of h1), of_decide_eq_true g2, k.at_ (.str _) (by simp) s2 (t1.trans t2)⟩
theorem s_split {apos cpos : Pos} (ha : PE X o (TEv X.K X.w (evE pg cl ca) fa)) (hb : PE X b (TEv X.K X.w (evE pg cl cb) fb)) (hs : noStar b = true) (hbase : attributeBase o "split" X.env (eval o X.env) = eval o X.env) (hline : (apos.endLine == cpos.line) = true) :
    PE X (.Call (.Attribute o "split" apos) [b] [] cpos) (TEv X.K X.w (evE pg cl (.mt .split ca (.cons cb .nil))) true) := by
  have st : starEach [b] X.env = [(false, eval b X.env)] := by cases b <;> first | rfl | cases hs
  refine pe_w (pe_split ha hb st hbase hline) fun σ H Q ⟨env, S, r, y, S', RE, RS, ev, k⟩ => ?_
  obtain ⟨dv, S1, u, e1, gd, e2, e3⟩ := mt_one ev
  obtain ⟨a, ed⟩ := mtOk_sp gd
  obtain rfl := dr_str1 ed
  refine ⟨env, S, r, _, _, RE, RS, e1, fun v1 H1 r1 F1 p1 o1 s1 t1 _ => ?_⟩
  obtain rfl := vstr p1
  refine ⟨⟨a, rfl⟩, env, S1, r1, _, _, RE.step t1, s1, e2, fun v2 H2 r2 F2 p2 o2 s2 t2 _ => ?_⟩
  replace e3 : mtV .split (.str a) [u] = .ok y := e3
  cases u <;> try (cases e3; done)
  rename_i c
  simp only [mtV] at e3
  obtain ⟨g, e4⟩ := guard_ok e3
  obtain rfl := ok_inj e4
  obtain ⟨g1, g2⟩ := of_decide_eq_true g
  obtain rfl := vstr p2
  exact ⟨a, c, rfl, rfl, g1, Nat.le_trans (Nat.add_le_add_right g2 2) (by decide), fun p hp => k.new (New.lst hp (repL_strs _)) s2 (t1.trans t2)⟩

theorem s_part {apos cpos : Pos} (ha : PE X o (TEv X.K X.w (evE pg cl ca) fa)) (hb : PE X b (TEv X.K X.w (evE pg cl cb) fb)) (hs : noStar b = true) (hbase : attributeBase o "partition" X.env (eval o X.env) = eval o X.env) (hline : (apos.endLine == cpos.line) = true) :
    PE X (.Call (.Attribute o "partition" apos) [b] [] cpos) (TEv X.K X.w (evE pg cl (.mt .part ca (.cons cb .nil))) true) := by
  have st : starEach [b] X.env = [(false, eval b X.env)] := by cases b <;> first | rfl | cases hs
  refine pe_w (pe_partition ha hb st hbase hline) fun σ H Q ⟨env, S, r, y, S', RE, RS, ev, k⟩ => ?_
  obtain ⟨dv, S1, u, e1, gd, e2, e3⟩ := mt_one ev
  obtain ⟨a, ed⟩ := mtOk_pt gd
  obtain rfl := dr_str1 ed
  refine ⟨env, S, r, _, _, RE, RS, e1, fun v1 H1 r1 F1 p1 o1 s1 t1 _ => ?_⟩
  obtain rfl := vstr p1
  refine ⟨⟨a, rfl⟩, env, S1, r1, _, _, RE.step t1, s1, e2, fun v2 H2 r2 F2 p2 o2 s2 t2 _ => ?_⟩
  replace e3 : mtV .part (.str a) [u] = .ok y := e3
  cases u <;> try (cases e3; done)
  rename_i c
  simp only [mtV] at e3
  obtain ⟨g, e4⟩ := guard_ok e3
  obtain rfl := ok_inj e4
  obtain ⟨g1, g2⟩ := of_decide_eq_true g
  obtain rfl := vstr p2
  exact ⟨a, c, rfl, rfl, g1, Nat.le_trans g2 (by decide), fun p hp => k.new (New.tup hp (repL_strs [(Txt.partition a c).1, (Txt.partition a c).2.1, (Txt.partition a c).2.2])) s2 (t1.trans t2)⟩

/-! ### sorted: a list whose items are lists of the store -/
theorem each_readsD {pins : List (Addr × Obj)} {σ : L2.St} {H : Hp} {s : Shared} {r : List Addr} {S : Sto} (I : Inv X pins σ H s) (st : RSto X.K X.w H r S) {xs : List Val} {us : List Value} (d : isDs (xs.map (dr S)) = true) (e : EachIs (fun u x => ∃ v, RelV v u ∧ Rep X.K X.w H r x v []) us xs) :
    EachIs (fun u x => ∃ as, Reads s.heap u (toD (dr S x)) as) us xs :=
  (each_mem e).mono fun u x ⟨⟨v, a, h⟩, m⟩ => by
    obtain ⟨G, h'⟩ := h.dr st
    exact Dp.reads I (toD (dr S x)) v u (h'.dp (isDs_mem d _ (List.mem_map_of_mem m))) a
theorem cr_sortedR (hu : X.A.units + 200 < cLine) : CallR X (.builtin "sorted") (fun vs H Q => ∃ r S a ys xs, vs = [.ref a] ∧ SqL X.K H a ys ∧ RSto X.K X.w H r S ∧ RepL X.K X.w H r xs ys [] ∧ sortOk (xs.map (dr S)) = true ∧
    ∀ zs p, H p = none → RepL X.K X.w H r (xs.mergeSort fun a b => vle (dr S a) (dr S b)) zs [] → Q (.ref p) (upd H p (.lst zs))) := by
  intro pins s σ H vs us Q I rv h
  obtain ⟨r, S, a, ys, xs, rfl, hs, st, l, ok, q⟩ := h
  rw [Vals.ref1 rv]
  unfold sortOk at ok
  simp only [Bool.and_eq_true, List.all_eq_true, decide_eq_true_eq] at ok
  obtain ⟨od, oa⟩ := ok
  have oa : ∀ x, x ∈ xs → dep (dr S x) ≤ 150 ∧ ∀ y, y ∈ xs → alk (dr S x) (dr S y) = true := fun x hx => ⟨(oa _ (List.mem_map_of_mem hx)).1, fun y hy => (oa _ (List.mem_map_of_mem hx)).2 _ (List.mem_map_of_mem hy)⟩
  have al : ∀ a, a ∈ xs → ∀ b, b ∈ xs → alk (dr S a) (dr S b) = true := fun a ha b hb => (oa a ha).2 b hb
  have hal : AllAlike (xs.map fun x => toD (dr S x)) := by
    intro d hd d' hd'
    obtain ⟨x, hx, rfl⟩ := List.mem_map.mp hd
    obtain ⟨y, hy, rfl⟩ := List.mem_map.mp hd'
    exact alk_alike _ _ (al x hx y hy)
  have hk : (∀ b, b ∈ xs → ∃ zs, toD (dr S b) = .tuple zs) ∨ Sortable (xs.map fun x => toD (dr S x)) := by
    cases xs with
    | nil => exact .inl fun b hb => by cases hb
    | cons x xs =>
      generalize hx : dr S x = dx
      cases dx with
      | tup zs =>
        refine .inl fun b hb => ?_
        have z := al _ List.mem_cons_self b hb
        rw [hx] at z
        generalize dr S b = db at z
        cases db <;> first
          | exact ⟨_, rfl⟩
          | (simp [alk] at z)
      | _ =>
        refine .inr (.inr fun d hd => ?_)
        obtain ⟨b, hb, rfl⟩ := List.mem_map.mp hd
        have z := al _ List.mem_cons_self b hb
        rw [hx] at z
        generalize dr S b = db at z
        cases db <;> first
          | (simp [alk] at z; done)
          | exact ⟨(fun e => nomatch e), (fun xs e => nomatch e)⟩
  have hub : ∀ b, b ∈ xs → X.A.units + 2 + (toD (dr S b)).depth < cLine := fun b hb => by
    have h1 := (oa b hb).1
    have h2 := dep_toD (dr S b)
    omega
  obtain ⟨its, rv, hl, hz⟩ := I.list hs
  have e := each_rep l rv
  refine sorted_any hl.isList e (each_readsD I st od e) hal hk (by rw [l.length]; exact hz) hub fun out ho e => ?_
  have hsort : xs.mergeSort (dataLe false fun x => toD (dr S x)) = xs.mergeSort fun a b => vle (dr S a) (dr S b) := sort_congr fun a ha b hb => by
    rw [dataLe_eq]
    show (!dataLt (toD (dr S b)) (toD (dr S a))) = _
    rw [alk_lt _ _ (al b hb a ha)]
    rfl
  rw [hsort] at e
  obtain ⟨zs, c, lz⟩ := each_back e
  obtain ⟨ep, he⟩ := PyProof.Rows.sortedAll_at s.heap its out.toArray
  have hl : zs.length ≤ sizeLine := by rw [c.length, ho, l.length]; exact hz
  exact ⟨.ref _, upd H (s.heap.objs.size + 1) (.lst zs), I.laid (t' := s.toks) (fun _ _ => PyProof.Rows.sortedAll_old) (Nat.le_succ _) ⟨hl, out, ep, c, he⟩, rfl, q zs _ (I.hok.fresh (Nat.le_succ _)) lz⟩
theorem s_srt (hu : X.A.units + 200 < cLine) {p pos : Pos} (hg : Gl X "sorted") (hm : X.mg "sorted" = none) (hb : PE X b (TEv X.K X.w (evE pg cl cb) fb)) (hs : noStar b = true) :
    PE X (.Call (.Name "sorted" p) [b] [] pos) (TEv X.K X.w (evE pg cl (.srt cb)) true) := by
  have st : starEach [b] X.env = (false, eval b X.env) :: starEach [] X.env := by cases b <;> first | rfl | cases hs
  refine pe_w (pe_callB (cr_sortedR hu) hg hm (boot_bt .sorted) (pa_cons hb pa_nil st) (bt_ne .sorted).1 (bt_ne .sorted).2 st rfl) fun σ H Q ⟨env, S, r, y, S', RE, RS, ev, k⟩ => ?_
  rw [evE] at ev
  obtain ⟨q, e1, ev⟩ := bind_ok' ev
  split at ev
  · rename_i xs ed
    obtain ⟨gd, ev⟩ := guard_ok ev
    obtain ⟨rfl, rfl⟩ := Prod.mk.inj (ok_inj ev)
    rw [Bool.and_eq_true] at gd
    refine ⟨env, S, r, _, _, RE, RS, e1, fun v1 H1 r1 F1 p1 o1 s1 t1 _ => ?_⟩
    obtain ⟨_, d1⟩ := p1.dr s1
    have d1 : Rep X.K X.w H1 r1 (dr q.2 q.1) v1 _ := d1
    rw [ed] at d1
    obtain ⟨a, vs, G, rfl, h1, l1⟩ := vlst d1
    obtain rfl := l1.pur gd.1
    exact ⟨r1, q.2, a, vs, xs, rfl, .of h1, s1, l1, gd.2, fun zs p hp lz => k.new (New.lst hp lz) s1 t1⟩
  · cases ev
end
end Ev

/-! SndP: a method called by its class's name. -/
namespace Ev
open PySem PySem.Spec PyProof.Rows L2

/-- a method as it is called by its class's name -/
structure CalC (P : Program) (w : World) (K : PySem.W.Frag) (mg : Str → Option Value) (base : Heap) (k : Nat) (C : Addr) (m : Str) (sp : Sp) : Prop where
  ex : ∃ (f : Addr) (fd : FuncData) (ps : List Str) (sp' : Sp) (dvs : List V) (ds : List Value), FnOk P w K mg base (L2N.CX P w) k f fd ps sp' ∧ ClX.CRead K C (.type "type") ∧ ClX.CVal K C (.type "type") m (.ref f) (.ref f) ∧ PySem.W.keepIn K (.ref f) = true ∧ Binds K fd ps ds ∧ Vals dvs ds ∧ ∀ vs H Q E, sp vs H Q E → sp' (vs ++ dvs) H Q E
def CmOk (P : Program) (w : World) (K : PySem.W.Frag) (mg : Str → Option Value) (base : Heap) (pg : Pg) (cl : CallT) (j : Nat) (cms : List Nat) : Prop := ∀ c m f, cms.contains (c * 1000 + m) = true → pg.meth c m = some f → mg (clsS c) = some (.ref (clsA K c)) ∧ CalC P w K mg base j (clsA K c) (mthS m) (spV K w (cl f))
section
variable {X : Cx} {CX : CXT} {k : Nat} {f C : Addr} {fd : FuncData} {ps : List Str} {sp : Sp} {dvs : List V} {ds : List Value} {E : XK} {o e : Expr} {es : List Expr} {m : Str} {pos apos : Pos} {t : TA} {pl : Sem Bool} {mc : Value}
def tCm (sp : Sp) (dvs : List V) (E : XK) (t : TA) : TE := fun σ H Q => t σ H fun vs H2 => sp (vs ++ dvs) H2 Q E
theorem pe_cm (he : PE X o (tC (.ref C))) (r : ClX.CRead X.K C mc) (c : ClX.CVal X.K C mc m (.ref f) (.ref f)) (F : FnOk X.prog X.w X.K X.mg X.base CX k f fd ps sp) (hr : Room k X.A) (hk : PySem.W.keepIn X.K (.ref f) = true) (hb : Binds X.K fd ps ds) (hd : Vals dvs ds) (hx : Passes CX X E) (ha : PA X (e :: es) t)
    (hst : starEach (e :: es) X.env = (false, eval e X.env) :: starEach es X.env) (hpl : (backTo pos (starEach es X.env)).any (·.1) = false)
    (ht : eval (.Call (.Attribute o m apos) (e :: es) [] pos) X.env = (do
      let ov ← eval o X.env
      standAt apos.atName
      let (f, first) ← holding [ov] (getMethod ov m pl)
      callWith pos f first (backTo pos (starEach (e :: es) X.env)) (backToKw pos (keywordEach [] X.env)))) :
    PE X (.Call (.Attribute o m apos) (e :: es) [] pos) (tCm sp dvs E t) := by
  refine ⟨fun pins s σ H Q I h => ?_⟩
  refine PySem.W.methodCall_KW (pl := pl) (thn (he.run pins s σ H (fun x H1 => x = .ref C ∧ t σ H1 fun vs H2 => sp (vs ++ dvs) H2 Q E) I ⟨rfl, h⟩) fun u s1 ⟨x, H1, I1, rx, ex, q⟩ => ?_) ht
  subst ex
  obtain rfl : u = Value.ref C := rx
  refine PySem.W.method_cls I1.kIn r.ga (ClX.getcval_ok I1 r c fun s2 I2 => ?_)
  refine PySem.W.callWith_K (first := []) (h₀ := X.base) I.ok.mod.kin hk (thn (ha.run pos pins s2 σ H1 _ I2 q) fun us s3 ⟨vs, H2, I3, rv, q2⟩ => ⟨I3.kIn, ?_⟩) hst hpl
  exact run_fn F hr hb hd hx I3 rv q2
end
section
variable {X : Cx} {pos : Pos} {pg : Pg} {cl : CallT} {a : Expr}
theorem s_callM {c m f j : Nat} {p apos : Pos} {es : List Expr} {cs : Es} (hf : pg.meth c m = some f) (hk : CalC X.prog X.w X.K X.mg X.base j (clsA X.K c) (mthS m) (spV X.K X.w (cl f))) (hr : Room j X.A) (hg : Gl X (clsS c)) (hm : X.mg (clsS c) = some (.ref (clsA X.K c))) (ha : PA X (a :: es) (TAv X.K X.w (evS pg cl cs) false))
    (hdb : (clsS c == ("__debug__" : Str)) = false) (he : starEach (a :: es) X.env = (false, eval a X.env) :: starEach es X.env) (hpl : (backTo pos (starEach es X.env)).any (·.1) = false) (hst : (a :: es).all noStar = true) (hl30 : (a :: es).length < 30) (hline : (apos.endLine == pos.line) = true) :
    PE X (.Call (.Attribute (.Name (clsS c) p) (mthS m) apos) (a :: es) [] pos) (TEv X.K X.w (evE pg cl (.callM c m cs)) true) := by
  obtain ⟨f', fd, ps, sp', dvs, ds, F, r, v, kp, b, dv, im⟩ := hk.ex
  refine pe_w (pe_cm (pe_glob hg hm rfl hdb) r v F hr kp b dv passN ha he hpl (meth_text rfl (form_ok hst hl30) hline)) fun σ H Q ⟨env, S, r, x, S', RE, RS, ev, k⟩ => ?_
  simp only [evE, hf, of_some, bind_ok] at ev
  obtain ⟨p, e1, ev⟩ := bind_ok' ev
  refine ⟨env, S, r, p.1, p.2, RE, RS, e1, fun vs H1 r1 F1 p1 o1 s1 t1 f1 => ?_⟩
  refine im vs H1 Q E0 ?_
  exact ⟨p.2, r1, p.1, F1, p1, o1, s1, .inl ⟨x, S', ev, fun v2 H2 r2 F2 p2 o2 s2 t2 f2 => k v2 H2 r2 F2 p2 o2 s2 (t1.trans t2) fun z => ⟨(f2 z).1, fun a m => t1.none ((f2 z).2 a m)⟩⟩⟩
end
end Ev

/-! SndE: a code that looks like its text computes what the text does: expressions. -/
namespace Ev
open PySem PySem.Spec PyProof.Rows L2

def frees : List Str := ["len", "tuple", "list", "sorted", "sum", "max", "min", "set", "any", "all", "int", "str", "bool", "range", "enumerate", "reversed", "isinstance", "ValueError"]
/-- the exception classes of the law -/
structure XcOk (K : PySem.W.Frag) (mg : Str → Option Value) (xs : List Nat) : Prop where
  nm : ∀ c, c ∈ xs → mg (clsS c) = some (.ref (clsA K c)) ∧ c ≠ 100
  cl : ∀ c, c ∈ xs → ExcC K (clsA K c) ∧ PySem.W.excIn K (clsA K c) He.veBase "ValueError.__new__" = true ∧ PySem.W.keepIn K (.ref (clsA K c)) = true ∧ PySem.W.typeIn K (.ref (clsA K c)) = some (.type "type")
  kit : ∀ c, c ∈ xs → ∀ d, d ∈ xs → PySem.W.kitOne K (.ref (clsA K c)) (.ref (clsA K d)) = some (subc c d)
  exm : ∀ c, c ∈ xs → ∀ d, d ∈ xs → PySem.W.exmOne K (.ref (clsA K c)) (.ref (clsA K d)) = some (subc c d)
  ve : ∀ c, c ∈ xs → PySem.W.kitOne K (.ref (clsA K c)) (.type "ValueError") = some true
  bv : mg "ValueError" = none
theorem XcOk.nil {K : PySem.W.Frag} {mg : Str → Option Value} (h : mg "ValueError" = none) : XcOk K mg [] := ⟨by simp, by simp, by simp, by simp, by simp, h⟩
structure Gv (X : Cx) (pg : Pg) (cl : CallT) (k : Ck) : Prop where
  N : X.N = k.N
  nd : X.N.Nodup
  calm : k.cal = true → X.calm = true
  un : X.A.units + 200 < cLine
  room : k.cal = true → ∃ j, Room (j + 1) X.A ∧ (∀ f x, k.fn.lookup f = some x → CalV X.prog X.w X.K X.mg X.base j x (spV X.K X.w (cl f))) ∧ MthOk X.prog X.w X.K X.mg X.base pg cl j ∧ MkOk X.prog X.w X.K X.mg X.base pg cl j
  fld : FldOk X.K pg
  bt : ∀ x, x ∈ frees → X.mg x = none
  con : ∀ n x, k.con.lookup n = some x → ∃ c v u, pg.con n = some c ∧ conV c = some v ∧ X.mg x = some u ∧ RelV v u
  xc : XcOk X.K X.mg k.xs
  xe : pg.xs = k.xs
  cm : k.cal = true → ∃ j, Room j X.A ∧ CmOk X.prog X.w X.K X.mg X.base pg cl j k.cms
theorem Gv.blk {X : Cx} {pg : Pg} {cl : CallT} {k : Ck} (g : Gv X pg cl k) (scope : Scope) (s : Shared) (H : Hp) (C : Addr) (cl' : List (Str × Addr)) (fp : List Addr) : Gv (blkX X scope s H C cl' fp) pg cl k :=
  ⟨g.N, g.nd, g.calm, g.un, g.room, g.fld, g.bt, g.con, g.xc, g.xe, g.cm⟩
theorem Gv.hu {X : Cx} {pg : Pg} {cl : CallT} {k : Ck} (g : Gv X pg cl k) : X.A.units + 200 < cLine := g.un
theorem base_plain {x : Expr} {n : Str} {env : PySem.Env} (h : plainR x = true) : attributeBase x n env (eval x env) = eval x env := by
  cases x <;> first | rfl | cases h
theorem base_text {x : Expr} {n : Str} {env : PySem.Env} (h : plainT x = true) : attributeBase x n env (eval x env) = eval x env := by
  cases x <;> first | rfl | cases h
theorem bt_free (b : Bt) : btN b ∈ frees := by cases b <;> decide +kernel
theorem ty_free (t : Ty) (h : isCls t = false) : tyS t ∈ frees := by cases t <;> first | decide +kernel | cases h
theorem name_of {X : Cx} {k : Ck} {i : Nat} {x : Str} {sc : Scope} (h : nameC k sc i x = true) : k.N[i]? = some x ∧ Vis sc x ∧ (x == ("__debug__" : Str)) = false ∧ (x == ("__classdict__" : Str)) = false := by
  unfold nameC at h
  rw [Bool.and_eq_true, Bool.and_eq_true, decide_eq_true_eq] at h
  exact ⟨h.1.1, vis_of h.1.2, dbg_of h.2⟩
theorem chkS_stars {k : Ck} : ∀ {cs : Es} {sc : Scope} {es : List Expr}, chkS k cs sc es = true → es.all noStar = true
  | .nil, sc, es, h => by
    simp only [chkS, List.isEmpty_iff] at h
    rw [h]; rfl
  | .cons c cs, sc, es, h => by
    unfold chkS at h
    split at h
    · rw [Bool.and_eq_true, Bool.and_eq_true] at h
      rw [List.all_cons, h.1.1, chkS_stars h.2]
      rfl
    · cases h
/-! ### isinstance of a caught exception -/
theorem ext_get {X : Cx} {pins : List (Addr × Obj)} {σ : L2.St} {H : Hp} {s : Shared} {a : Addr} {c : Nat} (I : L2.Inv X pins σ H s) (h : H a = some (ExO X.K c a)) : ∃ oe vs, s.heap.get? a = some oe ∧ oe.cls = .ref (clsA X.K c) ∧ oe.dict = none ∧ oe.data = .fields vs := by
  obtain ⟨⟨oe, h1, h2, h3, vs, h4, _⟩, _, _⟩ := I.hok a _ h
  exact ⟨oe, vs, h1, h2, h3, h4⟩
def rIsX (K : PySem.W.Frag) : List V → Hp → VK → Prop := fun xs H Q => ∃ (a : Addr) (c : Nat) (d : V) (cv : Value) (b : Bool), xs = [.ref a, d] ∧ H a = some (ExO K c a) ∧ ExcC K (clsA K c) ∧ (∀ u, RelV d u → u = cv) ∧ PySem.W.kitOne K (.ref (clsA K c)) cv = some b ∧ Q (.bl b) H
theorem call_isX {X : Cx} : CallR X (.builtin "isinstance") (rIsX X.K) := by
  intro pins s σ H xs us Q I r h
  obtain ⟨a, c, d, cv, b, rfl, hx, C, hcv, e, q⟩ := h
  cases r with
  | cons rx rr =>
    cases rr with
    | cons rt rr =>
      cases rr
      cases rx
      have ec := hcv _ rt
      subst ec
      obtain ⟨oe, vs, hget, h1, h2, hv⟩ := ext_get I hx
      have J : PySem.W.InstAt s.heap a oe (clsA X.K c) none := by
        obtain ⟨oc, od, oda, osl⟩ := oe
        dsimp only at h1 h2 hv
        subst h1 h2 hv
        exact ⟨hget, rfl, rfl, trivial⟩
      exact PySem.W.kia_one (PySem.W.handS_kitx_exc C.hg C.hk C.hs C.hd C.ha C.hn C.ht C.hm) I.kIn J e (fun z => nomatch z) fun tk => ⟨.bl b, H, I.kept (t' := tk) fun _ _ z => z, rfl, q⟩
section
variable {pg : Pg} {cl : CallT}
theorem s_isx {X : Cx} {i c : Nat} {x : Str} {xs : List Nat} {p p1 p2 pos : Pos} (xc : XcOk X.K X.mg xs) (hx : pg.xs = xs) (hc : (c == 100 || xs.contains c) = true) (hg : Gl X "isinstance") (hm : X.mg "isinstance" = none) (hg2 : Gl X (excS c)) (hd2 : (excS c == ("__debug__" : Str)) = false) (hv : PE X (.Name x p1) (tVar i)) :
    PE X (.Call (.Name "isinstance" p) [.Name x p1, .Name (excS c) p2] [] pos) (TEv X.K X.w (evE pg cl (.isx i c)) true) := by
  obtain ⟨vc, cv, h1, hcv, hk⟩ : ∃ (vc : V) (cv : Value), PE X (.Name (excS c) p2) (tC vc) ∧ (∀ u, RelV vc u → u = cv) ∧ ∀ b, b ∈ xs → PySem.W.kitOne X.K (.ref (clsA X.K b)) cv = some (subc b c) := by
    by_cases e : c = 100
    · subst e
      have eS : excS 100 = "ValueError" := rfl
      refine ⟨.ty "ValueError", .type "ValueError", ?_, fun u h => h, fun b hb => ?_⟩
      · rw [eS] at hg2 hd2 ⊢
        exact pe_bltn hg2 xc.bv (by decide +kernel) rfl (by decide) hd2
      · rw [xc.ve b hb]; unfold subc; simp
    · have hm2 : c ∈ xs := by
        simp [e] at hc
        exact hc
      have eS : excS c = clsS c := if_neg e
      refine ⟨.ref (clsA X.K c), .ref (clsA X.K c), ?_, fun u h => h, fun b hb => xc.kit b hb c hm2⟩
      rw [eS] at hg2 hd2 ⊢
      exact pe_glob hg2 (xc.nm c hm2).1 rfl hd2
  refine pe_w (pe_callB call_isX hg hm boot_isi (pa_cons hv (pa_cons h1 pa_nil rfl) rfl) (by decide) (by decide) rfl rfl) fun σ H Q ⟨env, S, r, y, S', RE, RS, ev, k⟩ => ?_
  simp only [evE] at ev
  obtain ⟨b, e1, ev⟩ := bind_ok' ev
  obtain ⟨g, ev⟩ := guard_ok ev
  cases ev
  unfold excR at e1
  split at e1
  · rename_i n en
    split at e1
    · rename_i b' es
      obtain rfl : b' = b := ok_inj e1
      obtain ⟨v, F, r1, r2, r3⟩ := RE i _ en
      obtain ⟨a, rfl, ha, ob⟩ := RS.ref r2 es
      have hb : b' ∈ xs := by
        rw [hx] at g
        simpa using g
      exact ⟨_, r1, a, b', vc, cv, _, rfl, ob, (xc.cl b' hb).1, hcv, hk b' hb, k.new (.bl _) RS .refl⟩
    · cases e1
  · cases e1
end
section
variable {pg : Pg} {cl : CallT} {k : Ck}
abbrev PEv (X : Cx) (pg : Pg) (cl : CallT) (c : E) (e : Expr) : Prop := PE X e (TEv X.K X.w (evE pg cl c) (fresh c))
abbrev PTv (X : Cx) (pg : Pg) (cl : CallT) (c : E) (e : Expr) : Prop := PT X e (TTv X.K X.w (evE pg cl c))
theorem and_def (es : Es) : evE pg cl (.andE es) = evAnd pg cl es := by funext env S; simp only [evE]
theorem or_def (es : Es) : evE pg cl (.orE es) = evOr pg cl es := by funext env S; simp only [evE]

theorem both {X : Cx} {c : E} {e : Expr} (he : ∀ whole, isTrue e X.env whole = (do let v ← whole; standAt e.pos; holding [v] (truthy v))) (q : PEv X pg cl c e) : PEv X pg cl c e ∧ (tstOk c = true → PTv X pg cl c e) := ⟨q, fun _ => t_val he q⟩
theorem PE.never {X : Cx} (e : Expr) : PE X e (fun _ _ _ => False) := ⟨fun pins s σ H Q I h => h.elim⟩
theorem nox_of {α : Type} {r : Res α} {a : α} (h : r.nox = .ok a) : r = .ok a := by cases r <;> first | exact h | cases h
theorem nx_imp {X : Cx} {a : E} {fr : Bool} {σ : L2.St} {H : Hp} {Q : VK} (z : TEv X.K X.w (evE pg cl (.nx a)) fr σ H Q) : TEv X.K X.w (evE pg cl a) fr σ H Q := by
  obtain ⟨env, S, r, x, S', RE, RS, ev, k⟩ := z
  rw [evE] at ev
  exact ⟨env, S, r, x, S', RE, RS, nox_of ev, k⟩
mutual
theorem snd_E : ∀ (c : E) (X : Cx) (g : Gv X pg cl k) (e : Expr), chkE k c X.env.scope e = true → PEv X pg cl c e ∧ (tstOk c = true → PTv X pg cl c e)
  | .var i, X, g, e, h => by
    simp only [chkE] at h
    split at h
    · obtain ⟨h1, h2, h3, h4⟩ := name_of (X := X) h
      exact both (fun _ => rfl) (s_var (pg := pg) (cl := cl) (g.N ▸ h1) h2 h3 h4)
    · cases h
  | .int i, X, g, e, h => by
    simp only [chkE] at h
    split at h
    · obtain rfl := of_decide_eq_true h
      exact both (fun _ => rfl) (s_int (X := X) (pg := pg) (cl := cl))
    · cases h
  | .str i, X, g, e, h => by
    simp only [chkE] at h
    split at h
    · obtain rfl := of_decide_eq_true h
      exact both (fun _ => rfl) (s_str (X := X) (pg := pg) (cl := cl))
    · cases h
  | .bl i, X, g, e, h => by
    simp only [chkE] at h
    split at h
    · obtain rfl := of_decide_eq_true h
      exact both (fun _ => rfl) (s_bl (X := X) (pg := pg) (cl := cl))
    · cases h
  | .non, X, g, e, h => by
    simp only [chkE] at h
    split at h
    · exact both (fun _ => rfl) (s_non (X := X) (pg := pg) (cl := cl))
    · cases h
  | .glob n, X, g, e, h => by
    simp only [chkE] at h
    split at h
    · rw [Bool.and_eq_true, Bool.and_eq_true, decide_eq_true_eq] at h
      exact both (fun _ => rfl) (s_glob (X := X) (pg := pg) (cl := cl) (gl_of h.1.1) (g.con _ _ h.1.2) (dbg_of h.2).1)
    · cases h
  | .bin op a b, X, g, e, h => by
    simp only [chkE] at h
    split at h
    · rw [Bool.and_eq_true, Bool.and_eq_true, decide_eq_true_eq] at h
      obtain ⟨⟨rfl, h1⟩, h2⟩ := h
      exact both (fun _ => rfl) (s_bin (op := op) (snd_E a X g _ h1).1 (snd_E b X g _ h2).1)
    · cases h
  | .neg a, X, g, e, h => by
    simp only [chkE] at h
    split at h
    · exact both (fun _ => rfl) (s_neg (snd_E a X g _ h).1)
    · cases h
  | .cmp op a b, X, g, e, h => by
    simp only [chkE] at h
    split at h
    · rw [Bool.and_eq_true, Bool.and_eq_true, Bool.and_eq_true, decide_eq_true_eq, Bool.not_eq_true'] at h
      obtain ⟨⟨⟨rfl, h0⟩, h1⟩, h2⟩ := h
      exact ⟨s_cmp g.hu (snd_E a X g _ h1).1 (snd_E b X g _ h2).1 h0, fun _ => t_cmp g.hu (snd_E a X g _ h1).1 (snd_E b X g _ h2).1 h0⟩
    · cases h
  | .chain op op' a b c, X, g, e, h => by
    simp only [chkE] at h
    split at h
    · rw [Bool.and_eq_true, Bool.and_eq_true, Bool.and_eq_true, Bool.and_eq_true, Bool.and_eq_true, decide_eq_true_eq, decide_eq_true_eq, Bool.not_eq_true'] at h
      obtain ⟨⟨⟨⟨⟨rfl, rfl⟩, h0⟩, h1⟩, h2⟩, h3⟩ := h
      have q := s_chain (pos := by assumption) g.hu (snd_E a X g _ h1).1 (snd_E b X g _ h2).1 (snd_E c X g _ h3).1 h0
      exact ⟨q.1, fun _ => q.2⟩
    · cases h
  | .andE es, X, g, e, h => by
    simp only [chkE] at h
    split at h
    · have q := snd_And es X g _ (by assumption) h
      unfold PEv PTv
      rw [and_def]
      exact ⟨q.1, fun _ => q.2.pt⟩
    · cases h
  | .orE es, X, g, e, h => by
    simp only [chkE] at h
    split at h
    · have q := snd_Or es X g _ (by assumption) h
      unfold PEv PTv
      rw [or_def]
      exact ⟨q.1, fun _ => q.2.pt⟩
    · cases h
  | .not a, X, g, e, h => by
    simp only [chkE] at h
    split at h
    · rw [Bool.and_eq_true] at h
      have q := snd_E a X g _ h.2
      exact ⟨s_not q.1, fun _ => t_not (q.2 h.1)⟩
    · cases h
  | .ifx t a b, X, g, e, h => by
    simp only [chkE] at h
    split at h
    · rw [Bool.and_eq_true, Bool.and_eq_true, Bool.and_eq_true] at h
      obtain ⟨⟨⟨h0, h1⟩, h2⟩, h3⟩ := h
      exact ⟨s_ifx ((snd_E t X g _ h1).2 h0) (snd_E a X g _ h2).1 (snd_E b X g _ h3).1, fun z => nomatch z⟩
    · cases h
  | .tup es, X, g, e, h => by
    simp only [chkE] at h
    split at h
    · rw [Bool.and_eq_true, decide_eq_true_eq] at h
      exact both (fun _ => rfl) (s_tup (snd_K es X g _ h.2) h.1)
    · cases h
  | .lst es, X, g, e, h => by
    simp only [chkE] at h
    split at h
    · rw [Bool.and_eq_true, decide_eq_true_eq] at h
      exact both (fun _ => rfl) (s_lst (snd_K es X g _ h.2) h.1)
    · cases h
  | .dic t .nil, X, g, e, h => by
    simp only [chkE] at h
    split at h
    · cases t with
      | false => exact both (fun _ => rfl) s_dicK
      | true => exact both (fun _ => rfl) s_dicT
    · cases h
  | .dic t (.cons a .nil), X, g, e, h => by simp only [chkE] at h; cases h
  | .dic true (.cons a (.cons b .nil)), X, g, e, h => by simp only [chkE] at h; cases h
  | .dic false (.cons a (.cons b .nil)), X, g, e, h => by
    simp only [chkE] at h
    split at h
    · rw [Bool.and_eq_true] at h
      exact both (fun _ => rfl) (s_dic1 (snd_E a X g _ h.1).1 (snd_E b X g _ h.2).1)
    · cases h
  | .dic t (.cons a (.cons b (.cons c .nil))), X, g, e, h => by simp only [chkE] at h; cases h
  | .dic true (.cons a (.cons b (.cons c (.cons d .nil)))), X, g, e, h => by simp only [chkE] at h; cases h
  | .dic false (.cons a (.cons b (.cons c (.cons d .nil)))), X, g, e, h => by
    simp only [chkE] at h
    split at h
    · rw [Bool.and_eq_true, Bool.and_eq_true, Bool.and_eq_true] at h
      exact both (fun _ => rfl) (s_dic2 (snd_E a X g _ h.1.1.1).1 (snd_E b X g _ h.1.1.2).1 (snd_E c X g _ h.1.2).1 (snd_E d X g _ h.2).1)
    · cases h
  | .dic t (.cons a (.cons b (.cons c (.cons d (.cons f fs))))), X, g, e, h => by simp only [chkE] at h; cases h
  | .ix a i, X, g, e, h => by
    simp only [chkE] at h
    split at h
    · rw [Bool.and_eq_true, Bool.and_eq_true] at h
      exact both (fun _ => rfl) (s_ix g.hu (snd_E a X g _ h.1.2).1 (snd_E i X g _ h.2).1 (plain_ix h.1.1))
    · cases h
  | .sl a lo hi, X, g, e, h => by
    simp only [chkE] at h
    split at h
    · rw [Bool.and_eq_true, Bool.and_eq_true] at h
      exact both (fun _ => rfl) (s_sl (snd_E a X g _ h.1.1).1 (snd_O lo X g _ h.1.2) (snd_O hi X g _ h.2))
    · cases h
  | .comp x j it cs, X, g, e, h => by
    simp only [chkE] at h
    rw [Bool.and_eq_true] at h
    obtain ⟨hcal, h⟩ := h
    split at h
    · rw [Bool.and_eq_true, Bool.and_eq_true, Bool.and_eq_true, Bool.and_eq_true, Bool.and_eq_true, Bool.and_eq_true, decide_eq_true_eq] at h
      obtain ⟨⟨⟨⟨⟨⟨rfl, h1⟩, h2⟩, h3⟩, h4⟩, h5⟩, h6⟩ := h
      have q := (s_comp (pos := by assumption) (g.calm hcal) g.nd (snd_I it X g _ _ h4) (g.N ▸ h1) h2 (fun s H C cl' fp => snd_T cs (blkX X _ s H C cl' fp) (g.blk _ s H C cl' fp) _ h5) (fun s H C cl' fp => (snd_E x (blkX X _ s H C cl' fp) (g.blk _ s H C cl' fp) _ h6).1) h3).1
      exact ⟨q, fun _ => t_val (fun _ => rfl) q⟩
    · cases h
  | .call f es, X, g, e, h => by
    simp only [chkE] at h
    rw [Bool.and_eq_true] at h
    obtain ⟨hcal, h⟩ := h
    split at h
    · rename_i x p args pos
      rw [Bool.and_eq_true, Bool.and_eq_true, Bool.and_eq_true, decide_eq_true_eq] at h
      obtain ⟨⟨⟨h1, h2⟩, h3⟩, h4⟩ := h
      obtain ⟨j, hr1, hcl, _⟩ := g.room hcal
      have hr := hr1.mono (Nat.le_succ j)
      have st := chkS_stars h4
      have q : PEv X pg cl (.call f es) (.Call (.Name x p) args [] pos) := by
        have qa := snd_S es X g _ h4
        cases args with
        | nil =>
          cases es with
          | nil => exact s_call0 (hcl _ _ h2) hr (Nat.le_refl _) (gl_of h1) (dbg_of h3).1
          | cons c cs => simp [chkS] at h4
        | cons a args =>
          rw [List.all_cons, Bool.and_eq_true] at st
          exact s_call (hcl _ _ h2) hr (Nat.le_refl _) (gl_of h1) qa (dbg_of h3).1 (star_one st.1 _ _) (star_plain st.2)
      exact ⟨q, fun _ => t_val (fun _ => rfl) q⟩
    · cases h
  | .blt b es, X, g, e, h => by
    simp only [chkE] at h
    split at h
    · rw [Bool.and_eq_true, Bool.and_eq_true, Bool.and_eq_true, decide_eq_true_eq] at h
      obtain ⟨hcal, ⟨rfl, h1⟩, h2⟩ := h
      have st := chkS_stars h2
      rw [List.all_cons, Bool.and_eq_true] at st
      exact both (fun _ => rfl) (s_blt g.hu (g.calm hcal) (gl_of h1) (g.bt _ (bt_free b)) (snd_S es X g _ h2) (star_one st.1 _ _) (star_plain st.2))
    · cases h
  | .tupN a, X, g, e, h => by
    simp only [chkE] at h
    split at h
    · rw [Bool.and_eq_true, Bool.and_eq_true, Bool.and_eq_true, decide_eq_true_eq] at h
      obtain ⟨⟨⟨rfl, h1⟩, h3⟩, h4⟩ := h
      exact both (fun _ => rfl) (s_tupN (gl_of h1) (g.bt _ (by decide +kernel)) (snd_E a X g _ h4).1 h3)
    · cases h
  | .bltI .tuple (.rev a), X, g, e, h => by
    simp only [chkE] at h
    rw [Bool.and_eq_true] at h
    obtain ⟨hcal, h⟩ := h
    split at h
    · rw [Bool.and_eq_true, Bool.and_eq_true, Bool.and_eq_true, Bool.and_eq_true, Bool.and_eq_true, decide_eq_true_eq, decide_eq_true_eq] at h
      obtain ⟨⟨⟨⟨⟨rfl, h1⟩, rfl⟩, h2⟩, h3⟩, h4⟩ := h
      exact both (fun _ => rfl) (s_tupRev (g.calm hcal) (gl_of h1) (g.bt _ (by decide +kernel)) (gl_of h2) (g.bt _ (by decide +kernel)) (snd_E a X g _ h4).1 h3)
    · cases h
  | .bltI .list (.rev a), X, g, e, h => by
    simp only [chkE] at h
    rw [Bool.and_eq_true] at h
    obtain ⟨hcal, h⟩ := h
    split at h
    · rw [Bool.and_eq_true, Bool.and_eq_true, Bool.and_eq_true, Bool.and_eq_true, Bool.and_eq_true, decide_eq_true_eq, decide_eq_true_eq] at h
      obtain ⟨⟨⟨⟨⟨rfl, h1⟩, rfl⟩, h2⟩, h3⟩, h4⟩ := h
      exact both (fun _ => rfl) (s_lstRev (g.calm hcal) (gl_of h1) (g.bt _ (by decide +kernel)) (gl_of h2) (g.bt _ (by decide +kernel)) (snd_E a X g _ h4).1 h3)
    · cases h
  | .bltI .tuple (.rng (.cons a .nil)), X, g, e, h => by
    simp only [chkE] at h
    rw [Bool.and_eq_true] at h
    obtain ⟨hcal, h⟩ := h
    split at h
    · rw [Bool.and_eq_true, Bool.and_eq_true, Bool.and_eq_true, Bool.and_eq_true, Bool.and_eq_true, decide_eq_true_eq, decide_eq_true_eq] at h
      obtain ⟨⟨⟨⟨⟨rfl, h1⟩, rfl⟩, h2⟩, h3⟩, h4⟩ := h
      exact both (fun _ => rfl) (s_tupRg (g.calm hcal) (gl_of h1) (g.bt _ (by decide +kernel)) (gl_of h2) (g.bt _ (by decide +kernel)) (snd_E a X g _ h4).1 h3)
    · cases h
  | .bltI .len _, X, g, e, h => by simp only [chkE] at h; cases h
  | .bltI .sorted _, X, g, e, h => by simp only [chkE] at h; cases h
  | .bltI .sum _, X, g, e, h => by simp only [chkE] at h; cases h
  | .bltI .max _, X, g, e, h => by simp only [chkE] at h; cases h
  | .bltI .min _, X, g, e, h => by simp only [chkE] at h; cases h
  | .bltI .set _, X, g, e, h => by simp only [chkE] at h; cases h
  | .bltI .any _, X, g, e, h => by simp only [chkE] at h; cases h
  | .bltI .all _, X, g, e, h => by simp only [chkE] at h; cases h
  | .bltI .int _, X, g, e, h => by simp only [chkE] at h; cases h
  | .bltI .str _, X, g, e, h => by simp only [chkE] at h; cases h
  | .bltI .tuple (.seq _), X, g, e, h => by simp only [chkE] at h; cases h
  | .bltI .tuple (.enum _), X, g, e, h => by simp only [chkE] at h; cases h
  | .bltI .tuple (.rng .nil), X, g, e, h => by simp only [chkE] at h; cases h
  | .bltI .tuple (.rng (.cons _ (.cons _ _))), X, g, e, h => by simp only [chkE] at h; cases h
  | .bltI .list (.seq _), X, g, e, h => by simp only [chkE] at h; cases h
  | .bltI .list (.enum _), X, g, e, h => by simp only [chkE] at h; cases h
  | .bltI .list (.rng _), X, g, e, h => by simp only [chkE] at h; cases h
  | .isi a t, X, g, e, h => by
    simp only [chkE] at h
    split at h
    · rw [Bool.and_eq_true, Bool.and_eq_true, Bool.and_eq_true, Bool.and_eq_true, Bool.and_eq_true, Bool.and_eq_true, decide_eq_true_eq, decide_eq_true_eq, Bool.not_eq_true'] at h
      obtain ⟨⟨⟨⟨⟨⟨rfl, h1⟩, rfl⟩, h2⟩, h3⟩, h4⟩, h5⟩ := h
      exact both (fun _ => rfl) (s_isi h2 (gl_of h1) (g.bt _ (by decide +kernel)) (gl_of h3) (g.bt _ (ty_free t h2)) (snd_E a X g _ h5).1 h4)
    · cases h
  | .mt m a es, X, g, e, h => by
    cases m <;> try (simp [chkE] at h; done)
    · cases a <;> try (simp [chkE] at h; done)
      rename_i i
      match es, h with
      | .cons a .nil, h =>
        simp only [chkE] at h
        split at h
        · rw [Bool.and_eq_true, Bool.and_eq_true, Bool.and_eq_true, Bool.and_eq_true, decide_eq_true_eq] at h
          obtain ⟨⟨⟨⟨h1, rfl⟩, h2⟩, h3⟩, h4⟩ := h
          obtain ⟨v1, v2, v3, v4⟩ := name_of (X := X) h1
          exact both (fun _ => rfl) (s_get1 g.hu (s_var (g.N ▸ v1) v2 v3 v4) (snd_E a X g _ h4).1 h2 h3)
        · cases h
      | .cons a (.cons b .nil), h =>
        simp only [chkE] at h
        split at h
        · rw [Bool.and_eq_true, Bool.and_eq_true, Bool.and_eq_true, Bool.and_eq_true, Bool.and_eq_true, Bool.and_eq_true, decide_eq_true_eq] at h
          obtain ⟨⟨⟨⟨⟨⟨h1, rfl⟩, h2⟩, h2'⟩, h3⟩, h4⟩, h5⟩ := h
          obtain ⟨v1, v2, v3, v4⟩ := name_of (X := X) h1
          exact both (fun _ => rfl) (s_get2 g.hu (s_var (g.N ▸ v1) v2 v3 v4) (snd_E a X g _ h4).1 (snd_E b X g _ h5).1 h2 h2' h3)
        · cases h
      | .nil, h => simp [chkE] at h
      | .cons _ (.cons _ (.cons _ _)), h => simp [chkE] at h
    · cases a <;> try (simp [chkE] at h; done)
      rename_i i
      match es, h with
      | .nil, h =>
        simp only [chkE] at h
        rw [Bool.and_eq_true] at h
        obtain ⟨hcal, h⟩ := h
        split at h
        · rw [Bool.and_eq_true, Bool.and_eq_true, Bool.and_eq_true, Bool.and_eq_true, decide_eq_true_eq, decide_eq_true_eq] at h
          obtain ⟨⟨⟨⟨rfl, h1⟩, h2⟩, rfl⟩, h3⟩ := h
          obtain ⟨v1, v2, v3, v4⟩ := name_of (X := X) h2
          exact both (fun _ => rfl) (s_vals (g.calm hcal) (gl_of h1) (g.bt _ (by decide +kernel)) (s_var (g.N ▸ v1) v2 v3 v4) h3)
        · cases h
      | .cons _ _, h => simp [chkE] at h
    · match es, h with
      | .cons b .nil, h =>
        simp only [chkE] at h
        split at h
        · rw [Bool.and_eq_true, Bool.and_eq_true, Bool.and_eq_true, Bool.and_eq_true, Bool.and_eq_true, decide_eq_true_eq] at h
          obtain ⟨⟨⟨⟨⟨h1, rfl⟩, h2⟩, h3⟩, h4⟩, h5⟩ := h
          exact both (fun z => rfl) (s_split (snd_E a X g _ h4).1 (snd_E b X g _ h5).1 h2 (base_text h1) h3)
        · cases h
      | .nil, h => simp [chkE] at h
      | .cons _ (.cons _ _), h => simp [chkE] at h
    · match es, h with
      | .cons b .nil, h =>
        simp only [chkE] at h
        split at h
        · rw [Bool.and_eq_true, Bool.and_eq_true, Bool.and_eq_true, Bool.and_eq_true, Bool.and_eq_true, decide_eq_true_eq] at h
          obtain ⟨⟨⟨⟨⟨h1, rfl⟩, h2⟩, h3⟩, h4⟩, h5⟩ := h
          exact both (fun z => rfl) (s_join (snd_E a X g _ h4).1 (snd_E b X g _ h5).1 h2 (base_text h1) h3)
        · cases h
      | .nil, h => simp [chkE] at h
      | .cons _ (.cons _ _), h => simp [chkE] at h
    · match es, h with
      | .cons b .nil, h =>
        simp only [chkE] at h
        split at h
        · rw [Bool.and_eq_true, Bool.and_eq_true, Bool.and_eq_true, Bool.and_eq_true, Bool.and_eq_true, decide_eq_true_eq] at h
          obtain ⟨⟨⟨⟨⟨h1, rfl⟩, h2⟩, h3⟩, h4⟩, h5⟩ := h
          exact both (fun z => rfl) (s_part (snd_E a X g _ h4).1 (snd_E b X g _ h5).1 h2 (base_text h1) h3)
        · cases h
      | .nil, h => simp [chkE] at h
      | .cons _ (.cons _ _), h => simp [chkE] at h
    · cases a <;> try (simp [chkE] at h; done)
      rename_i i
      match es, h with
      | .cons a .nil, h =>
        simp only [chkE] at h
        split at h
        · rw [Bool.and_eq_true, Bool.and_eq_true, Bool.and_eq_true, Bool.and_eq_true, decide_eq_true_eq] at h
          obtain ⟨⟨⟨⟨h1, rfl⟩, h2⟩, h3⟩, h4⟩ := h
          obtain ⟨v1, v2, v3, v4⟩ := name_of (X := X) h1
          exact both (fun _ => rfl) (s_index (s_var (g.N ▸ v1) v2 v3 v4) (snd_E a X g _ h4).1 h2 h3)
        · cases h
      | .nil, h => simp [chkE] at h
      | .cons _ (.cons _ _), h => simp [chkE] at h
  | .mu m a es, X, g, e, h => by
    cases m <;> try (simp [chkE] at h; done)
    cases es with
    | nil =>
      simp only [chkE] at h
      split at h
      · rw [Bool.and_eq_true, Bool.and_eq_true, Bool.and_eq_true, decide_eq_true_eq] at h
        obtain ⟨⟨⟨h1, rfl⟩, h2⟩, h3⟩ := h
        exact both (fun _ => rfl) (s_pop (snd_E a X g _ h3).1 (base_plain h1) h2)
      · cases h
    | cons _ _ => simp [chkE] at h
  | .box a, X, g, e, h => by
    simp only [chkE] at h
    exact ⟨s_box (snd_E a X g _ h).1, fun z => nomatch z⟩
  | .newN, X, g, e, h => by
    simp only [chkE] at h
    split at h
    · exact both (fun _ => rfl) s_newN
    · cases h
  | .srt a, X, g, e, h => by
    simp only [chkE] at h
    rw [Bool.and_eq_true] at h
    obtain ⟨hcal, h⟩ := h
    split at h
    · rw [Bool.and_eq_true, Bool.and_eq_true, Bool.and_eq_true, decide_eq_true_eq] at h
      obtain ⟨⟨⟨rfl, h1⟩, h2⟩, h3⟩ := h
      exact both (fun _ => rfl) (s_srt g.hu (gl_of h1) (g.bt _ (by decide +kernel)) (snd_E a X g _ h3).1 h2)
    · cases h
  | .nget a i, X, g, e, h => by
    simp only [chkE] at h
    split at h
    · rw [Bool.and_eq_true, Bool.and_eq_true] at h
      exact both (fun _ => rfl) (s_nget g.hu (snd_E a X g _ h.1.2).1 (snd_E i X g _ h.2).1 (plain_ix h.1.1))
    · cases h
  | .nhas neg a b, X, g, e, h => by
    simp only [chkE] at h
    split at h
    · rw [Bool.and_eq_true, Bool.and_eq_true, Bool.and_eq_true, decide_eq_true_eq, Bool.not_eq_true'] at h
      obtain ⟨⟨⟨h0, hm⟩, h1⟩, h2⟩ := h
      have q := pc_nhas g.hu neg h0 (snd_E a X g _ h1).1 (snd_E b X g _ h2).1
      refine ⟨pe_cmp q hm, fun _ => pt_w (pt_cmp q hm) fun σ H Q ⟨env, S, r, x, S', RE, RS, ev, k⟩ => ⟨env, S, r, _, S', RE, RS, ev, fun v1 H1 r1 F1 p1 o1 s1 t1 _ => ⟨_, vbl p1, k _ _ s1 t1⟩⟩⟩
    · cases h
  | .cmpD op a b, X, g, e, h => by
    simp only [chkE] at h
    split at h
    · rw [Bool.and_eq_true, Bool.and_eq_true, Bool.and_eq_true, decide_eq_true_eq, Bool.not_eq_true'] at h
      obtain ⟨⟨⟨rfl, h0⟩, h1⟩, h2⟩ := h
      have q := s_cmpD (pos := by assumption) g.hu (op := op) (snd_E a X g _ h1).1 (snd_E b X g _ h2).1 h0
      exact ⟨q.1, fun _ => q.2⟩
    · cases h
  | .compR x j a cs, X, g, e, h => by
    simp only [chkE] at h
    rw [Bool.and_eq_true] at h
    obtain ⟨hcal, h⟩ := h
    split at h
    · rename_i el y p iter ifs as scope pos
      rw [Bool.and_eq_true, Bool.and_eq_true, Bool.and_eq_true, Bool.and_eq_true, Bool.and_eq_true, Bool.and_eq_true, decide_eq_true_eq] at h
      obtain ⟨⟨⟨⟨⟨⟨rfl, h1⟩, h2⟩, h3⟩, h4⟩, h5⟩, h6⟩ := h
      have q := (s_compR (pos := pos) (p1 := p) (g.calm hcal) g.nd (snd_E a X g _ h4).1 (g.N ▸ h1) h2 (fun s H C cl' fp => snd_T cs (blkX X _ s H C cl' fp) (g.blk _ s H C cl' fp) _ h5) (fun s H C cl' fp => (snd_E x (blkX X _ s H C cl' fp) (g.blk _ s H C cl' fp) _ h6).1) h3).1
      exact ⟨q, fun _ => t_val (fun _ => rfl) q⟩
    · cases h
  | .fld a f, X, g, e, h => by
    simp only [chkE] at h
    split at h
    · rw [Bool.and_eq_true, Bool.and_eq_true, decide_eq_true_eq] at h
      obtain ⟨⟨h1, rfl⟩, h2⟩ := h
      exact both (fun _ => rfl) (s_fld g.fld (snd_E a X g _ h2).1 (base_plain h1))
    · cases h
  | .meth a m es, X, g, e, h => by
    simp only [chkE] at h
    rw [Bool.and_eq_true] at h
    obtain ⟨hcal, h⟩ := h
    split at h
    · rename_i o n apos args cpos
      rw [Bool.and_eq_true, Bool.and_eq_true, Bool.and_eq_true, Bool.and_eq_true, Bool.and_eq_true, decide_eq_true_eq, decide_eq_true_eq] at h
      obtain ⟨⟨⟨⟨⟨h1, rfl⟩, h2⟩, h3⟩, h0⟩, h4⟩ := h
      obtain ⟨j, hr1, _, hM, _⟩ := g.room hcal
      have hr := hr1.mono (Nat.le_succ j)
      have hv := (snd_E a X g _ h0).1
      have qa := snd_S es X g _ h4
      have st := chkS_stars h4
      have q : PEv X pg cl (.meth a m es) (.Call (.Attribute o (mthS m) apos) args [] cpos) := by
        cases args with
        | nil =>
          cases es with
          | nil => exact s_meth0 h1 hM hr hv h2
          | cons c cs => simp [chkS] at h4
        | cons a args =>
          have st2 := st
          rw [List.all_cons, Bool.and_eq_true] at st
          exact s_meth h1 hM hr hv qa (star_one st.1 _ _) (star_plain st.2) st2 h3 h2
      exact both (fun _ => rfl) q
    · cases h
  | .make c m es, X, g, e, h => by
    simp only [chkE] at h
    rw [Bool.and_eq_true] at h
    obtain ⟨hcal, h⟩ := h
    split at h
    · rename_i x p a args pos
      rw [Bool.and_eq_true, Bool.and_eq_true, Bool.and_eq_true, Bool.and_eq_true, decide_eq_true_eq, decide_eq_true_eq] at h
      obtain ⟨⟨⟨⟨rfl, hm⟩, h1⟩, h2⟩, h3⟩ := h
      obtain ⟨j, hr1, _, _, hK⟩ := g.room hcal
      have st := chkS_stars h3
      rw [List.all_cons, Bool.and_eq_true] at st
      have q : PEv X pg cl (.make c m es) (.Call (.Name (clsS c) p) (a :: args) [] pos) := by
        cases hf : pg.meth c m with
        | none =>
          refine pe_w (PE.never (.Call (.Name (clsS c) p) (a :: args) [] pos)) fun σ H Q ⟨env, S, r, x, S', RE, RS, ev, k⟩ => ?_
          simp only [evE, hf, of, bind_stuck] at ev
          cases ev
        | some f =>
          obtain ⟨hg, hk⟩ := hK c m f hf hm
          exact s_make hf hk hr1 (gl_of h1) hg (snd_S es X g _ h3) (dbg_of h2).1 (star_one st.1 _ _) (star_plain st.2)
      exact both (fun _ => rfl) q
    · cases h
  | .callM c m es, X, g, e, h => by
    simp only [chkE] at h
    rw [Bool.and_eq_true] at h
    obtain ⟨hcal, h⟩ := h
    split at h
    · rename_i x p n apos a args pos
      rw [Bool.and_eq_true, Bool.and_eq_true, Bool.and_eq_true, Bool.and_eq_true, Bool.and_eq_true, Bool.and_eq_true, Bool.and_eq_true, decide_eq_true_eq, decide_eq_true_eq, decide_eq_true_eq] at h
      obtain ⟨⟨⟨⟨⟨⟨⟨rfl, rfl⟩, h0⟩, h1⟩, h2⟩, h3⟩, h5⟩, h4⟩ := h
      obtain ⟨j, hr, hK⟩ := g.cm hcal
      have st2 := chkS_stars h4
      have st := st2
      rw [List.all_cons, Bool.and_eq_true] at st
      have q : PEv X pg cl (.callM c m es) (.Call (.Attribute (.Name (clsS c) p) (mthS m) apos) (a :: args) [] pos) := by
        cases hf : pg.meth c m with
        | none =>
          refine pe_w (PE.never (.Call (.Attribute (.Name (clsS c) p) (mthS m) apos) (a :: args) [] pos)) fun σ H Q ⟨env, S, r, x, S', RE, RS, ev, k⟩ => ?_
          simp only [evE, hf, of, bind_stuck] at ev
          cases ev
        | some f =>
          obtain ⟨hg, hk⟩ := hK c m f h0 hf
          exact s_callM hf hk hr (gl_of h1) hg (snd_S es X g _ h4) (dbg_of h2).1 (star_one st.1 _ _) (star_plain st.2) st2 h5 h3
      exact both (fun _ => rfl) q
    · cases h
  | .nx a, X, g, e, h => by
    simp only [chkE] at h
    rw [Bool.and_eq_true] at h
    have q := snd_E a X g e h.2
    refine ⟨pe_w q.1 fun σ H Q z => nx_imp z, fun z => pt_w (q.2 z) fun σ H Q ⟨env, S, r, x, S', RE, RS, ev, k⟩ => ⟨env, S, r, x, S', RE, RS, nox_of (by rw [evE] at ev; exact ev), k⟩⟩
  | .isx i c, X, g, e, h => by
    simp only [chkE] at h
    split at h
    · rw [Bool.and_eq_true, Bool.and_eq_true, Bool.and_eq_true, Bool.and_eq_true, Bool.and_eq_true, Bool.and_eq_true, decide_eq_true_eq, decide_eq_true_eq] at h
      obtain ⟨⟨⟨⟨⟨⟨rfl, h1⟩, h2⟩, rfl⟩, h3⟩, h4⟩, h5⟩ := h
      obtain ⟨v1, v2, v3, v4⟩ := name_of (X := X) h2
      exact both (fun _ => rfl) (s_isx g.xc g.xe h3 (gl_of h1) (g.bt _ (by decide +kernel)) (gl_of h4) (dbg_of h5).1 (pe_var (g.N ▸ v1) v2 v3 v4))
    · cases h
theorem snd_S : ∀ (cs : Es) (X : Cx) (g : Gv X pg cl k) (es : List Expr), chkS k cs X.env.scope es = true → PA X es (TAv X.K X.w (evS pg cl cs) false)
  | .nil, X, g, es, h => by
    simp only [chkS, List.isEmpty_iff] at h
    subst h
    exact a_nil
  | .cons c cs, X, g, es, h => by
    unfold chkS at h
    split at h
    · rw [Bool.and_eq_true, Bool.and_eq_true] at h
      exact a_cons (snd_E c X g _ h.1.2).1 (snd_S cs X g _ h.2) (star_one h.1.1 _ _)
    · cases h
theorem snd_K : ∀ (cs : Es) (X : Cx) (g : Gv X pg cl k) (es : List Expr), chkS k cs X.env.scope es = true → PA X es (TAv X.K X.w (evK pg cl cs) true)
  | .nil, X, g, es, h => by
    simp only [chkS, List.isEmpty_iff] at h
    subst h
    exact k_nil
  | .cons c cs, X, g, es, h => by
    unfold chkS at h
    split at h
    · rw [Bool.and_eq_true, Bool.and_eq_true] at h
      exact k_cons (snd_E c X g _ h.1.2).1 (snd_K cs X g _ h.2) (star_one h.1.1 _ _)
    · cases h
theorem snd_And : ∀ (cs : Es) (X : Cx) (g : Gv X pg cl k) (es : List Expr) (pos : Pos), chkB k cs X.env.scope es = true → PE X (.BoolOp .And es pos) (TEv X.K X.w (evAnd pg cl cs) true) ∧ PW X (.BoolOp .And es pos) (TTv X.K X.w (evAnd pg cl cs))
  | .nil, X, g, es, pos, h => by simp only [chkB] at h; cases h
  | .cons c cs, X, g, es, pos, h => by
    unfold chkB at h
    split at h
    · rw [Bool.and_eq_true, Bool.and_eq_true] at h
      have q := snd_E c X g _ h.2
      cases cs with
      | nil => exact ⟨s_and1 q.1, t_and1 (q.2 h.1.2)⟩
      | cons _ _ => exact nomatch h.1.1
    · rw [Bool.and_eq_true, Bool.and_eq_true] at h
      have q := snd_E c X g _ h.1.2
      have q2 := snd_And cs X g _ pos h.2
      cases cs with
      | nil => simp only [chkB] at h; exact nomatch h.2
      | cons c2 cs2 => exact ⟨s_and q.1 q2.1, t_and (q.2 h.1.1) q2.2⟩
    · cases h
theorem snd_Or : ∀ (cs : Es) (X : Cx) (g : Gv X pg cl k) (es : List Expr) (pos : Pos), chkB k cs X.env.scope es = true → PE X (.BoolOp .Or es pos) (TEv X.K X.w (evOr pg cl cs) true) ∧ PW X (.BoolOp .Or es pos) (TTv X.K X.w (evOr pg cl cs))
  | .nil, X, g, es, pos, h => by simp only [chkB] at h; cases h
  | .cons c cs, X, g, es, pos, h => by
    unfold chkB at h
    split at h
    · rw [Bool.and_eq_true, Bool.and_eq_true] at h
      have q := snd_E c X g _ h.2
      cases cs with
      | nil => exact ⟨s_or1 q.1, t_or1 (q.2 h.1.2)⟩
      | cons _ _ => exact nomatch h.1.1
    · rw [Bool.and_eq_true, Bool.and_eq_true] at h
      have q := snd_E c X g _ h.1.2
      have q2 := snd_Or cs X g _ pos h.2
      cases cs with
      | nil => simp only [chkB] at h; exact nomatch h.2
      | cons c2 cs2 => exact ⟨s_or q.1 q2.1, t_or (q.2 h.1.1) q2.2⟩
    · cases h
theorem snd_O : ∀ (cs : Es) (X : Cx) (g : Gv X pg cl k) (o : Option Expr), chkO k cs X.env.scope o = true → PO X o (TOv X.K X.w (evO pg cl cs))
  | .nil, X, g, o, h => by
    simp only [chkO, Option.isNone_iff_eq_none] at h
    subst h
    exact o_none
  | .cons c cs, X, g, o, h => by
    unfold chkO at h
    split at h
    · exact o_some (snd_E c X g _ h).1
    · cases h
theorem snd_T : ∀ (cs : Es) (X : Cx) (g : Gv X pg cl k) (es : List Expr), chkT k cs X.env.scope es = true → PTs X es (TCv X.K X.w (evC pg cl cs))
  | .nil, X, g, es, h => by
    simp only [chkT, List.isEmpty_iff] at h
    subst h
    exact pts_nilV
  | .cons c cs, X, g, es, h => by
    unfold chkT at h
    split at h
    · rw [Bool.and_eq_true] at h
      exact pts_oneV ((snd_E c X g _ h.2).2 h.1)
    · cases h
/-- is the source of this walk new -/
theorem snd_I : ∀ (it : It) (X : Cx) (g : Gv X pg cl k) (tg e : Expr), chkI k it X.env.scope tg e = true → PI X tg e (TIv X.K X.w (evI pg cl it) (match it with | .seq a => fresh a | .enum a => fresh a | .rev a => fresh a | .rng _ => true))
  | .seq a, X, g, tg, e, h => by
    simp only [chkI] at h
    exact i_seq (snd_E a X g _ h).1
  | .enum a, X, g, tg, e, h => by
    simp only [chkI] at h
    split at h
    · rw [Bool.and_eq_true, Bool.and_eq_true, Bool.and_eq_true, Bool.and_eq_true, decide_eq_true_eq] at h
      obtain ⟨⟨⟨⟨rfl, h1⟩, h2⟩, h3⟩, h4⟩ := h
      cases tg <;> try (cases h2; done)
      exact i_enum (gl_of h1) (g.bt _ (by decide +kernel)) (snd_E a X g _ h4).1 (star_one h3 [] _)
    · cases h
  | .rev a, X, g, tg, e, h => by
    simp only [chkI] at h
    split at h
    · rw [Bool.and_eq_true, Bool.and_eq_true, Bool.and_eq_true, decide_eq_true_eq] at h
      obtain ⟨⟨⟨rfl, h1⟩, h3⟩, h4⟩ := h
      exact i_rev (gl_of h1) (g.bt _ (by decide +kernel)) (snd_E a X g _ h4).1 (star_one h3 [] _)
    · cases h
  | .rng (.cons a .nil), X, g, tg, e, h => by
    simp only [chkI] at h
    split at h
    · rename_i x p args pos
      rw [Bool.and_eq_true, Bool.and_eq_true, Bool.and_eq_true, Bool.and_eq_true, decide_eq_true_eq] at h
      obtain ⟨⟨⟨⟨rfl, h1⟩, h2⟩, _⟩, _⟩ := h
      cases args with
      | nil => simp [chkS] at h2
      | cons v vs =>
        simp only [chkS, Bool.and_eq_true, List.isEmpty_iff] at h2
        obtain ⟨⟨h3, h4⟩, rfl⟩ := h2
        exact i_rng1 (gl_of h1) (g.bt _ (by decide +kernel)) (snd_E a X g _ h4).1 (star_one h3 [] _)
    · cases h
  | .rng (.cons a (.cons b .nil)), X, g, tg, e, h => by
    simp only [chkI] at h
    split at h
    · rename_i x p args pos
      rw [Bool.and_eq_true, Bool.and_eq_true, Bool.and_eq_true, Bool.and_eq_true, decide_eq_true_eq] at h
      obtain ⟨⟨⟨⟨rfl, h1⟩, h2⟩, _⟩, _⟩ := h
      cases args with
      | nil => simp [chkS] at h2
      | cons v vs =>
        cases vs with
        | nil => simp [chkS] at h2
        | cons u us =>
          simp only [chkS, Bool.and_eq_true, List.isEmpty_iff] at h2
          obtain ⟨⟨h3, h4⟩, ⟨h5, h6⟩, rfl⟩ := h2
          exact i_rng2 (gl_of h1) (g.bt _ (by decide +kernel)) (snd_E a X g _ h4).1 (snd_E b X g _ h6).1 (by rw [star_one h3, star_one h5]; rfl) (star_one h5 [] _)
    · cases h
  | .rng .nil, X, g, tg, e, h => by
    simp only [chkI] at h
    split at h
    · rename_i x p args pos
      simp only [chkS, Bool.and_eq_true, List.isEmpty_iff, decide_eq_true_eq] at h
      obtain ⟨⟨⟨⟨rfl, h1⟩, rfl⟩, h2⟩, _⟩ := h
      simp at h2
    · cases h
  | .rng (.cons a (.cons b (.cons c .nil))), X, g, tg, e, h => by
    simp only [chkI] at h
    split at h
    · rename_i x p args pos
      rw [Bool.and_eq_true, Bool.and_eq_true, Bool.and_eq_true, Bool.and_eq_true, decide_eq_true_eq] at h
      obtain ⟨⟨⟨⟨rfl, h1⟩, h2⟩, _⟩, h3⟩ := h
      match args, h2 with
      | [], h2 => simp [chkS] at h2
      | [_], h2 => simp [chkS] at h2
      | [_, _], h2 => simp [chkS] at h2
      | [v, u, z], h2 =>
        simp only [chkS, Bool.and_eq_true, List.isEmpty_iff] at h2
        obtain ⟨⟨h3, h4⟩, ⟨h5, h6⟩, ⟨h7, h8⟩, _⟩ := h2
        exact i_rng3 (gl_of h1) (g.bt _ (by decide +kernel)) (snd_E a X g _ h4).1 (snd_E b X g _ h6).1 (snd_E c X g _ h8).1 (star_one h3 _ _) (star_one h5 _ _) (star_one h7 [] _)
      | _ :: _ :: _ :: _ :: _, h2 => simp [chkS] at h2
    · cases h
  | .rng (.cons a (.cons b (.cons c (.cons d cs)))), X, g, tg, e, h => by
    simp only [chkI] at h
    split at h
    · rename_i x p args pos
      rw [Bool.and_eq_true, Bool.and_eq_true, Bool.and_eq_true, Bool.and_eq_true, decide_eq_true_eq] at h
      obtain ⟨⟨⟨⟨rfl, h1⟩, h2⟩, _⟩, h3⟩ := h
      match args, h2, h3 with
      | [], h2, _ => simp [chkS] at h2
      | [_], h2, _ => simp [chkS] at h2
      | [_, _], h2, _ => simp [chkS] at h2
      | [_, _, _], h2, _ => simp [chkS] at h2
      | _ :: _ :: _ :: _ :: _, _, h3 => simp at h3
    · cases h
end
end
end Ev

/-! SndZ: codes that never raise. -/
namespace Ev
open PySem

structure NX {α : Type} (r : Res α) : Prop where
  ne : ∀ c S, r ≠ .exc c S
theorem NX.ok {α : Type} (a : α) : NX (.ok a) := ⟨fun _ _ e => nomatch e⟩
theorem NX.stuck {α : Type} : NX (.stuck : Res α) := ⟨fun _ _ e => nomatch e⟩
theorem NX.bind {α β : Type} {r : Res α} {f : α → Res β} (h : NX r) (k : ∀ a, NX (f a)) : NX (r.bind f) := ⟨fun c S e => by
  cases r with
  | ok a => exact (k a).ne c S e
  | exc c' S' => exact h.ne c' S' rfl
  | stuck => cases e⟩
theorem NX.of {α : Type} (o : Option α) : NX (Ev.of o) := ⟨fun c S e => by cases o <;> cases e⟩
theorem NX.guard {α : Type} {b : Bool} {r : Res α} (h : NX r) : NX (guard' b r) := ⟨fun c S e => by
  unfold guard' at e
  split at e
  · exact h.ne c S e
  · cases e⟩
theorem NX.nox {α : Type} (r : Res α) : NX r.nox := ⟨fun c S e => by cases r <;> cases e⟩
theorem NX.isB (v : Val) : NX (isB v) := ⟨fun c S e => by cases v <;> cases e⟩
theorem nx_bin (op : BOp) (a b : Val) : NX (binV op a b) := by unfold binV; repeat (first | exact NX.ok _ | exact NX.stuck | exact NX.of _ | exact NX.isB _ | exact NX.nox _ | assumption | apply NX.guard | apply NX.bind | intro _ | split)
theorem nx_is (a b : Val) : NX (isWhat a b) := by unfold isWhat; repeat (first | exact NX.ok _ | exact NX.stuck | exact NX.of _ | exact NX.isB _ | exact NX.nox _ | assumption | apply NX.guard | apply NX.bind | intro _ | split)
theorem nx_in (a b : Val) : NX (inWhat a b) := by unfold inWhat; repeat (first | exact NX.ok _ | exact NX.stuck | exact NX.of _ | exact NX.isB _ | exact NX.nox _ | assumption | apply NX.guard | apply NX.bind | intro _ | split)
theorem nx_eq (a b : Val) : NX (eqWhat a b) := by unfold eqWhat; repeat (first | exact NX.ok _ | exact NX.stuck | exact NX.of _ | exact NX.isB _ | exact NX.nox _ | assumption | apply NX.guard | apply NX.bind | intro _ | split)
theorem nx_bl {r : Res Bool} (h : NX r) : NX r.bl := NX.bind h fun _ => .ok _
theorem nx_nbl {r : Res Bool} (h : NX r) : NX r.nbl := NX.bind h fun _ => .ok _
theorem nx_cmp (op : COp) (a b : Val) : NX (cmpV op a b) := by
  unfold cmpV
  split <;> first | exact NX.ok _ | exact NX.stuck | exact nx_bl (nx_eq _ _) | exact nx_nbl (nx_eq _ _) | exact nx_bl (nx_is _ _) | exact nx_nbl (nx_is _ _) | exact nx_bl (nx_in _ _) | exact nx_nbl (nx_in _ _)
theorem nx_blt (b : Bt) (vs : List Val) : NX (bltV b vs) := by unfold bltV; repeat (first | exact NX.ok _ | exact NX.stuck | exact NX.of _ | exact NX.isB _ | exact NX.nox _ | assumption | apply NX.guard | apply NX.bind | intro _ | split)
theorem nx_mt (m : Mt) (v : Val) (vs : List Val) : NX (mtV m v vs) := by unfold mtV; repeat (first | exact NX.ok _ | exact NX.stuck | exact NX.of _ | exact NX.isB _ | exact NX.nox _ | assumption | apply NX.guard | apply NX.bind | intro _ | split)
theorem nx_isV (t : Ty) (v : Val) : NX (isV t v) := by unfold isV; repeat (first | exact NX.ok _ | exact NX.stuck | exact NX.of _ | exact NX.isB _ | exact NX.nox _ | assumption | apply NX.guard | apply NX.bind | intro _ | split)
theorem nx_ix (v i : Val) : NX (ixV v i) := by unfold ixV; repeat (first | exact NX.ok _ | exact NX.stuck | exact NX.of _ | exact NX.isB _ | exact NX.nox _ | assumption | apply NX.guard | apply NX.bind | intro _ | split)
theorem nx_sl (v : Val) (a b : Option Int) : NX (slV v a b) := by unfold slV; repeat (first | exact NX.ok _ | exact NX.stuck | exact NX.of _ | exact NX.isB _ | exact NX.nox _ | assumption | apply NX.guard | apply NX.bind | intro _ | split)
theorem nx_rng (vs : List Val) : NX (rngV vs) := by unfold rngV; repeat (first | exact NX.ok _ | exact NX.stuck | exact NX.of _ | exact NX.isB _ | exact NX.nox _ | assumption | apply NX.guard | apply NX.bind | intro _ | split)
theorem nx_seq (v : Val) : NX (seqV v) := by unfold seqV; repeat (first | exact NX.ok _ | exact NX.stuck | exact NX.of _ | exact NX.isB _ | exact NX.nox _ | assumption | apply NX.guard | apply NX.bind | intro _ | split)
theorem nx_seqE (v : Val) : NX (seqE v) := by unfold seqE; repeat (first | exact NX.ok _ | exact NX.stuck | exact NX.of _ | exact NX.isB _ | exact NX.nox _ | assumption | apply NX.guard | apply NX.bind | intro _ | split)
theorem nx_seqW (v : Val) : NX (seqW v) := by unfold seqW; repeat (first | exact NX.ok _ | exact NX.stuck | exact NX.of _ | exact NX.isB _ | exact NX.nox _ | assumption | apply NX.guard | apply NX.bind | intro _ | split)
theorem nx_seqL (v : Val) : NX (seqL v) := by unfold seqL; repeat (first | exact NX.ok _ | exact NX.stuck | exact NX.of _ | exact NX.isB _ | exact NX.nox _ | assumption | apply NX.guard | apply NX.bind | intro _ | split)
theorem nx_boxO (v : Val) : NX (boxO v) := by unfold boxO; repeat (first | exact NX.ok _ | exact NX.stuck | exact NX.of _ | exact NX.isB _ | exact NX.nox _ | assumption | apply NX.guard | apply NX.bind | intro _ | split)
theorem nx_nkvs (S : Sto) (v : Val) : NX (nkvs S v) := by unfold nkvs; repeat (first | exact NX.ok _ | exact NX.stuck | exact NX.of _ | exact NX.isB _ | exact NX.nox _ | assumption | apply NX.guard | apply NX.bind | intro _ | split)
theorem nx_lstR (S : Sto) (v : Val) : NX (lstR S v) := by unfold lstR; repeat (first | exact NX.ok _ | exact NX.stuck | exact NX.of _ | exact NX.isB _ | exact NX.nox _ | assumption | apply NX.guard | apply NX.bind | intro _ | split)
theorem nx_insR (S : Sto) (v : Val) : NX (insR S v) := by unfold insR; repeat (first | exact NX.ok _ | exact NX.stuck | exact NX.of _ | exact NX.isB _ | exact NX.nox _ | assumption | apply NX.guard | apply NX.bind | intro _ | split)
theorem nx_stay {α : Type} {S : Sto} {o : Nat × List Val} {r : Res α} (h : NX r) : NX (stay S o r) := ⟨fun c S' e => by
  unfold stay at e
  split at e
  · exact h.ne c S' e
  · cases e⟩
theorem nx_muE (m : Mu) (xs ys : List Val) : NX (muE m xs ys) := by unfold muE; repeat (first | exact NX.ok _ | exact NX.stuck | exact NX.of _ | exact NX.isB _ | exact NX.nox _ | assumption | apply NX.guard | apply NX.bind | intro _ | split)
theorem nx_muV (m : Mu) (xs ys : List Val) : NX (muV m xs ys) := by unfold muV; repeat (first | exact NX.ok _ | exact NX.stuck | exact NX.of _ | exact NX.isB _ | exact NX.nox _ | assumption | apply NX.guard | apply NX.bind | intro _ | split)
theorem nx_muR (m : Mu) (xs ys : List Val) : NX (muR m xs ys) := by unfold muR; repeat (first | exact NX.ok _ | exact NX.stuck | exact NX.of _ | exact NX.isB _ | exact NX.nox _ | assumption | apply NX.guard | apply NX.bind | intro _ | split)
theorem nx_excR (S : Sto) (v : Option (Option Val)) : NX (excR S v) := by unfold excR; repeat (first | exact NX.ok _ | exact NX.stuck | exact NX.of _ | exact NX.isB _ | exact NX.nox _ | assumption | apply NX.guard | apply NX.bind | intro _ | split)
theorem nx_putO (S : Sto) (a k v : Val) : NX (putO S a k v) := by unfold putO; repeat (first | exact NX.ok _ | exact NX.stuck | exact NX.of _ | exact NX.isB _ | exact NX.nox _ | assumption | apply NX.guard | apply NX.bind | intro _ | split)
theorem nx_mapR {α : Type} {f : α → Sto → Res (Option Val × Sto)} (h : ∀ x S, NX (f x S)) : ∀ (l : List α) (S : Sto), NX (mapR f l S)
  | [], S => .ok _
  | x :: l, S => by
    rw [mapR]
    exact NX.bind (h x S) fun p => NX.bind (nx_mapR h l p.2) fun q => .ok _

mutual
def nxE (fo mo : Nat → Bool) : E → Bool
  | .var _ => true | .int _ => true | .str _ => true | .bl _ => true | .non => true | .glob _ => true | .newN => true | .isx _ _ => true | .nx _ => true
  | .bin _ a b => nxE fo mo a && nxE fo mo b
  | .neg a => nxE fo mo a
  | .cmp _ a b => nxE fo mo a && nxE fo mo b
  | .chain _ _ a b c => nxE fo mo a && nxE fo mo b && nxE fo mo c
  | .andE es => nxS fo mo es
  | .orE es => nxS fo mo es
  | .not a => nxE fo mo a
  | .ifx a b c => nxE fo mo a && nxE fo mo b && nxE fo mo c
  | .tup es => nxS fo mo es
  | .lst es => nxS fo mo es
  | .dic _ es => nxS fo mo es
  | .ix a b => nxE fo mo a && nxE fo mo b
  | .sl a lo hi => nxE fo mo a && nxS fo mo lo && nxS fo mo hi
  | .comp x _ it cs => nxE fo mo x && nxI fo mo it && nxS fo mo cs
  | .call f es => fo f && nxS fo mo es
  | .blt _ es => nxS fo mo es
  | .bltI _ it => nxI fo mo it
  | .isi a _ => nxE fo mo a
  | .mt _ a es => nxE fo mo a && nxS fo mo es
  | .mu _ a es => nxE fo mo a && nxS fo mo es
  | .box a => nxE fo mo a
  | .fld a _ => nxE fo mo a
  | .meth a m es => mo m && nxE fo mo a && nxS fo mo es
  | .make _ m es => mo m && nxS fo mo es
  | .nget a b => nxE fo mo a && nxE fo mo b
  | .srt a => nxE fo mo a
  | .nhas _ a b => nxE fo mo a && nxE fo mo b
  | .cmpD _ a b => nxE fo mo a && nxE fo mo b
  | .compR x _ a cs => nxE fo mo x && nxE fo mo a && nxS fo mo cs
  | .callM _ m es => mo m && nxS fo mo es
  | .tupN a => nxE fo mo a
def nxS (fo mo : Nat → Bool) : Es → Bool
  | .nil => true
  | .cons e es => nxE fo mo e && nxS fo mo es
def nxI (fo mo : Nat → Bool) : It → Bool
  | .seq a => nxE fo mo a
  | .rng es => nxS fo mo es
  | .enum a => nxE fo mo a
  | .rev a => nxE fo mo a
end
section
variable {pg : Pg} {cl : CallT} {fo mo : Nat → Bool} (hc : ∀ f, fo f = true → ∀ vs S, NX (cl f vs S)) (hm : ∀ m, mo m = true → ∀ c f, pg.meth c m = some f → fo f = true)
include hc hm
mutual
theorem nx_E : ∀ (e : E), nxE fo mo e = true → ∀ env S, NX (evE pg cl e env S)
  | .var i, _, env, S => by
    rw [evE]
    split
    · exact .ok _
    · exact .stuck
  | .int i, _, env, S => by rw [evE]; exact .ok _
  | .str i, _, env, S => by rw [evE]; exact .ok _
  | .bl i, _, env, S => by rw [evE]; exact .ok _
  | .non, _, env, S => by rw [evE]; exact .ok _
  | .glob i, _, env, S => by rw [evE]; exact NX.bind (.of _) fun v => NX.guard (.ok _)
  | .newN, _, env, S => by rw [evE]; exact .ok _
  | .isx i c, _, env, S => by rw [evE]; exact NX.bind (nx_excR _ _) fun b => NX.guard (.ok _)
  | .nx a, _, env, S => by rw [evE]; exact .nox _
  | .bin op a b, h, env, S => by
    rw [nxE, Bool.and_eq_true] at h
    have h1 := nx_E a h.1; have h2 := nx_E b h.2
    rw [evE]
    exact NX.bind (h1 _ _) fun p => NX.bind (h2 _ _) fun q => NX.bind (nx_bin _ _ _) fun v => .ok _
  | .neg a, h, env, S => by
    rw [nxE] at h
    have h1 := nx_E a h
    rw [evE]
    refine NX.bind (h1 _ _) fun p => ?_
    split
    · exact .ok _
    · exact .stuck
  | .cmp op a b, h, env, S => by
    rw [nxE, Bool.and_eq_true] at h
    have h1 := nx_E a h.1; have h2 := nx_E b h.2
    rw [evE]
    exact NX.bind (h1 _ _) fun p => NX.bind (h2 _ _) fun q => NX.bind (nx_cmp _ _ _) fun v => .ok _
  | .cmpD op a b, h, env, S => by
    rw [nxE, Bool.and_eq_true] at h
    have h1 := nx_E a h.1; have h2 := nx_E b h.2
    rw [evE]
    exact NX.bind (h1 _ _) fun p => NX.bind (h2 _ _) fun q => NX.bind (nx_cmp _ _ _) fun v => .ok _
  | .chain op op' a b c, h, env, S => by
    rw [nxE, Bool.and_eq_true, Bool.and_eq_true] at h
    have h1 := nx_E a h.1.1; have h2 := nx_E b h.1.2; have h3 := nx_E c h.2
    rw [evE]
    refine NX.bind (h1 _ _) fun p => NX.bind (h2 _ _) fun q => NX.bind (nx_cmp _ _ _) fun v => NX.bind (.isB _) fun k => ?_
    split
    · exact NX.bind (h3 _ _) fun r => NX.bind (nx_cmp _ _ _) fun v => .ok _
    · exact .ok _
  | .andE es, h, env, S => by
    rw [nxE] at h
    rw [evE]; exact nx_And es h env S
  | .orE es, h, env, S => by
    rw [nxE] at h
    rw [evE]; exact nx_Or es h env S
  | .not a, h, env, S => by
    rw [nxE] at h
    have h1 := nx_E a h
    rw [evE]
    exact NX.bind (h1 _ _) fun p => NX.bind (.isB _) fun b => .ok _
  | .ifx a b c, h, env, S => by
    rw [nxE, Bool.and_eq_true, Bool.and_eq_true] at h
    have h1 := nx_E a h.1.1; have h2 := nx_E b h.1.2; have h3 := nx_E c h.2
    rw [evE]
    refine NX.bind (h1 _ _) fun p => NX.bind (.isB _) fun k => ?_
    split
    · exact h2 _ _
    · exact h3 _ _
  | .tup es, h, env, S => by
    rw [nxE] at h
    have h1 := nx_K es h
    rw [evE]
    exact NX.bind (h1 _ _) fun p => .ok _
  | .lst es, h, env, S => by
    rw [nxE] at h
    have h1 := nx_K es h
    rw [evE]
    exact NX.bind (h1 _ _) fun p => .ok _
  | .dic t es, h, env, S => by
    rw [nxE] at h
    rw [evE]; exact nx_D t es h env S []
  | .ix a b, h, env, S => by
    rw [nxE, Bool.and_eq_true] at h
    have h1 := nx_E a h.1; have h2 := nx_E b h.2
    rw [evE]
    exact NX.bind (h1 _ _) fun p => NX.bind (h2 _ _) fun q => NX.bind (nx_ix _ _) fun v => .ok _
  | .sl a lo hi, h, env, S => by
    rw [nxE, Bool.and_eq_true, Bool.and_eq_true] at h
    have h1 := nx_E a h.1.1; have h2 := nx_O lo h.1.2; have h3 := nx_O hi h.2
    rw [evE]
    exact NX.bind (h1 _ _) fun p => NX.bind (h2 _ _) fun q => NX.bind (h3 _ _) fun r => NX.bind (nx_sl _ _ _) fun v => .ok _
  | .comp x j it cs, h, env, S => by
    rw [nxE, Bool.and_eq_true, Bool.and_eq_true] at h
    have h1 := nx_E x h.1.1; have h2 := nx_I it h.1.2; have h3 := nx_C cs h.2
    rw [evE]
    exact NX.bind (h2 _ _) fun p => NX.bind (nx_mapR (fun v S => NX.bind (h3 _ _) fun q => by
      split
      · exact NX.bind (h1 _ _) fun r => NX.guard (.ok _)
      · exact .ok _) _ _) fun q => .ok _
  | .compR x j a cs, h, env, S => by
    rw [nxE, Bool.and_eq_true, Bool.and_eq_true] at h
    have h1 := nx_E x h.1.1; have h2 := nx_E a h.1.2; have h3 := nx_C cs h.2
    rw [evE]
    exact NX.bind (h2 _ _) fun p => NX.bind (nx_lstR _ _) fun o => NX.bind (nx_mapR (fun v S => nx_stay (NX.bind (h3 _ _) fun q => by
      split
      · exact NX.bind (h1 _ _) fun r => NX.guard (.ok _)
      · exact .ok _)) _ _) fun q => nx_stay (.ok _)
  | .call f es, h, env, S => by
    rw [nxE, Bool.and_eq_true] at h
    have h1 := nx_S es h.2; have h2 := hc f h.1
    rw [evE]
    exact NX.bind (h1 _ _) fun p => h2 _ _
  | .blt b es, h, env, S => by
    rw [nxE] at h
    have h1 := nx_S es h
    rw [evE]
    exact NX.bind (h1 _ _) fun p => NX.bind (nx_blt _ _) fun v => .ok _
  | .tupN a, h, env, S => by
    rw [nxE] at h
    have h1 := nx_E a h
    rw [evE]
    refine NX.bind (h1 _ _) fun p => ?_
    split
    · exact .ok _
    · exact .stuck
  | .bltI b (.rev a), h, env, S => by
    rw [nxE, nxI] at h
    have h1 := nx_E a h
    rw [evE]
    exact NX.bind (h1 _ _) fun p => NX.bind (nx_seqW _) fun l => NX.bind (nx_blt _ _) fun v => .ok _
  | .bltI b (.rng es), h, env, S => by
    rw [nxE, nxI] at h
    have h1 := nx_S es h
    rw [evE]
    exact NX.bind (h1 _ _) fun p => NX.bind (nx_rng _) fun l => NX.bind (nx_blt _ _) fun v => .ok _
  | .bltI b (.seq a), h, env, S => by
    rw [evE.eq_def]
    exact .stuck
  | .bltI b (.enum a), h, env, S => by
    rw [evE.eq_def]
    exact .stuck
  | .isi a t, h, env, S => by
    rw [nxE] at h
    have h1 := nx_E a h
    rw [evE]
    exact NX.bind (h1 _ _) fun p => NX.bind (nx_isV _ _) fun b => .ok _
  | .mt m a es, h, env, S => by
    rw [nxE, Bool.and_eq_true] at h
    have h1 := nx_E a h.1; have h2 := nx_S es h.2
    rw [evE]
    exact NX.bind (h1 _ _) fun p => NX.guard (NX.bind (h2 _ _) fun q => NX.bind (nx_mt _ _ _) fun v => .ok _)
  | .mu m a es, h, env, S => by
    rw [nxE, Bool.and_eq_true] at h
    have h1 := nx_E a h.1; have h2 := nx_S es h.2
    rw [evE]
    exact NX.bind (h1 _ _) fun p => NX.bind (nx_lstR _ _) fun _ => NX.bind (h2 _ _) fun q => NX.bind (nx_lstR _ _) fun o => NX.bind (nx_muE _ _ _) fun u => .ok _
  | .box a, h, env, S => by
    rw [nxE] at h
    have h1 := nx_E a h
    rw [evE]
    exact NX.bind (h1 _ _) fun p => NX.bind (nx_boxO _) fun o => NX.guard (.ok _)
  | .fld a f, h, env, S => by
    rw [nxE] at h
    have h1 := nx_E a h
    rw [evE]
    exact NX.bind (h1 _ _) fun p => NX.bind (nx_insR _ _) fun o => NX.guard (NX.bind (.of _) fun v => .ok _)
  | .nget a b, h, env, S => by
    rw [nxE, Bool.and_eq_true] at h
    have h1 := nx_E a h.1; have h2 := nx_E b h.2
    rw [evE]
    exact NX.bind (h1 _ _) fun p => NX.bind (h2 _ _) fun q => NX.bind (nx_nkvs _ _) fun kvs => NX.guard (NX.bind (.of _) fun v => .ok _)
  | .srt a, h, env, S => by
    rw [nxE] at h
    have h1 := nx_E a h
    rw [evE]
    refine NX.bind (h1 _ _) fun p => ?_
    split
    · exact NX.guard (.ok _)
    · exact .stuck
  | .nhas n a b, h, env, S => by
    rw [nxE, Bool.and_eq_true] at h
    have h1 := nx_E a h.1; have h2 := nx_E b h.2
    rw [evE]
    exact NX.bind (h1 _ _) fun p => NX.bind (h2 _ _) fun q => NX.bind (nx_nkvs _ _) fun kvs => NX.guard (.ok _)
  | .meth a m es, h, env, S => by
    rw [nxE, Bool.and_eq_true, Bool.and_eq_true] at h
    have h1 := nx_E a h.1.2; have h2 := nx_S es h.2
    rw [evE]
    refine NX.bind (h1 _ _) fun p => NX.bind (nx_insR _ _) fun o => ?_
    cases e : pg.meth o.2.1 m with
    | none => exact NX.stuck
    | some f =>
      rw [of_some, bind_ok]
      exact NX.bind (h2 _ _) fun q => hc f (hm m h.1.1 _ _ e) _ _
  | .make c m es, h, env, S => by
    rw [nxE, Bool.and_eq_true] at h
    have h2 := nx_S es h.2
    rw [evE]
    cases e : pg.meth c m with
    | none => exact NX.stuck
    | some f =>
      rw [of_some, bind_ok]
      exact NX.bind (h2 _ _) fun q => NX.bind (hc f (hm m h.1 _ _ e) _ _) fun u => NX.guard (.ok _)
  | .callM c m es, h, env, S => by
    rw [nxE, Bool.and_eq_true] at h
    have h2 := nx_S es h.2
    rw [evE]
    cases e : pg.meth c m with
    | none => exact NX.stuck
    | some f =>
      rw [of_some, bind_ok]
      exact NX.bind (h2 _ _) fun q => hc f (hm m h.1 _ _ e) _ _
theorem nx_S : ∀ (es : Es), nxS fo mo es = true → ∀ env S, NX (evS pg cl es env S)
  | .nil, _, env, S => by rw [evS]; exact .ok _
  | .cons e es, h, env, S => by
    rw [nxS, Bool.and_eq_true] at h
    rw [evS]
    exact NX.bind (nx_E e h.1 env S) fun p => NX.bind (nx_S es h.2 env p.2) fun q => .ok _
theorem nx_K : ∀ (es : Es), nxS fo mo es = true → ∀ env S, NX (evK pg cl es env S)
  | .nil, _, env, S => by rw [evK]; exact .ok _
  | .cons e es, h, env, S => by
    rw [nxS, Bool.and_eq_true] at h
    rw [evK]
    exact NX.bind (nx_E e h.1 env S) fun p => NX.guard (NX.bind (nx_K es h.2 env p.2) fun q => .ok _)
theorem nx_C : ∀ (es : Es), nxS fo mo es = true → ∀ env S, NX (evC pg cl es env S)
  | .nil, _, env, S => by rw [evC]; exact .ok _
  | .cons e es, h, env, S => by
    rw [nxS, Bool.and_eq_true] at h
    rw [evC]
    exact NX.bind (nx_E e h.1 env S) fun p => NX.bind (NX.isB _) fun q => .ok _
theorem nx_O : ∀ (es : Es), nxS fo mo es = true → ∀ env S, NX (evO pg cl es env S)
  | .nil, _, env, S => by rw [evO]; exact .ok _
  | .cons e es, h, env, S => by
    rw [nxS, Bool.and_eq_true] at h
    rw [evO]
    refine NX.bind (nx_E e h.1 env S) fun p => ?_
    split
    · exact .ok _
    · exact .stuck
theorem nx_And : ∀ (es : Es), nxS fo mo es = true → ∀ env S, NX (evAnd pg cl es env S)
  | .nil, _, env, S => by rw [evAnd]; exact .stuck
  | .cons e .nil, h, env, S => by
    rw [nxS, Bool.and_eq_true] at h
    rw [evAnd]
    exact NX.bind (nx_E e h.1 env S) fun p => NX.bind (NX.isB _) fun q => .ok _
  | .cons e (.cons e2 es), h, env, S => by
    rw [nxS, Bool.and_eq_true] at h
    rw [evAnd.eq_3 (x_3 := by intro h; cases h)]
    refine NX.bind (nx_E e h.1 env S) fun p => NX.bind (NX.isB _) fun q => ?_
    split
    · exact nx_And (.cons e2 es) h.2 env p.2
    · exact .ok _
theorem nx_Or : ∀ (es : Es), nxS fo mo es = true → ∀ env S, NX (evOr pg cl es env S)
  | .nil, _, env, S => by rw [evOr]; exact .stuck
  | .cons e .nil, h, env, S => by
    rw [nxS, Bool.and_eq_true] at h
    rw [evOr]
    exact NX.bind (nx_E e h.1 env S) fun p => NX.bind (NX.isB _) fun q => .ok _
  | .cons e (.cons e2 es), h, env, S => by
    rw [nxS, Bool.and_eq_true] at h
    rw [evOr.eq_3 (x_3 := by intro h; cases h)]
    refine NX.bind (nx_E e h.1 env S) fun p => NX.bind (NX.isB _) fun q => ?_
    split
    · exact .ok _
    · exact nx_Or (.cons e2 es) h.2 env p.2
theorem nx_D (t : Bool) : ∀ (es : Es), nxS fo mo es = true → ∀ env S acc, NX (evD pg cl t es env S acc)
  | .nil, _, env, S, acc => by rw [evD]; exact .ok _
  | .cons e .nil, h, env, S, acc => by rw [evD]; exact .stuck
  | .cons e (.cons e2 es), h, env, S, acc => by
    rw [nxS, Bool.and_eq_true, nxS, Bool.and_eq_true] at h
    rw [evD]
    exact NX.bind (nx_E e h.1 env S) fun p => NX.bind (nx_E e2 h.2.1 env p.2) fun q => NX.guard (nx_D t es h.2.2 env q.2 _)
theorem nx_I : ∀ (it : It), nxI fo mo it = true → ∀ env S, NX (evI pg cl it env S)
  | .seq a, h, env, S => by
    rw [nxI] at h
    rw [evI]
    exact NX.bind (nx_E a h env S) fun p => NX.bind (nx_seq _) fun q => .ok _
  | .rng es, h, env, S => by
    rw [nxI] at h
    rw [evI]
    exact NX.bind (nx_S es h env S) fun p => NX.bind (nx_rng _) fun q => .ok _
  | .enum a, h, env, S => by
    rw [nxI] at h
    rw [evI]
    exact NX.bind (nx_E a h env S) fun p => NX.bind (nx_seqE _) fun q => .ok _
  | .rev a, h, env, S => by
    rw [nxI] at h
    rw [evI]
    exact NX.bind (nx_E a h env S) fun p => NX.bind (nx_seqL _) fun q => .ok _
end

structure NXO (o : Out) : Prop where
  ne : ∀ c env S, o ≠ .exc c env S
omit hc hm in
theorem NXO.ok (f : Fl) (env : Env) (S : Sto) : NXO (.ok f env S) := ⟨fun _ _ _ e => nomatch e⟩
omit hc hm in
theorem NXO.stuck : NXO .stuck := ⟨fun _ _ _ e => nomatch e⟩
omit hc hm in
theorem NXO.then {α : Type} {r : Res α} {env : Env} {k : α → Out} (h : NX r) (hk : ∀ a, NXO (k a)) : NXO (r.then env k) := ⟨fun c e S q => by
  cases r with
  | ok a => exact (hk a).ne c e S q
  | exc c' S' => exact h.ne c' S' rfl
  | stuck => cases q⟩
omit hc hm in
theorem NXO.seq {o : Out} {k : Env → Sto → Out} (h : NXO o) (hk : ∀ env S, NXO (k env S)) : NXO (o.seq k) := ⟨fun c e S q => by
  cases o with
  | ok f env S' =>
    cases f with
    | nx => exact (hk env S').ne c e S q
    | rt v => cases q
  | exc c' e' S' => exact h.ne c' e' S' rfl
  | stuck => cases q⟩
omit hc hm in
theorem nxo_forL {α : Type} {f : α → Env → Sto → Out} (h : ∀ x env S, NXO (f x env S)) : ∀ (l : List α) (env : Env) (S : Sto), NXO (forL f l env S)
  | [], env, S => .ok _ _ _
  | x :: l, env, S => by rw [forL]; exact (h x env S).seq fun env S => nxo_forL h l env S
omit hc hm in
theorem nxo_forRL {α : Type} {f : α → Env → Sto → Out} {o : Nat × List Val} (h : ∀ x env S, NXO (f x env S)) : ∀ (l : List α) (env : Env) (S : Sto), NXO (forRL f o l env S)
  | [], env, S => by rw [forRL]; split; exact .ok _ _ _; exact .stuck
  | x :: l, env, S => by rw [forRL]; split; exact (h x env S).seq fun env S => nxo_forRL h l env S; exact .stuck
omit hc hm in
theorem nxo_whlL {c : Env → Sto → Res (Bool × Sto)} {f : Env → Sto → Out} (hcc : ∀ env S, NX (c env S)) (h : ∀ env S, NXO (f env S)) : ∀ (n : Nat) (env : Env) (S : Sto), NXO (whlL c f n env S)
  | 0, env, S => .stuck
  | n + 1, env, S => by
    rw [whlL]
    refine NXO.then (hcc env S) fun p => ?_
    split
    · exact (h _ _).seq fun env S => nxo_whlL hcc h n env S
    · exact .ok _ _ _
def notRaise : List Nat → Cs → Bool
  | [], .cons (.raise _) .nil => false
  | _, _ => true
def catH : Hs → Bool
  | .nil => false
  | .cons c js b hs => notRaise js b && (c == 0 || c == 100 || catH hs)
mutual
def nxC (fo mo : Nat → Bool) : C → Bool
  | .set _ e => nxE fo mo e
  | .unp _ e => nxE fo mo e
  | .mut _ _ es => nxS fo mo es
  | .put _ k e => nxE fo mo k && nxE fo mo e
  | .putR a k e => nxE fo mo a && nxE fo mo k && nxE fo mo e
  | .putF a _ e => nxE fo mo a && nxE fo mo e
  | .mutR _ a es => nxE fo mo a && nxS fo mo es
  | .nput a k e => nxE fo mo a && nxE fo mo k && nxE fo mo e
  | .forR _ a b => nxE fo mo a && nxCs fo mo b
  | .forX _ _ b => nxCs fo mo b
  | .exp e => nxE fo mo e
  | .ite c a b => nxE fo mo c && nxCs fo mo a && nxCs fo mo b
  | .forS _ it b => nxI fo mo it && nxCs fo mo b
  | .whl c b => nxE fo mo c && nxCs fo mo b
  | .ret e => nxE fo mo e
  | .retN => true
  | .raise _ => false
  | .tryS b hs => catH hs || nxCs fo mo b
  | .pass => true
def nxCs (fo mo : Nat → Bool) : Cs → Bool
  | .nil => true
  | .cons c cs => nxC fo mo c && nxCs fo mo cs
end
omit hc hm in
theorem nxo_exHs {ow : List Bool} : ∀ (hs : Hs), catH hs = true → ∀ c env S, NXO (exHs pg cl ow hs c env S)
  | .nil, h, c, env, S => by cases h
  | .cons c' js b hs, h, c, env, S => by
    rw [catH, Bool.and_eq_true] at h
    rw [exHs.eq_def]
    simp only
    split
    · rcases js with _ | ⟨k, _ | ⟨k2, js⟩⟩
      · simp only
        split
        · cases h.1
        · split
          · exact .ok _ _ _
          · exact .stuck
      · simp only
        split
        · exact .ok _ _ _
        · exact .stuck
      · exact .stuck
    · rename_i g
      have h2 := h.2
      unfold subc at g
      cases q : catH hs with
      | true => exact nxo_exHs hs q c env S
      | false =>
        rw [q, Bool.or_false] at h2
        refine absurd ?_ g
        rw [Bool.or_assoc, h2, Bool.or_true]
omit hc in
theorem nx_Y (hc : ∀ f, fo f = true → ∀ vs S, NX (cl f vs S)) : ∀ (it : It), nxI fo mo it = true → ∀ env S, NX (evY pg cl it env S)
  | .seq a, h, env, S => by
    rw [nxI] at h
    rw [evY]
    refine NX.bind (nx_E hc hm a h env S) fun p => ?_
    split
    · exact NX.guard (.ok _)
    · exact .stuck
  | .rng es, h, env, S => by rw [evY.eq_def]; exact .stuck
  | .enum a, h, env, S => by rw [evY.eq_def]; exact .stuck
  | .rev a, h, env, S => by rw [evY.eq_def]; exact .stuck
theorem nx_M {ow : List Bool} : ∀ (es : Es), nxS fo mo es = true → ∀ env S, NX (evM pg cl ow es env S)
  | .nil, _, env, S => by rw [evM]; exact .ok _
  | .cons e es, h, env, S => by
    rw [nxS, Bool.and_eq_true] at h
    rw [evM]
    exact NX.bind (nx_E hc hm e h.1 env S) fun p => NX.guard (NX.bind (nx_M es h.2 env p.2) fun q => .ok _)
theorem nxo_step {ow : List Bool} {tg : Tg} {b : Cs} (h : ∀ env S, NXO (exCs pg cl ow b env S)) (v : Val) (env : Env) (S : Sto) : NXO (match tgSet tg v env with
      | some env' => exCs pg cl ow b env' S
      | none => .stuck) := by
  split
  · exact h _ _
  · exact .stuck
mutual
theorem nx_C1 {ow : List Bool} : ∀ (c : C), nxC fo mo c = true → ∀ env S, NXO (exC pg cl ow c env S)
  | .set i e, h, env, S => by
    rw [nxC] at h
    rw [exC]
    refine NXO.then (nx_E hc hm e h _ _) fun p => ?_
    split
    · exact .ok _ _ _
    · split
      · split
        · exact .ok _ _ _
        · split
          · exact .ok _ _ _
          · exact .stuck
      · exact .stuck
  | .unp js e, h, env, S => by
    rw [nxC] at h
    rw [exC]
    refine NXO.then (nx_E hc hm e h _ _) fun p => ?_
    split
    · split
      · split
        · exact .ok _ _ _
        · exact .stuck
      · exact .stuck
    · exact .stuck
  | .mut m i es, h, env, S => by
    rw [nxC] at h
    rw [exC]
    refine NXO.then (nx_K hc hm es h _ _) fun p => ?_
    split
    · exact NXO.then (nx_muV _ _ _) fun ys => .ok _ _ _
    · exact .stuck
  | .put i k e, h, env, S => by
    rw [nxC, Bool.and_eq_true] at h
    rw [exC]
    refine NXO.then (nx_E hc hm e h.2 _ _) fun p => NXO.then (nx_E hc hm k h.1 _ _) fun q => ?_
    split
    · split
      · split
        · split
          · exact .ok _ _ _
          · exact .stuck
        · exact .stuck
      · split
        · split
          · split
            · exact .ok _ _ _
            · exact .stuck
          · exact .stuck
        · exact .stuck
      · exact .stuck
    · exact .stuck
  | .putR a k e, h, env, S => by
    rw [nxC, Bool.and_eq_true, Bool.and_eq_true] at h
    rw [exC]
    refine NXO.then (nx_E hc hm e h.2 _ _) fun p => NXO.then (nx_E hc hm a h.1.1 _ _) fun q => NXO.then (nx_E hc hm k h.1.2 _ _) fun u => ?_
    split
    · exact NXO.then (nx_putO _ _ _ _) fun o => .ok _ _ _
    · exact .stuck
  | .putF a f e, h, env, S => by
    rw [nxC, Bool.and_eq_true] at h
    rw [exC]
    refine NXO.then (nx_E hc hm e h.2 _ _) fun p => NXO.then (nx_E hc hm a h.1 _ _) fun q => NXO.then (nx_insR _ _) fun o => ?_
    split
    · exact .ok _ _ _
    · exact .stuck
  | .mutR m a es, h, env, S => by
    rw [nxC, Bool.and_eq_true] at h
    rw [exC]
    exact NXO.then (nx_E hc hm a h.1 _ _) fun p => NXO.then (nx_lstR _ _) fun _ => NXO.then (nx_K hc hm es h.2 _ _) fun q => NXO.then (nx_lstR _ _) fun o => NXO.then (nx_muR _ _ _) fun ys => .ok _ _ _
  | .nput a k e, h, env, S => by
    rw [nxC, Bool.and_eq_true, Bool.and_eq_true] at h
    rw [exC]
    refine NXO.then (nx_E hc hm e h.2 _ _) fun p => NXO.then (nx_E hc hm a h.1.1 _ _) fun q => NXO.then (nx_E hc hm k h.1.2 _ _) fun u => NXO.then (nx_nkvs _ _) fun kvs => ?_
    split
    · split
      · exact .ok _ _ _
      · exact .stuck
    · exact .stuck
  | .forR tg a b, h, env, S => by
    rw [nxC, Bool.and_eq_true] at h
    rw [exC]
    exact NXO.then (nx_E hc hm a h.1 _ _) fun p => NXO.then (nx_lstR _ _) fun o => nxo_forRL (nxo_step hc hm (nx_Cs b h.2)) _ _ _
  | .forX tg i b, h, env, S => by
    rw [nxC] at h
    rw [exC]
    split
    · exact NXO.then (nx_lstR _ _) fun o => nxo_forRL (nxo_step hc hm (nx_Cs b h)) _ _ _
    · refine NXO.then (nx_seq _) fun l => ?_
      split
      · exact nxo_forL (nxo_step hc hm (nx_Cs b h)) _ _ _
      · exact .stuck
    · exact .stuck
  | .exp e, h, env, S => by
    rw [nxC] at h
    rw [exC]
    exact NXO.then (nx_E hc hm e h _ _) fun p => .ok _ _ _
  | .ite c a b, h, env, S => by
    rw [nxC, Bool.and_eq_true, Bool.and_eq_true] at h
    rw [exC]
    refine NXO.then (nx_E hc hm c h.1.1 _ _) fun p => NXO.then (.isB _) fun k => ?_
    split
    · exact nx_Cs a h.1.2 _ _
    · exact nx_Cs b h.2 _ _
  | .forS tg it b, h, env, S => by
    rw [nxC, Bool.and_eq_true] at h
    rw [exC]
    refine NXO.then (by split; exact nx_Y hm hc it h.1 _ _; exact nx_I hc hm it h.1 _ _) fun p => ?_
    split
    · exact nxo_forL (nxo_step hc hm (nx_Cs b h.2)) _ _ _
    · exact .stuck
  | .whl c b, h, env, S => by
    rw [nxC, Bool.and_eq_true] at h
    rw [exC]
    exact nxo_whlL (fun env S => NX.bind (nx_E hc hm c h.1 _ _) fun p => NX.bind (.isB _) fun k => .ok _) (nx_Cs b h.2) _ _ _
  | .ret e, h, env, S => by
    rw [nxC] at h
    cases e with
    | tup es =>
      rw [nxE] at h
      rw [exC]
      split
      · exact NXO.then (nx_M hc hm es h _ _) fun p => .ok _ _ _
      · exact .stuck
    | _ =>
      simp only [exC]
      refine NXO.then (nx_E hc hm _ h _ _) fun p => ?_
      split
      · exact .ok _ _ _
      · exact .stuck
  | .retN, h, env, S => by rw [exC]; exact .ok _ _ _
  | .raise c, h, env, S => by rw [nxC] at h; cases h
  | .tryS b hs, h, env, S => by
    rw [nxC, Bool.or_eq_true] at h
    rw [exC]
    rcases h with h | h
    · split
      · split
        · exact nxo_exHs hs h _ _ _
        · exact .stuck
      · rename_i o ho
        exact ⟨fun c e S' q => ho c e S' q⟩
    · split
      · rename_i e
        exact absurd e ((nx_Cs b h _ _).ne _ _ _)
      · exact nx_Cs b h _ _
  | .pass, h, env, S => by rw [exC]; exact .ok _ _ _
theorem nx_Cs {ow : List Bool} : ∀ (cs : Cs), nxCs fo mo cs = true → ∀ env S, NXO (exCs pg cl ow cs env S)
  | .nil, h, env, S => by rw [exCs]; exact .ok _ _ _
  | .cons c cs, h, env, S => by
    rw [nxCs, Bool.and_eq_true] at h
    rw [exCs]
    exact (nx_C1 c h.1 env S).seq fun env S => nx_Cs cs h.2 env S
end
end
section
variable {pg : Pg} {fo mo : Nat → Bool}
theorem nx_call (hf : ∀ f, fo f = true → ∀ F, pg.fn f = some F → nxCs fo mo F.body = true) (hm : ∀ m, mo m = true → ∀ c f, pg.meth c m = some f → fo f = true) : ∀ (d : Nat) (f : Nat), fo f = true → ∀ vs S, NX (call pg d f vs S)
  | 0, f, h, vs, S => .stuck
  | d + 1, f, h, vs, S => by
    cases e : pg.fn f with
    | none =>
      simp only [call, e]
      exact .stuck
    | some F =>
      have ih := nx_Cs (ow := F.own) (nx_call hf hm d) hm F.body (hf f h F e) (vs.map some ++ List.replicate (F.n - F.np) none) S
      simp only [call, e]
      split
      · split
        · exact .ok _
        · exact .ok _
        · rename_i q
          exact absurd q (ih.ne _ _ _)
        · exact .stuck
      · exact .stuck
end
end Ev

/-! SndQ: expressions that may raise. -/
namespace Ev
open PySem PySem.Spec PyProof.Rows L2

/-- what an exception of class c is asked for -/
def ExcP (K : PySem.W.Frag) (w : World) (W : WX) (σ : L2.St) (H : Hp) (r : List Addr) (c : Nat) (S' : Sto) : Prop :=
  ∀ H' r', RSto K w H' r' S' → Stp H H' r r' → W (.ref (clsA K c)) none σ H'
theorem ExcP.pre {K : PySem.W.Frag} {w : World} {W : WX} {σ : L2.St} {H H1 : Hp} {r r1 : List Addr} {c : Nat} {S' : Sto} (h : ExcP K w W σ H r c S') (s : Stp H H1 r r1) : ExcP K w W σ H1 r1 c S' := fun H' r' a b => h H' r' a (s.trans b)
def TEvX (K : PySem.W.Frag) (w : World) (W : WX) (f : Env → Sto → Res (Val × Sto)) (fr : Bool) : TE := fun σ H Q =>
  ∃ env S r, REnv K w H r env σ ∧ RSto K w H r S ∧ ((∃ x S', f env S = .ok (x, S') ∧ Pst K w H r x S' fr Q) ∨ ∃ c S', f env S = .exc c S' ∧ ExcP K w W σ H r c S')
def TAvX (K : PySem.W.Frag) (w : World) (W : WX) (f : Env → Sto → Res (List Val × Sto)) (fr : Bool) : TA := fun σ H Q =>
  ∃ env S r, REnv K w H r env σ ∧ RSto K w H r S ∧ ((∃ xs S', f env S = .ok (xs, S') ∧
    ∀ vs H' r' F, RepL K w H' r' xs vs F → (∀ a, a ∈ F → a ∉ r') → RSto K w H' r' S' → Stp H H' r r' → (fr = true → F.Nodup ∧ ∀ a, a ∈ F → H a = none) → Q vs H') ∨ ∃ c S', f env S = .exc c S' ∧ ExcP K w W σ H r c S')
theorem exc_bind {α β : Type} {r : Res α} {f : α → Res β} {c : Nat} {S : Sto} (h : r.bind f = .exc c S) : r = .exc c S ∨ ∃ a, r = .ok a ∧ f a = .exc c S := by
  cases r with
  | ok a => exact .inr ⟨a, rfl, h⟩
  | exc c' S' => cases h; exact .inl rfl
  | stuck => cases h

section
variable {X : Cx} {W : WX} {pos : Pos} {pg : Pg} {cl : CallT} {a b : Expr} {es : List Expr} {ca cb : E} {cs : Es} {fa fb fr : Bool}
theorem TEv.toX {K : PySem.W.Frag} {w : World} {f : Env → Sto → Res (Val × Sto)} {σ : L2.St} {H : Hp} {Q : VK} (h : TEv K w f fr σ H Q) : TEvX K w W f fr σ H Q := by
  obtain ⟨env, S, r, x, S', RE, RS, ev, k⟩ := h
  exact ⟨env, S, r, RE, RS, .inl ⟨x, S', ev, k⟩⟩
theorem TAv.toX {K : PySem.W.Frag} {w : World} {f : Env → Sto → Res (List Val × Sto)} {σ : L2.St} {H : Hp} {Q : List V → Hp → Prop} (h : TAv K w f fr σ H Q) : TAvX K w W f fr σ H Q := by
  obtain ⟨env, S, r, x, S', RE, RS, ev, k⟩ := h
  exact ⟨env, S, r, RE, RS, .inl ⟨x, S', ev, k⟩⟩
theorem peV (h : PE X a (TEvX X.K X.w W (evE pg cl ca) fa)) : PE X a (TEv X.K X.w (evE pg cl ca) fa) := pe_w h fun _ _ _ q => q.toX
theorem paV {f : Env → Sto → Res (List Val × Sto)} (h : PA X es (TAvX X.K X.w W f fr)) : PA X es (TAv X.K X.w f fr) := pa_w h fun _ _ _ q => q.toX
/-- what never raises -/
theorem x_lift {f : Env → Sto → Res (Val × Sto)} (h : PE X a (TEv X.K X.w f fa)) (n : ∀ env S, NX (f env S)) : PE X a (TEvX X.K X.w W f fa) :=
  pe_w h fun σ H Q ⟨env, S, r, RE, RS, q⟩ => by
    rcases q with ⟨x, S', ev, k⟩ | ⟨c, S', ev, k⟩
    · exact ⟨env, S, r, x, S', RE, RS, ev, k⟩
    · exact absurd ev ((n env S).ne c S')
theorem xa_nil : PA X [] (TAvX X.K X.w W (evS pg cl .nil) false) :=
  pa_w a_nil fun σ H Q ⟨env, S, r, RE, RS, q⟩ => by
    rcases q with ⟨x, S', ev, k⟩ | ⟨c, S', ev, k⟩
    · exact ⟨env, S, r, x, S', RE, RS, ev, k⟩
    · simp only [evS] at ev; cases ev
theorem xa_cons (ha : PE X a (TEvX X.K X.w W (evE pg cl ca) fa)) (hb : PA X es (TAvX X.K X.w W (evS pg cl cs) false)) (hs : starEach (a :: es) X.env = (false, eval a X.env) :: starEach es X.env) : PA X (a :: es) (TAvX X.K X.w W (evS pg cl (.cons ca cs)) false) :=
  pa_w (pa_cons ha hb hs) fun σ H Q ⟨env, S, r, RE, RS, q⟩ => by
    rcases q with ⟨x, S', ev, k⟩ | ⟨c, S', ev, k⟩
    · simp only [evS] at ev
      obtain ⟨p, e1, ev⟩ := bind_ok' ev
      obtain ⟨q, e2, ev⟩ := bind_ok' ev
      cases ev
      refine ⟨env, S, r, RE, RS, .inl ⟨p.1, p.2, e1, fun v1 H1 r1 F1 p1 o1 s1 t1 _ => ⟨env, p.2, r1, RE.step t1, s1, .inl ⟨q.1, q.2, e2, fun v2 H2 r2 F2 p2 o2 s2 t2 _ => ?_⟩⟩⟩⟩
      exact k _ _ r2 (F1 ++ F2) (.cons (p1.step o1 t2) p2) (fun a m => (List.mem_append.mp m).elim (fun m => t2.off p1.there o1 a m) (o2 a)) s2 (t1.trans t2) (fun z => nomatch z)
    · simp only [evS] at ev
      rcases exc_bind ev with e1 | ⟨p, e1, ev⟩
      · exact ⟨env, S, r, RE, RS, .inr ⟨c, S', e1, k⟩⟩
      · rcases exc_bind ev with e2 | ⟨q, e2, ev⟩
        · exact ⟨env, S, r, RE, RS, .inl ⟨p.1, p.2, e1, fun v1 H1 r1 F1 p1 o1 s1 t1 _ => ⟨env, p.2, r1, RE.step t1, s1, .inr ⟨c, S', e2, k.pre t1⟩⟩⟩⟩
        · cases ev
theorem xk_nil : PA X [] (TAvX X.K X.w W (evK pg cl .nil) true) :=
  pa_w k_nil fun σ H Q ⟨env, S, r, RE, RS, q⟩ => by
    rcases q with ⟨x, S', ev, k⟩ | ⟨c, S', ev, k⟩
    · exact ⟨env, S, r, x, S', RE, RS, ev, k⟩
    · simp only [evK] at ev; cases ev
theorem guard_exc {α : Type} {b : Bool} {r : Res α} {c : Nat} {S : Sto} (h : guard' b r = .exc c S) : b = true ∧ r = .exc c S := by
  unfold guard' at h
  split at h
  · exact ⟨by assumption, h⟩
  · cases h
theorem xk_cons (ha : PE X a (TEvX X.K X.w W (evE pg cl ca) (fresh ca))) (hb : PA X es (TAvX X.K X.w W (evK pg cl cs) true)) (hs : starEach (a :: es) X.env = (false, eval a X.env) :: starEach es X.env) : PA X (a :: es) (TAvX X.K X.w W (evK pg cl (.cons ca cs)) true) :=
  pa_w (pa_cons ha hb hs) fun σ H Q ⟨env, S, r, RE, RS, q⟩ => by
    rcases q with ⟨x, S', ev, k⟩ | ⟨c, S', ev, k⟩
    · simp only [evK] at ev
      obtain ⟨p, e1, ev⟩ := bind_ok' ev
      obtain ⟨g, ev⟩ := guard_ok ev
      obtain ⟨q, e2, ev⟩ := bind_ok' ev
      cases ev
      refine ⟨env, S, r, RE, RS, .inl ⟨p.1, p.2, e1, fun v1 H1 r1 F1 p1 o1 s1 t1 f1 => ⟨env, p.2, r1, RE.step t1, s1, .inl ⟨q.1, q.2, e2, fun v2 H2 r2 F2 p2 o2 s2 t2 f2 => ?_⟩⟩⟩⟩
      obtain ⟨n1, g1⟩ := keep_new g p1 f1
      obtain ⟨n2, g2⟩ := f2 rfl
      refine k _ _ r2 (F1 ++ F2) (.cons (p1.step o1 t2) p2) (fun a m => (List.mem_append.mp m).elim (fun m => t2.off p1.there o1 a m) (o2 a)) s2 (t1.trans t2) fun _ => ⟨?_, fun a m => (List.mem_append.mp m).elim (g1 a) fun m => t1.none (g2 a m)⟩
      exact List.nodup_append.mpr ⟨n1, n2, fun a m b m' e => p1.there a m (by rw [e]; exact g2 b m')⟩
    · simp only [evK] at ev
      rcases exc_bind ev with e1 | ⟨p, e1, ev⟩
      · exact ⟨env, S, r, RE, RS, .inr ⟨c, S', e1, k⟩⟩
      · obtain ⟨g, ev⟩ := guard_exc ev
        rcases exc_bind ev with e2 | ⟨q, e2, ev⟩
        · exact ⟨env, S, r, RE, RS, .inl ⟨p.1, p.2, e1, fun v1 H1 r1 F1 p1 o1 s1 t1 _ => ⟨env, p.2, r1, RE.step t1, s1, .inr ⟨c, S', e2, k.pre t1⟩⟩⟩⟩
        · cases ev
theorem x_tup {x1 : Nat} (h : PA X es (TAvX X.K X.w W (evK pg cl cs) true)) (hl : esLen cs ≤ 1000) : PE X (.Tuple es x1 pos) (TEvX X.K X.w W (evE pg cl (.tup cs)) true) :=
  pe_w (pe_tup h) fun σ H Q ⟨env, S, r, RE, RS, q⟩ => by
    rcases q with ⟨x, S', ev, k⟩ | ⟨c, S', ev, k⟩
    · simp only [evE] at ev
      obtain ⟨p, e1, ev⟩ := bind_ok' ev
      cases ev
      refine ⟨env, S, r, RE, RS, .inl ⟨p.1, p.2, e1, fun vs H1 r1 F1 p1 o1 s1 t1 f1 => ⟨lim_of p1 (by rw [evK_len (xs := p.1) e1]; exact hl), fun q hq => ?_⟩⟩⟩
      have st : Stp H1 (upd H1 q (.tup vs)) r1 r1 := .upd hq
      exact k _ _ r1 F1 (.tup upd_same (p1.step o1 st)) o1 (s1.same (same_upd hq)) (t1.trans st) f1
    · simp only [evE] at ev
      rcases exc_bind ev with e1 | ⟨p, e1, ev⟩
      · exact ⟨env, S, r, RE, RS, .inr ⟨c, S', e1, k⟩⟩
      · cases ev
theorem x_lst (h : PA X es (TAvX X.K X.w W (evK pg cl cs) true)) (hl : esLen cs ≤ 1000) : PE X (.List es pos) (TEvX X.K X.w W (evE pg cl (.lst cs)) true) :=
  pe_w (pe_lst h) fun σ H Q ⟨env, S, r, RE, RS, q⟩ => by
    rcases q with ⟨x, S', ev, k⟩ | ⟨c, S', ev, k⟩
    · simp only [evE] at ev
      obtain ⟨p, e1, ev⟩ := bind_ok' ev
      cases ev
      refine ⟨env, S, r, RE, RS, .inl ⟨p.1, p.2, e1, fun vs H1 r1 F1 p1 o1 s1 t1 f1 => ⟨lim_of p1 (by rw [evK_len (xs := p.1) e1]; exact hl), fun q hq => ?_⟩⟩⟩
      have st : Stp H1 (upd H1 q (.lst vs)) r1 r1 := .upd hq
      refine k _ _ r1 (q :: F1) (.lst upd_same (p1.step o1 st)) (fun a m => ?_) (s1.same (same_upd hq)) (t1.trans st) fun _ => ⟨?_, fun a m => ?_⟩
      · rcases List.mem_cons.mp m with rfl | m
        · exact s1.nmem hq
        · exact o1 a m
      · exact List.nodup_cons.mpr ⟨fun m => p1.there q m hq, (f1 rfl).1⟩
      · rcases List.mem_cons.mp m with rfl | m
        · exact t1.none hq
        · exact (f1 rfl).2 a m
    · simp only [evE] at ev
      rcases exc_bind ev with e1 | ⟨p, e1, ev⟩
      · exact ⟨env, S, r, RE, RS, .inr ⟨c, S', e1, k⟩⟩
      · cases ev
theorem x_ix (hu : X.A.units + 200 < cLine) (ha : PE X a (TEvX X.K X.w W (evE pg cl ca) fa)) (hb : PE X b (TEv X.K X.w (evE pg cl cb) fb)) (nb : ∀ env S, NX (evE pg cl cb env S)) (hs : PlainIx b) : PE X (.Subscript a b pos) (TEvX X.K X.w W (evE pg cl (.ix ca cb)) false) :=
  pe_w (pe_ix (ix_V hu) ha hb hs) fun σ H Q ⟨env, S, r, RE, RS, q⟩ => by
    rcases q with ⟨x, S', ev, k⟩ | ⟨c, S', ev, k⟩
    · simp only [evE] at ev
      obtain ⟨p, e1, ev⟩ := bind_ok' ev
      obtain ⟨q, e2, ev⟩ := bind_ok' ev
      obtain ⟨v, e3, ev⟩ := bind_ok' ev
      cases ev
      refine ⟨env, S, r, RE, RS, .inl ⟨p.1, p.2, e1, fun v1 H1 r1 F1 p1 o1 s1 t1 _ => ⟨env, p.2, r1, q.1, q.2, RE.step t1, s1, e2, fun v2 H2 r2 F2 p2 o2 s2 t2 _ => ?_⟩⟩⟩
      obtain ⟨G, d1, d2⟩ := (p1.step o1 t2).drX (t2.off p1.there o1) s2
      exact ⟨r2, _, _, _, G, F2, d1, p2, e3, fun v F' n sub => k.at_ n (fun a m => d2 a (sub a m)) s2 (t1.trans t2)⟩
    · simp only [evE] at ev
      rcases exc_bind ev with e1 | ⟨p, e1, ev⟩
      · exact ⟨env, S, r, RE, RS, .inr ⟨c, S', e1, k⟩⟩
      · exact absurd ev ((NX.bind (nb _ _) fun q => NX.bind (nx_ix _ _) fun v => .ok _).ne _ _)
theorem x_blt (hu : X.A.units + 200 < cLine) (hc : X.calm = true) {bt : Bt} {p : Pos} (hg : Gl X (btN bt)) (hm : X.mg (btN bt) = none) (ha : PA X (a :: es) (TAvX X.K X.w W (evS pg cl cs) false))
    (he : starEach (a :: es) X.env = (false, eval a X.env) :: starEach es X.env) (hpl : (backTo pos (starEach es X.env)).any (·.1) = false) :
    PE X (.Call (.Name (btN bt) p) (a :: es) [] pos) (TEvX X.K X.w W (evE pg cl (.blt bt cs)) true) := by
  have key : PE X (.Call (.Name (btN bt) p) (a :: es) [] pos) (tCB (rBV X.K X.w (bltV bt)) (TAvX X.K X.w W (evS pg cl cs) false)) := by
    have c := cr_bltV (X := X) hu hc bt
    have bo := boot_bt bt
    have n1 := (bt_ne bt).1
    have n2 := (bt_ne bt).2
    cases bt with
    | len => exact pe_callB c hg hm bo ha n1 n2 he hpl
    | sorted => exact pe_callB c hg hm bo ha n1 n2 he hpl
    | sum => exact pe_callB c hg hm bo ha n1 n2 he hpl
    | max => exact pe_callB c hg hm bo ha n1 n2 he hpl
    | min => exact pe_callB c hg hm bo ha n1 n2 he hpl
    | any => exact pe_callB c hg hm bo ha n1 n2 he hpl
    | all => exact pe_callB c hg hm bo ha n1 n2 he hpl
    | tuple => exact pe_callTy c hg hm bo ha n1 n2 he hpl
    | list => exact pe_callTy c hg hm bo ha n1 n2 he hpl
    | set => exact pe_callTy c hg hm bo ha n1 n2 he hpl
    | int => exact pe_callTy c hg hm bo ha n1 n2 he hpl
    | str => exact pe_callTy c hg hm bo ha n1 n2 he hpl
  exact pe_w key fun σ H Q ⟨env, S, r, RE, RS, q⟩ => by
    rcases q with ⟨x, S', ev, k⟩ | ⟨c, S', ev, k⟩
    · simp only [evE] at ev
      obtain ⟨p, e1, ev⟩ := bind_ok' ev
      obtain ⟨q, e2, ev⟩ := bind_ok' ev
      cases ev
      refine ⟨env, S, r, RE, RS, .inl ⟨p.1, p.2, e1, fun vs H1 r1 F1 p1 o1 s1 t1 f1 => ?_⟩⟩
      obtain ⟨G, l⟩ := p1.dr s1
      exact ⟨r1, _, _, G, l, e2, fun v H' n => k.new n s1 t1⟩
    · simp only [evE] at ev
      rcases exc_bind ev with e1 | ⟨p, e1, ev⟩
      · exact ⟨env, S, r, RE, RS, .inr ⟨c, S', e1, k⟩⟩
      · exact absurd ev ((NX.bind (nx_blt _ _) fun v => .ok _).ne _ _)
theorem x_box (ha : PE X a (TEvX X.K X.w W (evE pg cl ca) (fresh ca))) : PE X a (TEvX X.K X.w W (evE pg cl (.box ca)) true) :=
  pe_w ha fun σ H Q ⟨env, S, r, RE, RS, q⟩ => by
    rcases q with ⟨x, S', ev, k⟩ | ⟨c, S', ev, k⟩
    · exact (box_imp ⟨env, S, r, x, S', RE, RS, ev, k⟩).toX
    · simp only [evE] at ev
      rcases exc_bind ev with e1 | ⟨p, e1, ev⟩
      · exact ⟨env, S, r, RE, RS, .inr ⟨c, S', e1, k⟩⟩
      · exact absurd ev ((NX.bind (nx_boxO _) fun v => NX.guard (.ok _)).ne _ _)

/-! ### calls that may raise -/
section
variable {CX : CXT} {k : Nat} {f C : Addr} {fd : FuncData} {ps : List Str} {sp : Sp} {dvs : List V} {ds : List Value} {Es : L2.St → XK} {x m : Str} {p apos : Pos} {e o : Expr} {ta : TE} {t : TA}
theorem run_fnD {pins : List (Addr × Obj)} {σ : L2.St} {H : Hp} {s : Shared} {Q : VK} {us : List Value} {vs : List V} (F : FnOk X.prog X.w X.K X.mg X.base CX k f fd ps sp) (hr : Room k X.A) (hb : Binds X.K fd ps ds) (hd : Vals dvs ds) (hx : PassesAt CX X σ (Es σ))
    (I : L2.Inv X pins σ H s) (r : Vals vs us) (h : sp (vs ++ dvs) H Q (Es σ)) : wpAny (model X.prog X.w) X.A (PySem.call (.ref f) us) (EP X pins σ Q) X.xe s := by
  have r2 : Vals (vs ++ dvs) (us ++ ds) := r.append hd
  have hl : (us ++ ds).length = ps.length := by rw [← r2.length]; exact F.len _ _ _ _ h
  refine wpAny_call (codeAny_mono (F.run X.A X.stack s H ⟨us, []⟩ (us ++ ds) (vs ++ dvs) Q (Es σ) hr I.env0 (hb s us I.kIn hl) r2 h) fun r s' hq => ?_)
  cases r with
  | error e => exact hx pins H s e s' I hq
  | ok fl =>
    cases fl with
    | ret u => exact I.after hq
    | next => exact False.elim hq
    | brk => exact False.elim hq
    | cont => exact False.elim hq
def tCallD (sp : Sp) (dvs : List V) (Es : L2.St → XK) (t : TA) : TE := fun σ H Q => t σ H fun vs H1 => sp (vs ++ dvs) H1 Q (Es σ)
theorem pe_callD (F : FnOk X.prog X.w X.K X.mg X.base CX k f fd ps sp) (hr : Room k X.A) (hg : Gl X x) (hm : X.mg x = some (.ref f)) (hk : PySem.W.keepIn X.K (.ref f) = true) (hb : Binds X.K fd ps ds) (hd : Vals dvs ds) (hx : ∀ σ, PassesAt CX X σ (Es σ))
    (ha : PA X (e :: es) t) (hdb : (x == ("__debug__" : Str)) = false) (he : starEach (e :: es) X.env = (false, eval e X.env) :: starEach es X.env) (hpl : (backTo pos (starEach es X.env)).any (·.1) = false) :
    PE X (.Call (.Name x p) (e :: es) [] pos) (tCallD sp dvs Es t) := by
  refine ⟨fun pins s σ H Q I h => ?_⟩
  refine wpAny_Call_Name_kw (ld_glob I hg hm ?_ hdb)
  refine PySem.W.callWith_K (h₀ := X.base) I.ok.mod.kin hk (thn (ha.run pos pins s σ H _ I h) fun us s1 ⟨vs, H1, I1, r, q⟩ => ⟨I1.kIn, ?_⟩) he hpl
  exact run_fnD F hr hb hd (hx σ) I1 r q
theorem pe_callD0 (F : FnOk X.prog X.w X.K X.mg X.base CX k f fd ps sp) (hr : Room k X.A) (hg : Gl X x) (hm : X.mg x = some (.ref f)) (hk : PySem.W.keepIn X.K (.ref f) = true) (hb : Binds X.K fd ps ds) (hd : Vals dvs ds) (hx : ∀ σ, PassesAt CX X σ (Es σ))
    (hdb : (x == ("__debug__" : Str)) = false) : PE X (.Call (.Name x p) [] [] pos) (tCallD sp dvs Es tNil) := by
  refine ⟨fun pins s σ H Q I h => ?_⟩
  refine wpAny_Call_Name_kw (ld_glob I hg hm ?_ hdb)
  exact PySem.W.callWith_K0 I.kIn hk (run_fnD (us := []) F hr hb hd (hx σ) I .nil h)
def tMethD (C : Addr) (m : Str) (sp : Sp) (dvs : List V) (Es : L2.St → XK) (ta : TE) (t : TA) : TE := fun σ H Q => ta σ H fun x H1 => ∃ a dx fs, x = .ref a ∧ H1 a = some (.ins C dx fs) ∧ fs.lookup m = none ∧
  t σ H1 fun vs H2 => sp (x :: (vs ++ dvs)) H2 Q (Es σ)
theorem pe_methD {pl : Sem Bool} (he : PE X o ta) (c : Cls X.K C) (hm : Meth X.K C m f) (F : FnOk X.prog X.w X.K X.mg X.base CX k f fd ps sp) (hr : Room k X.A) (hb : Binds X.K fd ps ds) (hd : Vals dvs ds) (hx : ∀ σ, PassesAt CX X σ (Es σ)) (ha : PA X (e :: es) t)
    (hst : starEach (e :: es) X.env = (false, eval e X.env) :: starEach es X.env) (hpl : (backTo pos (starEach es X.env)).any (·.1) = false)
    (ht : eval (.Call (.Attribute o m apos) (e :: es) [] pos) X.env = (do
      let ov ← eval o X.env
      standAt apos.atName
      let (f, first) ← holding [ov] (getMethod ov m pl)
      callWith pos f first (backTo pos (starEach (e :: es) X.env)) (backToKw pos (keywordEach [] X.env)))) :
    PE X (.Call (.Attribute o m apos) (e :: es) [] pos) (tMethD C m sp dvs Es ta t) := by
  refine ⟨fun pins s σ H Q I h => ?_⟩
  refine PySem.W.methodCall_KW (pl := pl) (thn (he.run pins s σ H _ I h) fun u s1 ⟨x, H1, I1, rx, a, dx, fs, ex, ea, l, q⟩ => ?_) ht
  subst ex
  obtain rfl : u = Value.ref a := rx
  refine getmeth_ok I1 ea c hm l ?_
  refine PySem.W.callWith_K (first := [.ref a]) (h₀ := X.base) I.ok.mod.kin hm.kp (thn (ha.run pos pins s1 σ H1 _ I1 q) fun us s2 ⟨vs, H2, I2, r, q2⟩ => ⟨I2.kIn, ?_⟩) hst hpl
  exact run_fnD (us := .ref a :: us) (vs := .ref a :: vs) F hr hb hd (hx σ) I2 (.cons rfl r) q2
theorem pe_methD0 {pl : Sem Bool} (he : PE X o ta) (c : Cls X.K C) (hm : Meth X.K C m f) (F : FnOk X.prog X.w X.K X.mg X.base CX k f fd ps sp) (hr : Room k X.A) (hb : Binds X.K fd ps ds) (hd : Vals dvs ds) (hx : ∀ σ, PassesAt CX X σ (Es σ))
    (ht : eval (.Call (.Attribute o m apos) [] [] pos) X.env = (do
      let ov ← eval o X.env
      standAt apos.atName
      let (f, first) ← holding [ov] (getMethod ov m pl)
      callWith pos f first (backTo pos (starEach [] X.env)) (backToKw pos (keywordEach [] X.env)))) :
    PE X (.Call (.Attribute o m apos) [] [] pos) (tMethD C m sp dvs Es ta tNil) := by
  refine ⟨fun pins s σ H Q I h => ?_⟩
  refine PySem.W.methodCall_KW (pl := pl) (thn (he.run pins s σ H _ I h) fun u s1 ⟨x, H1, I1, rx, a, dx, fs, ex, ea, l, q⟩ => ?_) ht
  subst ex
  obtain rfl : u = Value.ref a := rx
  refine getmeth_ok I1 ea c hm l ?_
  exact PySem.W.callWith_K0 (first := [.ref a]) I1.kIn hm.kp (run_fnD (us := [.ref a]) (vs := [.ref a]) F hr hb hd (hx σ) I1 (.cons rfl .nil) q)
end
theorem x_call {f j k' : Nat} {x : Str} {p : Pos} (pa : ∀ σ, PassesAt (L2N.CX X.prog X.w) X σ (WE W σ)) (c : CalV X.prog X.w X.K X.mg X.base k' x (spV X.K X.w (cl f))) (hr : Room j X.A) (hk : k' ≤ j) (hg : Gl X x) (ha : PA X (a :: es) (TAvX X.K X.w W (evS pg cl cs) false))
    (hdb : (x == ("__debug__" : Str)) = false) (he : starEach (a :: es) X.env = (false, eval a X.env) :: starEach es X.env) (hpl : (backTo pos (starEach es X.env)).any (·.1) = false) :
    PE X (.Call (.Name x p) (a :: es) [] pos) (TEvX X.K X.w W (evE pg cl (.call f cs)) true) := by
  obtain ⟨f', fd, ps, sp', dvs, ds, F, hm, kp, b, dv, im⟩ := c.ex
  exact pe_w (pe_callD (Es := WE W) F (hr.mono hk) hg hm kp b dv pa ha hdb he hpl) fun σ H Q ⟨env, S, r, RE, RS, q⟩ => by
    rcases q with ⟨x, S', ev, k⟩ | ⟨c, S', ev, k⟩
    · simp only [evE] at ev
      obtain ⟨p, e1, ev⟩ := bind_ok' ev
      refine ⟨env, S, r, RE, RS, .inl ⟨p.1, p.2, e1, fun vs H1 r1 F1 p1 o1 s1 t1 f1 => ?_⟩⟩
      refine im vs H1 Q _ ?_
      exact ⟨p.2, r1, p.1, F1, p1, o1, s1, .inl ⟨x, S', ev, fun v2 H2 r2 F2 p2 o2 s2 t2 f2 => k v2 H2 r2 F2 p2 o2 s2 (t1.trans t2) fun z => ⟨(f2 z).1, fun a m => t1.none ((f2 z).2 a m)⟩⟩⟩
    · simp only [evE] at ev
      rcases exc_bind ev with e1 | ⟨p, e1, ev⟩
      · exact ⟨env, S, r, RE, RS, .inr ⟨c, S', e1, k⟩⟩
      · refine ⟨env, S, r, RE, RS, .inl ⟨p.1, p.2, e1, fun vs H1 r1 F1 p1 o1 s1 t1 f1 => ?_⟩⟩
        refine im vs H1 Q _ ?_
        exact ⟨p.2, r1, p.1, F1, p1, o1, s1, .inr ⟨c, S', ev, k.pre t1⟩⟩
theorem x_call0 {f j k' : Nat} {x : Str} {p : Pos} (pa : ∀ σ, PassesAt (L2N.CX X.prog X.w) X σ (WE W σ)) (c : CalV X.prog X.w X.K X.mg X.base k' x (spV X.K X.w (cl f))) (hr : Room j X.A) (hk : k' ≤ j) (hg : Gl X x) (hdb : (x == ("__debug__" : Str)) = false) :
    PE X (.Call (.Name x p) [] [] pos) (TEvX X.K X.w W (evE pg cl (.call f .nil)) true) := by
  obtain ⟨f', fd, ps, sp', dvs, ds, F, hm, kp, b, dv, im⟩ := c.ex
  refine pe_w (pe_callD0 (Es := WE W) F (hr.mono hk) hg hm kp b dv pa hdb) fun σ H Q ⟨env, S, r, RE, RS, q⟩ => ?_
  refine im [] H Q _ ?_
  rcases q with ⟨x, S', ev, k⟩ | ⟨c, S', ev, k⟩
  · simp only [evE, evS, bind_ok] at ev
    exact ⟨S, r, [], [], .nil, by simp, RS, .inl ⟨x, S', ev, fun v2 H2 r2 F2 p2 o2 s2 t2 f2 => k v2 H2 r2 F2 p2 o2 s2 t2 f2⟩⟩
  · simp only [evE, evS, bind_ok] at ev
    exact ⟨S, r, [], [], .nil, by simp, RS, .inr ⟨c, S', ev, k⟩⟩
theorem x_meth {j m : Nat} {o : Expr} {co : E} {fo : Bool} {apos : Pos} (pa : ∀ σ, PassesAt (L2N.CX X.prog X.w) X σ (WE W σ)) (hpr : plainR o = true) (hm : MthOk X.prog X.w X.K X.mg X.base pg cl j) (hr : Room j X.A) (ho : PE X o (TEv X.K X.w (evE pg cl co) fo)) (no : ∀ env S, NX (evE pg cl co env S)) (ha : PA X (a :: es) (TAvX X.K X.w W (evS pg cl cs) false))
    (he : starEach (a :: es) X.env = (false, eval a X.env) :: starEach es X.env) (hpl : (backTo pos (starEach es X.env)).any (·.1) = false) (hst : (a :: es).all noStar = true) (hl30 : (a :: es).length < 30) (hline : (apos.endLine == pos.line) = true) :
    PE X (.Call (.Attribute o (mthS m) apos) (a :: es) [] pos) (TEvX X.K X.w W (evE pg cl (.meth co m cs)) true) := ⟨fun pins s σ H Q I ⟨env, S, r, RE, RS, h⟩ => by
  obtain ⟨q, o, f, e1, e2, e3, h⟩ : ∃ q o f, evE pg cl co env S = .ok q ∧ insR q.2 q.1 = .ok o ∧ of (pg.meth o.2.1 m) = .ok f ∧ ((∃ x S', ((evS pg cl cs env q.2).bind fun u => cl f (.ref o.1 :: u.1) u.2) = .ok (x, S') ∧ Pst X.K X.w H r x S' true Q) ∨ ∃ c S', ((evS pg cl cs env q.2).bind fun u => cl f (.ref o.1 :: u.1) u.2) = .exc c S' ∧ ExcP X.K X.w W σ H r c S') := by
    rcases h with ⟨x, S', ev, k⟩ | ⟨c, S', ev, k⟩
    · rw [evE] at ev
      obtain ⟨q, e1, ev⟩ := bind_ok' ev
      obtain ⟨o, e2, ev⟩ := bind_ok' ev
      obtain ⟨f, e3, ev⟩ := bind_ok' ev
      exact ⟨q, o, f, e1, e2, e3, .inl ⟨x, S', ev, k⟩⟩
    · rw [evE] at ev
      rcases exc_bind ev with e1 | ⟨q, e1, ev⟩
      · exact absurd e1 ((no _ _).ne _ _)
      rcases exc_bind ev with e2 | ⟨o, e2, ev⟩
      · exact absurd e2 ((nx_insR _ _).ne _ _)
      rcases exc_bind ev with e3 | ⟨f, e3, ev⟩
      · exact absurd e3 ((NX.of _).ne _ _)
      exact ⟨q, o, f, e1, e2, e3, .inr ⟨c, S', ev, k⟩⟩
  obtain ⟨e5, es'⟩ := insR_ok e2
  obtain ⟨f', fd, ps, sp', dvs, ds, F, c, M, b, dv, im⟩ := (hm _ _ _ (of_ok e3)).ex
  refine (pe_methD (Es := WE W) (dvs := dvs) ho c M F hr b dv pa ha he hpl (meth_text hpr (form_ok hst hl30) hline)).run pins s σ H Q I ⟨env, S, r, q.1, q.2, RE, RS, e1, fun v1 H1 r1 F1 p1 o1 s1 t1 f1 => ?_⟩
  have p1' := p1
  rw [e5] at p1'
  obtain ⟨l, rfl, hl, dx, qs, hv, hd, rf⟩ := s1.ref p1' es'
  refine ⟨l, dx, qs, rfl, hv, repF_none (mth_fld m) rf, env, q.2, r1, RE.step t1, s1, ?_⟩
  rcases h with ⟨y, S', ev, k⟩ | ⟨cc, S', ev, k⟩
  · obtain ⟨u, e4, ev⟩ := bind_ok' ev
    refine .inl ⟨u.1, u.2, e4, fun vs H2 r2 F2 p2 o2 s2 t2 f2 => ?_⟩
    refine im (.ref l :: vs) H2 Q _ ?_
    exact ⟨u.2, r2, .ref o.1 :: u.1, F2, (RepL.cons (.ref (t2.sub _ _ hl)) p2 : RepL X.K X.w H2 r2 _ _ ([] ++ F2)), o2, s2, .inl ⟨y, S', ev, fun v3 H3 r3 F3 p3 o3 s3 t3 f3 => k v3 H3 r3 F3 p3 o3 s3 (t1.trans (t2.trans t3)) fun z => ⟨(f3 z).1, fun a m => (t1.trans t2).none ((f3 z).2 a m)⟩⟩⟩
  · rcases exc_bind ev with e4 | ⟨u, e4, ev⟩
    · exact .inr ⟨cc, S', e4, k.pre t1⟩
    · refine .inl ⟨u.1, u.2, e4, fun vs H2 r2 F2 p2 o2 s2 t2 f2 => ?_⟩
      refine im (.ref l :: vs) H2 Q _ ?_
      exact ⟨u.2, r2, .ref o.1 :: u.1, F2, (RepL.cons (.ref (t2.sub _ _ hl)) p2 : RepL X.K X.w H2 r2 _ _ ([] ++ F2)), o2, s2, .inr ⟨cc, S', ev, k.pre (t1.trans t2)⟩⟩⟩
theorem x_meth0 {j m : Nat} {o : Expr} {co : E} {fo : Bool} {apos : Pos} (pa : ∀ σ, PassesAt (L2N.CX X.prog X.w) X σ (WE W σ)) (hpr : plainR o = true) (hm : MthOk X.prog X.w X.K X.mg X.base pg cl j) (hr : Room j X.A) (ho : PE X o (TEv X.K X.w (evE pg cl co) fo)) (no : ∀ env S, NX (evE pg cl co env S)) (hline : (apos.endLine == pos.line) = true) :
    PE X (.Call (.Attribute o (mthS m) apos) [] [] pos) (TEvX X.K X.w W (evE pg cl (.meth co m .nil)) true) := ⟨fun pins s σ H Q I ⟨env, S, r, RE, RS, h⟩ => by
  obtain ⟨q, o, f, e1, e2, e3, h⟩ : ∃ q o f, evE pg cl co env S = .ok q ∧ insR q.2 q.1 = .ok o ∧ of (pg.meth o.2.1 m) = .ok f ∧ ((∃ x S', cl f [.ref o.1] q.2 = .ok (x, S') ∧ Pst X.K X.w H r x S' true Q) ∨ ∃ c S', cl f [.ref o.1] q.2 = .exc c S' ∧ ExcP X.K X.w W σ H r c S') := by
    rcases h with ⟨x, S', ev, k⟩ | ⟨c, S', ev, k⟩
    · rw [evE] at ev
      obtain ⟨q, e1, ev⟩ := bind_ok' ev
      obtain ⟨o, e2, ev⟩ := bind_ok' ev
      obtain ⟨f, e3, ev⟩ := bind_ok' ev
      simp only [evS, bind_ok] at ev
      exact ⟨q, o, f, e1, e2, e3, .inl ⟨x, S', ev, k⟩⟩
    · rw [evE] at ev
      rcases exc_bind ev with e1 | ⟨q, e1, ev⟩
      · exact absurd e1 ((no _ _).ne _ _)
      rcases exc_bind ev with e2 | ⟨o, e2, ev⟩
      · exact absurd e2 ((nx_insR _ _).ne _ _)
      rcases exc_bind ev with e3 | ⟨f, e3, ev⟩
      · exact absurd e3 ((NX.of _).ne _ _)
      simp only [evS, bind_ok] at ev
      exact ⟨q, o, f, e1, e2, e3, .inr ⟨c, S', ev, k⟩⟩
  obtain ⟨e5, es'⟩ := insR_ok e2
  obtain ⟨f', fd, ps, sp', dvs, ds, F, c, M, b, dv, im⟩ := (hm _ _ _ (of_ok e3)).ex
  refine (pe_methD0 (Es := WE W) (dvs := dvs) ho c M F hr b dv pa (meth_text hpr (form_ok rfl (by decide)) hline)).run pins s σ H Q I ⟨env, S, r, q.1, q.2, RE, RS, e1, fun v1 H1 r1 F1 p1 o1 s1 t1 f1 => ?_⟩
  have p1' := p1
  rw [e5] at p1'
  obtain ⟨l, rfl, hl, dx, qs, hv, hd, rf⟩ := s1.ref p1' es'
  refine ⟨l, dx, qs, rfl, hv, repF_none (mth_fld m) rf, ?_⟩
  refine im [.ref l] H1 Q _ ?_
  refine ⟨q.2, r1, [.ref o.1], [] ++ [], .cons (.ref hl) .nil, by simp, s1, ?_⟩
  rcases h with ⟨y, S', ev, k⟩ | ⟨cc, S', ev, k⟩
  · exact .inl ⟨y, S', ev, fun v3 H3 r3 F3 p3 o3 s3 t3 f3 => k v3 H3 r3 F3 p3 o3 s3 (t1.trans t3) fun z => ⟨(f3 z).1, fun a m => t1.none ((f3 z).2 a m)⟩⟩
  · exact .inr ⟨cc, S', ev, k.pre t1⟩⟩
theorem x_make {c m f j : Nat} {x : Str} {p : Pos} {es : List Expr} {cs : Es} {a : Expr} (hf : pg.meth c m = some f) (nf : ∀ vs S, NX (cl f vs S)) (hk : CalK X.prog X.w X.K X.mg X.base j (clsA X.K c) (spV X.K X.w (cl f))) (hr : Room (j + 1) X.A) (hg : Gl X x) (hm : X.mg x = some (.ref (clsA X.K c))) (ha : PA X (a :: es) (TAvX X.K X.w W (evS pg cl cs) false))
    (hdb : (x == ("__debug__" : Str)) = false) (he : starEach (a :: es) X.env = (false, eval a X.env) :: starEach es X.env) (hpl : (backTo pos (starEach es X.env)).any (·.1) = false) :
    PE X (.Call (.Name x p) (a :: es) [] pos) (TEvX X.K X.w W (evE pg cl (.make c m cs)) true) := by
  obtain ⟨f', fd, ps, sp', dvs, ds, F, M, b, dv, im⟩ := hk.ex
  refine pe_w (pe_make (dvs := dvs) M F hr hg hm b dv passN ha hdb he hpl) fun σ H Q ⟨env, S, r, RE, RS, h⟩ => ?_
  rcases h with ⟨y, S', ev, k⟩ | ⟨cc, S', ev, k⟩
  · simp only [evE, hf, of_some, bind_ok] at ev
    obtain ⟨q, e1, ev⟩ := bind_ok' ev
    obtain ⟨u, e2, ev⟩ := bind_ok' ev
    obtain ⟨g, ev⟩ := guard_ok ev
    cases ev
    refine ⟨env, S, r, RE, RS, .inl ⟨q.1, q.2, e1, fun vs H1 r1 F1 p1 o1 s1 t1 f1 => fun z dx hz hdx ne => ?_⟩⟩
    have sm : Same H1 (upd (upd H1 dx (.own z)) z (.ins (clsA X.K c) dx [])) := fun b' o' e' => by
      rw [upd_ne (ne_of_none e' hz), upd_ne (ne_of_none e' hdx)]; exact e'
    have ob : RepOb X.K X.w (upd (upd H1 dx (.own z)) z (.ins (clsA X.K c) dx [])) (r1 ++ [z]) (.ins c []) z := ⟨dx, [], upd_same, by rw [upd_ne ne, upd_same], trivial⟩
    have st : Stp H1 (upd (upd H1 dx (.own z)) z (.ins (clsA X.K c) dx [])) r1 (r1 ++ [z]) := (Stp.same sm).push hz
    refine im (.ref z :: vs) _ _ E0 ?_
    refine ⟨q.2 ++ [.ins c []], r1 ++ [z], .ref q.2.length :: q.1, F1, (RepL.cons (.ref (get_push r1 z s1.len)) (p1.step o1 st) : RepL X.K X.w _ _ _ _ ([] ++ F1)), st.off p1.there o1, (s1.same sm).push ob (s1.nmem hz), .inl ⟨u.1, u.2, e2, fun v3 H3 r3 F3 p3 o3 s3 t3 f3 => ⟨?_, ?_⟩⟩⟩
    · have : u.1 = .non := by
        cases h : u.1 <;> rw [h] at g <;> first | rfl | cases g
      rw [this] at p3
      exact vnon p3
    · exact k _ H3 r3 [] (.ref (t3.sub _ _ (get_push r1 z s1.len))) (by simp) s3 (t1.trans (st.trans t3)) fun _ => ⟨List.nodup_nil, by simp⟩
  · simp only [evE, hf, of_some, bind_ok] at ev
    rcases exc_bind ev with e1 | ⟨q, e1, ev⟩
    · exact ⟨env, S, r, RE, RS, .inr ⟨cc, S', e1, k⟩⟩
    · rcases exc_bind ev with e2 | ⟨u, e2, ev⟩
      · exact absurd e2 ((nf _ _).ne _ _)
      · obtain ⟨_, ev⟩ := guard_exc ev
        cases ev
end
end Ev

/-! SndQC: a comprehension that lets an exception out. -/
namespace L2
open PySem PySem.Spec PyProof.Rows

theorem note_frame {x : Value} {e1 e2 : Env} (h : e1.frame = e2.frame) : noteFrame x e1 = noteFrame x e2 := by
  unfold noteFrame PySem.frameOf
  rw [h]
section
variable {M : Model} {A : Around} {E : Value → Shared → Prop} {s : Shared} {env : Env}
/-- how a comprehension's block ends: as compPost has it, but an exception in the block's own scope -/
def compEnd (M : Model) (A : Around) (E : Value → Shared → Prop) (use : Option (Value → Sem Unit)) (Q : Value → Shared → Prop) (acc : Value) (ce : Env) (r : Result) (s' : Shared) : Prop := match r with
  | .ok f => compPost M A E use Q acc ce.locals (.ok f) s'
  | .error x => ∃ m, s'.heap.Ns ce.locals m ∧ ∀ h', Heap.SameBut ce.locals s'.heap h' → wpAny M A (passOn "comprehension.variables-let-go" x ce : Sem Value) (fun _ _ => False) E { s' with heap := h' }
theorem comp_ends {e : Expr} {scope : Scope} {pos : Pos} {newAcc first : Sem Value} {g : Comprehension} {gs : List Comprehension} {cl : List (Str × Addr)} {use : Option (Value → Sem Unit)} {Q : Value → Shared → Prop}
    (k1 : clausesOf e = g :: gs) (k2 : ∀ x, foldedSetIterable g.iter env x = pure x) (k3 : closureFor scope env = pure cl) (k4 : scope.kind = .function) (k5 : ∀ x ∈ scope.names, x.2 = .local → scope.names.lookup x.1 = some .local)
    (main : wpAny M A first (fun x t1 => wpAny M A (pyIter x) (fun it t2 => wpAny M A newAcc (fun acc t3 => wpAny M A (newFunctionEnv scope env.globals cl [] env.qual none .none (some env)) (fun cenv t4 =>
      codeAny M A (.compStart e 0 it acc { cenv with scope := relabel scope env }) (compEnd M A E use Q acc { cenv with scope := relabel scope env }) t4) E t3) E t2) E t1) E s) :
    wpAny M A (comprehension e scope env pos newAcc false first use) Q E s := by
  unfold comprehension
  rw [k3, k1]
  have idE : ∀ (y : Value) (z : Shared), E y z → E y z := fun _ _ z => z
  refine wpAny_bind (wpAny_mono main (fun x t1 p1 => ?_) idE)
  refine wpAny_bind (wpAny_standAt (wpAny_bind (wpAny_of_eq (k2 x) (wpAny_bind (wpAny_holding (wpAny_mono p1 (fun it t2 p2 => ?_) idE))))))
  refine wpAny_standIf (wpAny_bind (wpAny_mono p2 (fun acc t3 p3 => ?_) idE))
  refine wpAny_bind (wpAny_pure (wpAny_bind (wpAny_mono p3 (fun cenv t4 p4 => ?_) idE)))
  dsimp only
  have loc : ∀ (l : List (Str × NameKind)), (∀ x ∈ l, x ∈ scope.names) → ∀ x ∈ l, x.2 = .local → Env.kindOf { cenv with scope := relabel scope env } x.1 = some .local := fun l hl x hx e => lookup_relabel_local (k5 x (hl x hx) e)
  have sub : ∀ x ∈ (scope.names.filter fun x => (x.2 == .local || x.2 == .cell) && x.1 != (".0" : Str)).reverse, x ∈ scope.names := fun x hx => (List.mem_filter.mp (List.mem_reverse.mp hx)).1
  refine wpAny_holding (wpAny_bind (wpAny_attempt (wpAny_holding (wpAny_run (codeAny_mono p4 fun r t5 hr => ?_)))))
  cases r with
  | ok f =>
    have hr : compPost M A E use Q acc cenv.locals (.ok f) t5 := hr
    cases use with
    | none =>
      obtain ⟨m, hn, hr⟩ := hr
      exact wpAny_bind (wpAny_holding (wpAny_comp_letGo (cenv := { cenv with scope := relabel scope env }) k4 _ t5 m (loc _ sub) hn fun h1 m1 _ sb => wpAny_pure (hr h1 sb)))
    | some u =>
      refine wpAny_bind (wpAny_rule (wpAny_bind (wpAny_holding (wpAny_mono hr (fun _ t6 hr2 => ?_) idE))))
      obtain ⟨m, hn, hr2⟩ := hr2
      refine wpAny_bind (wpAny_comp_letGo (cenv := { cenv with scope := relabel scope env }) k4 _ t6 m (loc _ fun x hx => ?_) hn fun h1 m1 _ sb => wpAny_pure (hr2 h1 sb))
      rcases List.mem_append.mp hx with hx | hx
      · exact sub x (List.mem_of_mem_drop hx)
      · exact sub x (List.mem_of_mem_take hx)
  | error x =>
    have hr : ∃ m, t5.heap.Ns cenv.locals m ∧ ∀ h', Heap.SameBut cenv.locals t5.heap h' → wpAny M A (passOn "comprehension.variables-let-go" x { cenv with scope := relabel scope env } : Sem Value) (fun _ _ => False) E { t5 with heap := h' } := hr
    obtain ⟨m, hn, hq⟩ := hr
    cases use <;> exact wpAny_bind (wpAny_holding (wpAny_comp_letGo (cenv := { cenv with scope := relabel scope env }) k4 _ t5 m (loc _ sub) hn fun h1 m1 _ sb => wpAny_mono (hq h1 sb) (fun _ _ z => z.elim) idE))
end
/-- back from a block -/
theorem Inv.outOf {X : Cx} {pins P : List (Addr × Obj)} {σ σ' : St} {H H' : Hp} {s s' : Shared} {scope : Scope} {ce : Env} {fp : List Addr} (I3 : Inv X pins σ H s) (f3 : ∀ b ∈ fp, FpOk X pins H b) (I : Inv (X.blk s H scope ce fp) P σ' H' s') : Inv X pins σ H' s' :=
  I3.call' (ch := fp) I.os I.base I.hok I.bare fun b hb => ⟨(f3 b hb).2.2.2.1, (f3 b hb).2.1, (f3 b hb).2.2.2.2.1, (f3 b hb).2.2.2.2.2⟩
theorem frames_but {C : Addr} {h1 h2 base : Heap} (sb : Heap.SameBut C h1 h2) : ∀ (l : List Env), C ∉ frs l → h1.FunFrames base l → h2.FunFrames (PySem.W.hideAll base [C]) l
  | [], _, _ => trivial
  | env :: l, hc, ⟨hk, ⟨L, o, hf, hn, ho, hd⟩, hr⟩ => by
    have ne : L ≠ C := fun z => hc (z ▸ List.mem_filterMap.mpr ⟨env, List.mem_cons_self, hf⟩)
    refine ⟨hk, ⟨L, o, hf, ?_, by rw [sb.2 L ne]; exact ho, hd⟩, frames_but sb l (fun z => hc ?_) hr⟩
    · cases q : (PySem.W.hideAll base [C]).get? L with
      | none => rfl
      | some ob =>
        have z := PySem.W.of_hideAll _ q
        rw [hn] at z; cases z
    · obtain ⟨e, he, q⟩ := List.mem_filterMap.mp z
      exact List.mem_filterMap.mpr ⟨e, List.mem_cons_of_mem _ he, q⟩
/-- an exception on its way through the block's end -/
theorem compEnd_exc {X : Cx} {W : WX} {use : Option (Value → Sem Unit)} {Qf : Value → Shared → Prop} {acc : Value} {ce : Env} {u : Value} {s' : Shared} {o : Obj} {es : Array DictEntry} {ep : Nat} {E₁ : Value → Shared → Prop}
    (hst : X.stack = X.env :: X.outer) (hf : X.env.frame = some X.env.locals) (cf : ce.frame = X.env.frame) (tk : L2N.Takes X W) (x : L2N.XE X (fun cls d σ H => W cls d σ H ∧ H ce.locals = none) u s') (g1 : ce.locals ≠ X.env.locals) (g2 : ce.locals ∉ X.fs) (g3 : ce.locals ∈ X.ex ∨ X.s_0.heap.objs.size ≤ ce.locals) (g4 : ∀ y c, X.env.cells.lookup y = some c → c ≠ ce.locals) (g5 : ∀ p ∈ X.pn, p.1 ≠ ce.locals)
    (hc : s'.heap.get? ce.locals = some o) (hd : o.data = .dict es ep) (hk : StrKeys es) : wpAny (model X.prog X.w) X.A (noteFrame u ce) (fun _ s2 => compEnd (model X.prog X.w) X.A X.xe use Qf acc ce (.error u) s2) E₁ s' := by
  obtain ⟨a, B, sI, pins, σ, H, cls, d, rfl, I0, nb, up, sky, na, os, ag, w, g0⟩ := x
  have I : Inv X [] σ H sI := I0.pins_of fun p hp => I0.pin p (List.mem_append_left _ (by simpa using hp))
  have hfr : X.A.frames = some (X.env :: X.outer) := by rw [I.ok.frames, hst]
  rw [note_frame cf]
  rw [hst] at sky
  have fin : ∀ h1, HandSPX.HeldZ B (X.env :: X.outer) a (L2N.Zn cls d) X.env.locals h1 → s'.heap.UpToSlots h1 → compEnd (model X.prog X.w) X.A X.xe use Qf acc ce (.error (.ref a)) { s' with heap := h1 } := fun h1 hh up1 => by
    obtain ⟨sl, hc1⟩ := up1 _ _ hc (fun vs z => by rw [hd] at z; cases z)
    refine ⟨nsFind es, ⟨_, es, ep, hc1, hd, hk, fun _ => rfl⟩, fun h2 sb => ?_⟩
    obtain ⟨b1, b2, b3, oe, vs, T, oT, ts, t1, t2, t3, t4, t5, t6, t7, t8, t9⟩ := hh
    have neA : a ≠ ce.locals := fun z => by
      rw [z, hc1] at t1
      cases t1
      rw [show ({ o with slots := sl } : Obj).data = o.data from rfl, hd] at t3
      cases t3
    have neT : T ≠ ce.locals := fun z => by
      rw [z, hc1] at t7
      cases t7
      rw [show ({ o with slots := sl } : Obj).data = o.data from rfl, hd] at t8
      cases t8
    have nbC : ∀ b o, (PySem.W.hideAll B [ce.locals]).get? b = some o → b ≠ ce.locals ∧ B.get? b = some o := fun b o e => ⟨fun z => (by
      rw [PySem.W.hideAll_none [ce.locals] (show b ∈ [ce.locals] by simp [z])] at e
      cases e), PySem.W.of_hideAll _ e⟩
    have nbI : ∀ b o, (PySem.W.hideAll sI.heap [ce.locals]).get? b = some o → b ≠ ce.locals ∧ sI.heap.get? b = some o := fun b o e => ⟨fun z => (by
      rw [PySem.W.hideAll_none [ce.locals] (show b ∈ [ce.locals] by simp [z])] at e
      cases e), PySem.W.of_hideAll _ e⟩
    have I2 : Inv X [] σ H { sI with heap := PySem.W.hideAll sI.heap [ce.locals] } := I.turned (t' := sI.toks) (it := ce.locals) (fun b ob hb e => PySem.W.hideAll_get _ e (by simpa using hb)) g0 g1 g3 g4 (fun p hp => g5 p (by simpa using hp))
    have nFr : ce.locals ∉ frs X.stack := fun z => by
      rcases List.mem_cons.mp (I.stkSub _ z) with q | q
      · exact g1 q
      · exact g2 q
    have held : HandSPX.HeldZ (PySem.W.hideAll B [ce.locals]) (X.env :: X.outer) a (L2N.Zn cls d) X.env.locals h2 := by
      refine ⟨fun b ob e => ?_, ?_, ?_, oe, vs, T, oT, ts, ?_, t2, t3, t4, ?_, t6, ?_, t8, t9⟩
      · obtain ⟨q1, q2⟩ := nbC b ob e
        rw [sb.2 b q1]
        exact b1 b ob q2
      · cases q : (PySem.W.hideAll B [ce.locals]).get? a with
        | none => rfl
        | some ob =>
          have z := (nbC a ob q).2
          rw [b2] at z; cases z
      · exact frames_but sb _ (by rw [hst] at nFr; exact nFr) b3
      · rw [sb.2 a neA]; exact t1
      · cases q : (PySem.W.hideAll B [ce.locals]).get? T with
        | none => rfl
        | some ob =>
          have z := (nbC T ob q).2
          rw [t5] at z; cases z
      · rw [sb.2 T neT]; exact t7
    unfold PySem.passOn
    obtain ⟨b1', b2', b3', oe', vs', T', oT', ts', t1', t2', t3', t4', t5', t6', t7', t8', t9'⟩ := id held
    refine wpAny_bind (wpAny_field t1' t3' t4' ?_)
    rw [if_neg (show ¬ ((Value.ref T' == Value.none) = true) from by simp)]
    have go : wpAny (model X.prog X.w) X.A (setFlight (.ref a) ce.frame) (fun _ s4 => wpAny (model X.prog X.w) X.A (throw (.ref a) : Sem Value) (fun _ _ => False) X.xe s4) X.xe { s' with heap := h2 } := by
      rw [cf, hf]
      refine HandSPX.setFlight_onZ held fun h4 hh4 up4 => wpAny_throw (tk _ _ ?_)
      refine ⟨a, PySem.W.hideAll B [ce.locals], { sI with heap := PySem.W.hideAll sI.heap [ce.locals] }, [], σ, H, cls, d, rfl, I2, fun b ob e hb => ?_, fun b ob e hnf => ?_, .inr (.inr (by rw [hst]; exact hh4)), na, os, ag, w⟩
      · obtain ⟨q1, q2⟩ := nbI b ob e
        exact PySem.W.hideAll_get _ (nb b ob q2 hb) (by simpa using q1)
      · obtain ⟨q1, q2⟩ := nbI b ob e
        obtain ⟨s1, e1⟩ := up b ob q2 hnf
        obtain ⟨s2, e2⟩ := up1 b _ e1 hnf
        have e5 := (sb.2 b q1).trans e2
        obtain ⟨s3, e3⟩ := up4 b _ e5 hnf
        exact ⟨s3, e3⟩
    first
      | exact wpAny_bind (wpAny_pure (wpAny_bind go))
      | exact wpAny_bind go
  rcases sky with ⟨hB, hn, hl, oe, vs, he, hz, hd', h1⟩ | fl | hh
  · exact PXN.look_newZ L2N.Zn.steady hfr hl hf he hB hn hd' h1 hz fin
  · exact PXN.looks_onZ L2N.Zn.steady hfr hf fl fin
  · exact HandSPX.againZ hf hh.2.2.2 (fin s'.heap hh (Heap.UpToSlots.refl _))
section
variable {X : Cx} {W : WX}
theorem lcx_core {pins : List (Addr × Obj)} {s : Shared} {σ : St} {H : Hp} {Q : VK} {elt tg iter : Expr} {ifs : List Expr} {scope : Scope} {own : List (Str × Nat)} {pos pos' : Pos} {wi : TI} {g : TG} {tt : TT} {teX : WX → TE} {use : Option (Value → Sem Unit)} {Qf : Value → Shared → Prop}
    (hc : X.calm = true) (hN : X.N.Nodup) (hst : X.stack = X.env :: X.outer) (hf : X.env.frame = some X.env.locals) (tk : L2N.Takes X W) (I : Inv X pins σ H s) (hi : PI X tg iter wi) (ok : BlkOk X.N X.env.scope scope own)
    (hg : ∀ (s : Shared) (H : Hp) (C : Addr) (cl : List (Str × Addr)) (fp : List Addr), PG (X.blk s H scope (compEnvC scope cl C X.env) fp) tg g) (ht : ∀ (s : Shared) (H : Hp) (C : Addr) (cl : List (Str × Addr)) (fp : List Addr), PTs (X.blk s H scope (compEnvC scope cl C X.env) fp) ifs tt)
    (he : ∀ (s : Shared) (H : Hp) (C : Addr) (cl : List (Str × Addr)) (fp : List Addr) (pn : List (Addr × Obj)) (xe : Value → Shared → Prop) (Wb : WX), (∀ σ, PassesAt (L2N.CX X.prog X.w) ((X.blk s H scope (compEnvC scope cl C X.env) fp).tr pn xe) σ (WE Wb σ)) → PE ((X.blk s H scope (compEnvC scope cl C X.env) fp).tr pn xe) elt (teX Wb))
    (hs : ∀ x, foldedSetIterable iter X.env x = pure x) (h : tLc wi g tt (teX fun cls d _ H => W cls d σ H) (own.map (·.2)) σ H Q)
    (hRR : ∀ D C s' m H', Inv X pins σ H' s' → Q (.ref D) H' → s'.heap.Ns C m → FpOk X pins H' C → compPost (model X.prog X.w) X.A X.xe use Qf (.ref D) C (.ok .next) s') :
    wpAny (model X.prog X.w) X.A (comprehension (.ListComp elt [⟨tg, iter, ifs, 0⟩] scope pos) scope X.env pos' (newList []) false (eval iter X.env) use) Qf X.xe s := by
  have clo : ∀ y ∈ scope.names, y.2 = .free → ∃ c, X.env.cells.lookup y.1 = some c := fun y hy e => (ok.free y hy e).elim (fun k => I.ok.has _ (.inl k)) fun k => I.ok.has _ (.inr k)
  refine comp_ends (use := use) rfl hs (closure_ok clo) ok.kind (fun y hy e => by rw [ok.uniq y hy, e]) (thn (hi.run pins s σ H _ I h) fun xv s1 hx => thn hx fun itv s2 h2 => ?_)
  obtain ⟨it, fp, tn, J, H2, e, I2, T, st2, f2, q⟩ := h2
  subst e
  refine wpAny_newObj_type (newEnv_comp ?_) (by show 0 ≤ sizeLine; decide)
  generalize hD : s2.heap.objs.size = D
  obtain ⟨Wn, ⟨m0, w0⟩, turn⟩ := q D (I2.hok.fresh (Nat.le_of_eq hD))
  generalize hs3 : ({ s2 with heap := s2.heap.push { cls := .type "list", data := .seq ([] : List Value).toArray } } : Shared) = s3
  have h3 : s3.heap = s2.heap.push { cls := .type "list", data := .seq ([] : List Value).toArray } := by rw [← hs3]
  have I3 : Inv X pins σ (upd H2 D (.lst [])) s3 := by
    rw [← hs3]
    refine I2.laid (t' := s2.toks) (fun b o e => Heap.get?_push_of_some _ e) (Nat.le_of_eq hD) ⟨Nat.zero_le _, [], 0, .nil, ?_⟩
    rw [← hD]
    exact Heap.get?_push_size _ rfl
  have below : ∀ b ∈ fp, b < s2.heap.objs.size := fun b hb => let ⟨_, e, _⟩ := T.obj _ _ st2 b hb; Heap.lt_size e
  have f3 : ∀ b ∈ fp, FpOk X pins (upd H2 D (.lst [])) b ∧ b < s3.heap.objs.size := fun b hb => by
    refine ⟨⟨?_, (f2 b hb).2⟩, by rw [h3, Heap.size_push]; exact Nat.lt_succ_of_lt (below b hb)⟩
    rw [upd_ne (by rw [← hD]; exact Nat.ne_of_lt (below b hb))]
    exact (f2 b hb).1
  have st3 : tn 0 s3.heap := T.keep _ _ _ st2 fun b _ o e => by rw [h3]; exact Heap.get?_push_of_some _ e
  have I4 := block_start I3 ok hN f3
  have pg := hg s3 (upd H2 D (.lst [])) s3.heap.objs.size (cellsFrom (s3.heap.objs.size + 1) scope.names (cloFrom X.env.cells scope.names [])) fp
  have pt := ht s3 (upd H2 D (.lst [])) s3.heap.objs.size (cellsFrom (s3.heap.objs.size + 1) scope.names (cloFrom X.env.cells scope.names [])) fp
  have pe := he s3 (upd H2 D (.lst [])) s3.heap.objs.size (cellsFrom (s3.heap.objs.size + 1) scope.names (cloFrom X.env.cells scope.names [])) fp
  show codeAny _ _ (.compStart (.ListComp elt [⟨tg, iter, ifs, 0⟩] scope pos) 0 (.ref it) (.ref D) (compEnvC scope (cellsFrom (s3.heap.objs.size + 1) scope.names (cloFrom X.env.cells scope.names [])) s3.heap.objs.size X.env)) (compEnd (model X.prog X.w) X.A X.xe use Qf (.ref D) (compEnvC scope (cellsFrom (s3.heap.objs.size + 1) scope.names (cloFrom X.env.cells scope.names [])) s3.heap.objs.size X.env)) { s3 with heap := pushCells (s3.heap.push { cls := .type "dict", data := .dict #[] }) scope.names }
  have ent : ∀ b ∈ fp, (upd H2 D (.lst [])) b = none := fun b hb => (f3 b hb).1.1
  generalize hce : compEnvC scope (cellsFrom (s3.heap.objs.size + 1) scope.names (cloFrom X.env.cells scope.names [])) s3.heap.objs.size X.env = ce at I4 pg pt pe ⊢
  have cL : ce.locals = s3.heap.objs.size := by subst hce; rfl
  have cF : ce.frame = X.env.frame := by subst hce; rfl
  generalize hH3 : upd H2 D (.lst []) = H3 at I3 I4 pg pt pe w0 ent f3
  generalize hs4 : ({ s3 with heap := pushCells (s3.heap.push { cls := .type "dict", data := .dict #[] }) scope.names } : Shared) = s4 at I4 ⊢
  have st4 : tn 0 s4.heap := T.keep _ _ _ st3 fun b _ o e => by rw [← hs4]; exact pushCells_keeps _ _ _ _ (Heap.get?_push_of_some _ e)
  have calmB : ∀ {σ' : St} {H' : Hp} {s' : Shared}, Inv (X.blk s3 H3 scope ce fp) [] σ' H' s' → (∀ b ∈ fp, H' b = none) → ∀ b ∈ fp, FpOk (X.blk s3 H3 scope ce fp) [] H' b := fun {σ' H' s'} I' hn b hb =>
    ⟨hn b hb, (I'.ok.exf b hb).1, I'.ok.exfs b hb, .inl hb, fun x c e => (I'.ok.exf b hb).2 x c e, fun p hp => absurd (show p ∈ ([] : List (Addr × Obj)) ++ [] from hp) (by simp)⟩
  -- an exception of the item
  have leaves : ∀ (P : List (Addr × Obj)) (xe : Value → Shared → Prop), (∀ u z, notedBy (model X.prog X.w) X.A ce (fun e s' => compEnd (model X.prog X.w) X.A X.xe use Qf (.ref D) ce (.error e) s') u z → xe u z) →
      ∀ σ', PassesAt (L2N.CX X.prog X.w) ((X.blk s3 H3 scope ce fp).tr ((X.blk s3 H3 scope ce fp).pn ++ P) xe) σ' (WE (fun cls d _ H => W cls d σ H) σ') := fun P xe hxe σ' pins' H' s' u s'' I' c => by
    have Ib : Inv (X.blk s3 H3 scope ce fp) P σ' H' s' := I'.ofTry I4.ok
    obtain ⟨m, ⟨o, es, ep, e1, e2, e3, _⟩, _⟩ := Ib.loc
    have e1 : s'.heap.get? ce.locals = some o := e1
    have free : H' ce.locals = none := Ib.free
    have IX : Inv X pins σ H' s' := Inv.outOf I3 (fun b hb => (f3 b hb).1) Ib
    have nC : H' s3.heap.objs.size = none := by rw [← cL]; exact free
    obtain ⟨k0, k1, k2, k3, k4, k5⟩ := I3.fpOk (Nat.le_refl _) nC
    rw [← cL] at k0 k1 k2 k3 k4 k5
    have nFr : ce.locals ∉ frs X.stack := fun z => (List.mem_cons.mp (IX.stkSub _ z)).elim k1 k2
    obtain ⟨a, B, H2', cls, d, rfl, fl, hok, ub, na, os, ag, hE⟩ := c
    have hB : B.get? ce.locals = some o := ub.keep _ o e1 free nFr
    have x : L2N.XE X (fun cls d σ H => W cls d σ H ∧ H ce.locals = none) (.ref a) s'' := L2N.XE.of_call (E := fun cls d H => W cls d σ H ∧ H ce.locals = none) IX (fun _ _ _ h => h) ⟨a, B, H2', cls, d, rfl, fl, hok, ub, na, os, ag, hE, ub.free _ o e1 free⟩
    exact hxe _ _ (compEnd_exc hst hf cF tk x k1 k2 k3 k4 (fun p hp => k5 p (List.mem_append_left _ hp)) (fl.1 _ o hB) e2 e3)
  have loop : codeAny (model X.prog X.w) X.A (.compLoop (.ListComp elt [⟨tg, iter, ifs, 0⟩] scope pos) 0 (.ref it) (.ref D) ce) (compEnd (model X.prog X.w) X.A X.xe use Qf (.ref D) ce) s4 := by
    refine compLoop_any (fun n s' => ∃ i H', Inv (X.blk s3 H3 scope ce fp) [] (wipe σ (own.map (·.2))) H' s' ∧ tn i s'.heap ∧ (∀ b ∈ fp, H' b = none) ∧ Wn i n H') ?_ m0 ⟨0, H3, I4, st4, ent, w0⟩
    rintro n s5 ⟨i, H5, I5, st5, n5, w5⟩
    rcases turn i n H5 w5 with ⟨halt, qq⟩ | ⟨go, Nx, hNx, step⟩
    · refine thnF (T.done (X.blk s3 H3 scope ce fp) rfl rfl rfl hc i [] s5 _ H5 (fun _ _ => False) I5 (calmB I5 n5) st5 halt) fun r s6 ⟨hr, I6⟩ => ?_
      subst hr
      have nC : H5 s3.heap.objs.size = none := by rw [← cL]; exact I6.free
      obtain ⟨m, hn, _⟩ := I6.loc
      have hn : s6.heap.Ns ce.locals m := hn
      have fin := hRR D s3.heap.objs.size s6 m H5 (Inv.outOf I3 (fun b hb => (f3 b hb).1) I6) qq (by rw [← cL]; exact hn) (I3.fpOk (Nat.le_refl _) nC)
      rw [← cL] at fin
      exact fin
    · refine thnF (T.item (X.blk s3 H3 scope ce fp) rfl rfl rfl hc i [] s5 _ H5 (fun _ _ => False) I5 (calmB I5 n5) st5 go) fun r s6 ⟨u, hr, h6⟩ => ?_
      subst hr
      refine thnF h6 fun _ s7 ⟨x, H7, I7, r7, y7, st7, n7⟩ => ?_
      refine thnF (pg.run _ s7 _ H7 x u _ (I7.pinned (calmB I7 n7) (T.obj _ _ st7)) r7 (step x H7 y7)) fun _ s8 ⟨σ8, H8, I8, hw8, q8⟩ => ?_
      refine thnF (pt.run _ s8 σ8 H8 _ I8 q8) fun b s9 ⟨H9, I9, q9⟩ => ?_
      have next : ∀ {s' : Shared} {H' : Hp}, Inv (X.blk s3 H3 scope ce fp) ([] ++ pinsAt fp s7.heap) σ8 H' s' → Nx H' → ∃ m, m < n ∧ ∃ i H', Inv (X.blk s3 H3 scope ce fp) [] (wipe σ (own.map (·.2))) H' s' ∧ tn i s'.heap ∧ (∀ b ∈ fp, H' b = none) ∧ Wn i m H' := fun {s' H'} I' nx => by
        obtain ⟨m', hm, w'⟩ := hNx H' nx
        have kept : ∀ b ∈ fp, ∀ o, s7.heap.get? b = some o → s'.heap.get? b = some o ∧ H' b = none := fun b hb o e =>
          let z := I'.pin (b, o) (List.mem_append_right _ (List.mem_append_right _ (mem_pinsAt hb e)))
          ⟨z.1, z.2.1⟩
        refine ⟨m', hm, i + 1, H', (I'.unpinned (pins := [])).weak (by rw [← hw8, wipe_length]) (fun j v e => ?_), T.keep _ _ _ st7 fun b hb o e => (kept b hb o e).1, fun b hb => ?_, w'⟩
        · rw [← hw8] at e
          exact (wipe_some e).1
        · obtain ⟨o, e, _⟩ := T.obj _ _ st7 b hb
          exact (kept b hb o e).2
      cases b with
      | false =>
        simp only [Bool.false_eq_true, if_false] at q9 ⊢
        exact next I9 q9
      | true =>
        simp only [if_true] at q9 ⊢
        have pe2 := pe ((X.blk s3 H3 scope ce fp).pn ++ ([] ++ pinsAt fp s7.heap)) (notedBy (model X.prog X.w) X.A ce fun e s' => compEnd (model X.prog X.w) X.A X.xe use Qf (.ref D) ce (.error e) s') (fun cls d _ H => W cls d σ H) (leaves _ _ fun _ _ z => z)
        refine wpAny_mono (pe2.run [] s9 σ8 H9 _ (I9.toTry _) q9) (fun z s10 ⟨yv, H10, I10, r10, acc, hD10, hz10, nx⟩ => ?_) fun _ _ z => z
        exact app_ok (X := X.blk s3 H3 scope ce fp) (I10.ofTry I4.ok) hD10 hz10 r10 fun s11 I11 => next I11 nx
  exact codeAny_compStart_list loop (T.self X.A 0 _ _ _ st4 loop)
end
end L2
namespace L2
open PySem PySem.Spec PyProof.Rows
section
variable {X : Cx} {W : WX}
/-- as a value -/
theorem pe_lcX {elt tg iter : Expr} {ifs : List Expr} {scope : Scope} {own : List (Str × Nat)} {pos : Pos} {wi : TI} {g : TG} {tt : TT} {teX : WX → TE} (hc : X.calm = true) (hN : X.N.Nodup) (hst : X.stack = X.env :: X.outer) (hf : X.env.frame = some X.env.locals) (tk : L2N.Takes X W) (hi : PI X tg iter wi) (ok : BlkOk X.N X.env.scope scope own)
    (hg : ∀ (s : Shared) (H : Hp) (C : Addr) (cl : List (Str × Addr)) (fp : List Addr), PG (X.blk s H scope (compEnvC scope cl C X.env) fp) tg g) (ht : ∀ (s : Shared) (H : Hp) (C : Addr) (cl : List (Str × Addr)) (fp : List Addr), PTs (X.blk s H scope (compEnvC scope cl C X.env) fp) ifs tt)
    (he : ∀ (s : Shared) (H : Hp) (C : Addr) (cl : List (Str × Addr)) (fp : List Addr) (pn : List (Addr × Obj)) (xe : Value → Shared → Prop) (Wb : WX), (∀ σ, PassesAt (L2N.CX X.prog X.w) ((X.blk s H scope (compEnvC scope cl C X.env) fp).tr pn xe) σ (WE Wb σ)) → PE ((X.blk s H scope (compEnvC scope cl C X.env) fp).tr pn xe) elt (teX Wb))
    (hs : ∀ x, foldedSetIterable iter X.env x = pure x) : PE X (.ListComp elt [⟨tg, iter, ifs, 0⟩] scope pos) (fun σ H Q => tLc wi g tt (teX fun cls d _ H => W cls d σ H) (own.map (·.2)) σ H Q) := by
  refine ⟨fun pins s σ H Q I h => ?_⟩
  rw [eval_ListComp]
  refine lcx_core hc hN hst hf tk I hi ok hg ht he hs h fun D C s' m H' I' q hn f => ⟨m, hn, fun h2 sb => ?_⟩
  obtain ⟨k0, k1, k2, k3, k4, k5⟩ := f
  exact ⟨.ref D, H', I'.turned (t' := s'.toks) (fun b o hb e => (sb.2 b hb).trans e) k0 k1 k3 k4 k5, rfl, q⟩
/-- name = [..] on one line, the name a local -/
theorem ps_setLcX {i : Nat} {y : Str} {py : Pos} {elt tg iter : Expr} {ifs : List Expr} {scope : Scope} {own : List (Str × Nat)} {pos spos : Pos} {wi : TI} {g : TG} {tt : TT} {teX : WX → TE} (hc : X.calm = true) (hN : X.N.Nodup) (hst : X.stack = X.env :: X.outer) (hf : X.env.frame = some X.env.locals) (tk : L2N.Takes X W) (hy : X.N[i]? = some y) (hyl : X.env.scope.names.lookup y = some .local)
    (hsw : swapsWith (.ListComp elt [⟨tg, iter, ifs, 0⟩] scope pos) (some (.Name y py)) spos.line X.env = pure true) (hi : PI X tg iter wi) (ok : BlkOk X.N X.env.scope scope own)
    (hg : ∀ (s : Shared) (H : Hp) (C : Addr) (cl : List (Str × Addr)) (fp : List Addr), PG (X.blk s H scope (compEnvC scope cl C X.env) fp) tg g) (ht : ∀ (s : Shared) (H : Hp) (C : Addr) (cl : List (Str × Addr)) (fp : List Addr), PTs (X.blk s H scope (compEnvC scope cl C X.env) fp) ifs tt)
    (he : ∀ (s : Shared) (H : Hp) (C : Addr) (cl : List (Str × Addr)) (fp : List Addr) (pn : List (Addr × Obj)) (xe : Value → Shared → Prop) (Wb : WX), (∀ σ, PassesAt (L2N.CX X.prog X.w) ((X.blk s H scope (compEnvC scope cl C X.env) fp).tr pn xe) σ (WE Wb σ)) → PE ((X.blk s H scope (compEnvC scope cl C X.env) fp).tr pn xe) elt (teX Wb))
    (hs : ∀ x, foldedSetIterable iter X.env x = pure x) : PS X (.Assign [.Name y py] (.ListComp elt [⟨tg, iter, ifs, 0⟩] scope pos) spos) (tAsg (fun σ H Q => tLc wi g tt (teX fun cls d _ H => W cls d σ H) (own.map (·.2)) σ H Q) (gName i)) := by
  refine ⟨fun pins s σ H D I h => ?_⟩
  rw [exec_Assign_Name_used _ _ _ _ hsw]
  refine wpAny_bind (wpAny_standAt (wpAny_bind ?_))
  show wpAny _ X.A (do let _ ← comprehension (.ListComp elt [⟨tg, iter, ifs, 0⟩] scope pos) scope X.env (firstIterPos [⟨tg, iter, ifs, 0⟩] pos) (newList []) false (eval iter X.env) (some (assign (.Name y py) X.env))) _ _ s
  have h2 : tLc wi g tt (teX fun cls d _ H => W cls d σ H) (own.map (·.2)) σ H (fun x H1 => gName i x σ H1 D.nx) := h
  refine wpAny_bind (thn (lcx_core (Qf := fun _ s' => SP X pins D .next s') hc hN hst hf tk I hi ok hg ht he hs h2 fun L C s' m H' I' q hn f => ?_) fun _ s' hq => wpAny_pure (wpAny_pure hq))
  show wpAny _ _ (assign (.Name y py) X.env (.ref L)) _ _ _
  refine wpAny_assign_Name (store_ok2 (v := V.ref L) I' hN hy (.inl hyl) rfl (fun s2 I2 ⟨a, sb, ha⟩ => ?_) (.inr hyl))
  obtain ⟨k0, k1, k2, k3, k4, k5⟩ := f
  have ne : C ≠ a := ha.elim (fun z => by rw [z]; exact k1) fun z e => k4 y a z e.symm
  exact ⟨m, hn.sameBut sb ne, fun h3 sb3 => ⟨_, H', I2.turned (t' := s2.toks) (fun b o hb e => (sb3.2 b hb).trans e) k0 k1 k3 k4 k5, q⟩⟩
end
end L2
namespace Ev
open PySem PySem.Spec PyProof.Rows L2
def cmpWX (K : PySem.W.Frag) (w : World) (f : Val → Sto → Res (Option Val × Sto)) (items : List Val) (fin : List Val → Sto → Prop) (exf : Nat → Sto → Prop) (H H1 : Hp) (r1 : List Addr) (D : Addr) (i m : Nat) (H2 : Hp) : Prop :=
  m = items.length - i ∧ i ≤ items.length ∧ ∃ Si r2 avs acc Fa, RSto K w H2 r2 Si ∧ Stp H1 H2 r1 r2 ∧ D ∉ r2 ∧ H2 D = some (.lst avs) ∧ RepL K w H2 r2 acc avs Fa ∧
    (∀ a, a ∈ Fa → a ∉ r2 ∧ a ≠ D ∧ H a = none) ∧ Fa.Nodup ∧ acc.length ≤ i ∧ ((∃ rest S2, mapR f (items.drop i) Si = .ok (rest, S2) ∧ fin (acc ++ rest) S2) ∨ ∃ c S2, mapR f (items.drop i) Si = .exc c S2 ∧ exf c S2)
theorem mapR_cons {f : Val → Sto → Res (Option Val × Sto)} {x : Val} {l : List Val} {S : Sto} {fin : List Val → Sto → Prop} {exf : Nat → Sto → Prop} {acc : List Val} (h : (∃ rest S2, mapR f (x :: l) S = .ok (rest, S2) ∧ fin (acc ++ rest) S2) ∨ ∃ c S2, mapR f (x :: l) S = .exc c S2 ∧ exf c S2) :
    (∃ c S2, f x S = .exc c S2 ∧ exf c S2) ∨ ∃ ov S3, f x S = .ok (ov, S3) ∧ ((∃ rest S2, mapR f l S3 = .ok (rest, S2) ∧ fin (acc ++ (ov.toList ++ rest)) S2) ∨ ∃ c S2, mapR f l S3 = .exc c S2 ∧ exf c S2) := by
  rcases h with ⟨rest, S2, h, k⟩ | ⟨c, S2, h, k⟩
  · simp only [mapR] at h
    obtain ⟨⟨ov, S3⟩, e1, h⟩ := bind_ok' h
    obtain ⟨⟨rest', S5⟩, e2, h⟩ := bind_ok' h
    cases h
    refine .inr ⟨ov, S3, e1, .inl ⟨rest', _, e2, ?_⟩⟩
    cases ov <;> exact k
  · simp only [mapR] at h
    rcases exc_bind h with h | ⟨⟨ov, S3⟩, e1, h⟩
    · exact .inl ⟨c, S2, h, k⟩
    · rcases exc_bind h with h | ⟨q, e2, h⟩
      · exact .inr ⟨ov, S3, e1, .inr ⟨c, S2, h, k⟩⟩
      · cases h
section
variable {K : PySem.W.Frag} {w : World} {pg : Pg} {cl : CallT}
/-- a comprehension that may raise, as the layer reads it -/
theorem lc_readX {W : WX} {cx : E} {j : Nat} {it : It} {cs : Es} {fr : Bool} {σ : L2.St} {H : Hp} {Q : VK} (hj : j < σ.length) (nI : ∀ env S, NX (evI pg cl it env S)) (nC : ∀ env S, NX (evC pg cl cs env S)) (h : TEvX K w W (evE pg cl (.comp cx j it cs)) true σ H Q) :
    tLc (TIv K w (evI pg cl it) fr) (gName j) (TCv K w (evC pg cl cs)) (TEvX K w (fun cls d _ H => W cls d σ H) (evE pg cl cx) (fresh cx)) [j] σ H Q := by
  obtain ⟨env, S, r, RE, RS, h⟩ := h
  obtain ⟨items, S1, e1, hm⟩ : ∃ items S1, evI pg cl it env S = .ok (items, S1) ∧ ((∃ rest S2, mapR (cmpF pg cl cx j cs env) items S1 = .ok (rest, S2) ∧ Pst K w H r (.lst ([] ++ rest)) S2 true Q) ∨ ∃ c S2, mapR (cmpF pg cl cx j cs env) items S1 = .exc c S2 ∧ ExcP K w W σ H r c S2) := by
    rcases h with ⟨x, S', ev, k⟩ | ⟨c, S', ev, k⟩
    · simp only [evE] at ev
      obtain ⟨⟨items, S1⟩, e1, ev⟩ := bind_ok' ev
      obtain ⟨⟨xs, S2⟩, e2, ev⟩ := bind_ok' ev
      cases ev
      exact ⟨items, S1, e1, .inl ⟨xs, S2, e2, k⟩⟩
    · simp only [evE] at ev
      rcases exc_bind ev with e | ⟨⟨items, S1⟩, e1, ev⟩
      · exact absurd e ((nI _ _).ne _ _)
      rcases exc_bind ev with e | ⟨⟨xs, S2⟩, e2, ev⟩
      · exact ⟨items, S1, e1, .inr ⟨c, S', e, k⟩⟩
      · cases ev
  refine ⟨env, S, r, items, S1, RE, RS, e1, fun J H1 r1 G iok og s1 t1 _ => fun D hD => ?_⟩
  refine ⟨cmpWX K w (cmpF pg cl cx j cs env) items (fun xs S2 => Pst K w H r (.lst xs) S2 true Q) (fun c S2 => ExcP K w W σ H r c S2) H H1 r1 D, ?_, ?_⟩
  · refine ⟨items.length - 0, rfl, Nat.zero_le _, S1, r1, [], [], [], s1.same (same_upd hD), .upd hD, s1.nmem hD, upd_same, .nil, by simp, List.nodup_nil, Nat.le_refl _, ?_⟩
    rw [List.drop_zero]
    exact hm
  · intro i m H2 ⟨hm, hi, Si, r2, avs, acc, Fa, s2, t2, nD, hD2, la, oa, na, ln, hR⟩
    have kG : Kp H1 H2 G := t2.kp fun a m => (og a m).1
    rcases Nat.lt_or_eq_of_le hi with hi | rfl
    · refine .inr ⟨iok.go i H2 kG hi, cmpWX K w (cmpF pg cl cx j cs env) items (fun xs S2 => Pst K w H r (.lst xs) S2 true Q) (fun c S2 => ExcP K w W σ H r c S2) H H1 r1 D (i + 1) (items.length - (i + 1)), fun H' q => ⟨_, by omega, q⟩, fun v H3 hy => ?_⟩
      obtain ⟨sm, F, rp, sub⟩ := iok.yld i items[i] H2 r2 v H3 kG t2.sub (List.getElem?_eq_getElem hi) hy
      have t3 : Stp H2 H3 r2 r2 := .same sm
      have oF : ∀ a, a ∈ F → a ∉ r2 := fun a m => t2.off (F := G) (fun a m => (og a m).2) (fun a m => (og a m).1) a (sub a m)
      rw [List.drop_eq_getElem_cons hi] at hR
      have hR := mapR_cons (fin := fun xs S2 => Pst K w H r (.lst xs) S2 true Q) (exf := fun c S2 => ExcP K w W σ H r c S2) (acc := acc) hR
      obtain ⟨⟨b, S4⟩, e4⟩ : ∃ q, evC pg cl cs (env.set j (some items[i])) Si = .ok q := by
        rcases hR with ⟨c, S2, e, _⟩ | ⟨ov, S3, e, _⟩
        · unfold cmpF at e
          rcases exc_bind e with e | ⟨q, e, _⟩
          · exact absurd e ((nC _ _).ne _ _)
          · exact ⟨q, e⟩
        · unfold cmpF at e
          obtain ⟨q, e, _⟩ := bind_ok' e
          exact ⟨q, e⟩
      have RE3 : REnv K w H3 r2 (env.set j (some items[i])) ((wipe σ [j]).set j (some v)) := ((RE.step t1).step (t2.trans t3)).wput hj rp oF
      refine ⟨wipe_set σ j _, env.set j (some items[i]), Si, r2, b, S4, RE3, s2.same sm, e4, fun H4 r4 s4 t4 => ?_⟩
      have nD4 : D ∉ r4 := t4.off (F := [D]) (fun a m => by rw [List.mem_singleton.mp m, sm _ _ hD2]; exact fun z => nomatch z) (fun a m => by rw [List.mem_singleton.mp m]; exact nD) D (List.mem_singleton.mpr rfl)
      have hD4 : H4 D = some (.lst avs) := t4.keep _ _ (sm _ _ hD2) nD
      have la4 : RepL K w H4 r4 acc avs Fa := la.step (fun a m => (oa a m).1) (t3.trans t4)
      have oa4 : ∀ a, a ∈ Fa → a ∉ r4 := (t3.trans t4).off la.there fun a m => (oa a m).1
      have tt4 := t1.trans (t2.trans (t3.trans t4))
      cases b with
      | false =>
        show cmpWX K w (cmpF pg cl cx j cs env) items (fun xs S2 => Pst K w H r (.lst xs) S2 true Q) (fun c S2 => ExcP K w W σ H r c S2) H H1 r1 D (i + 1) (items.length - (i + 1)) H4
        rcases hR with ⟨c, S2, e, _⟩ | ⟨ov, S3, e, hR⟩
        · unfold cmpF at e
          rw [e4, bind_ok, if_neg (by exact fun z => nomatch z)] at e
          cases e
        · unfold cmpF at e
          rw [e4, bind_ok, if_neg (by exact fun z => nomatch z)] at e
          cases e
          exact ⟨rfl, hi, _, r4, avs, acc, Fa, s4, t2.trans (t3.trans t4), nD4, hD4, la4, fun a m => ⟨oa4 a m, (oa a m).2⟩, na, by omega, hR⟩
      | true =>
        refine ⟨env.set j (some items[i]), S4, r4, RE3.step t4, s4, ?_⟩
        rcases hR with ⟨c, S2, e, k⟩ | ⟨ov, S3, e, hR⟩
        · unfold cmpF at e
          rw [e4, bind_ok, if_pos rfl] at e
          rcases exc_bind e with e | ⟨q, _, e⟩
          · exact .inr ⟨c, S2, e, fun H' r' a b => k H' r' a (tt4.trans b)⟩
          · obtain ⟨_, e⟩ := guard_exc e
            cases e
        · unfold cmpF at e
          rw [e4, bind_ok, if_pos rfl] at e
          obtain ⟨⟨y, S6⟩, e6, e⟩ := bind_ok' e
          obtain ⟨g, e⟩ := guard_ok e
          cases e
          refine .inl ⟨y, S6, e6, fun yv H5 r5 F5 p5 o5 s5 t5 f5 => ?_⟩
          have nD5 : D ∉ r5 := t5.off (F := [D]) (fun a m => by rw [List.mem_singleton.mp m, hD4]; exact fun z => nomatch z) (fun a m => by rw [List.mem_singleton.mp m]; exact nD4) D (List.mem_singleton.mpr rfl)
          have hD5 : H5 D = some (.lst avs) := t5.keep _ _ hD4 nD4
          have la5 := la4.step oa4 t5
          have oa5 := t5.off la4.there oa4
          obtain ⟨n5, g5⟩ := keep_new g p5 f5
          have nDF : D ∉ F5 := fun m => by have := g5 D m; rw [hD4] at this; cases this
          have nDa : D ∉ Fa := fun m => (oa D m).2.1 rfl
          have h0 : ∀ a, a ∈ F5 → H a = none := fun a m => tt4.none (g5 a m)
          refine ⟨avs, hD5, ?_, rfl, hi, S6, r5, avs ++ [yv], acc ++ [y], Fa ++ F5, s5.upd hD5 nD5, ?_, nD5, upd_same, (la5.snoc p5).keep ids (kp_upd hD5 (by simp [nDa, nDF])), fun a m => ?_, ?_, ?_, ?_⟩
          · rw [← la.length]
            exact Nat.lt_of_le_of_lt ln (Nat.lt_of_lt_of_le hi iok.len)
          · exact (t2.trans (t3.trans (t4.trans t5))).over hD
          · rcases List.mem_append.mp m with m | m
            · exact ⟨oa5 a m, (oa a m).2⟩
            · exact ⟨o5 a m, fun e => nDF (e ▸ m), h0 a m⟩
          · exact List.nodup_append.mpr ⟨na, n5, fun a m b m' e => la4.there a m (by rw [e]; exact g5 b m')⟩
          · rw [List.length_append]
            show acc.length + 1 ≤ i + 1
            omega
          · rcases hR with ⟨rest, S2, e, k⟩ | ⟨c, S2, e, k⟩
            · exact .inl ⟨rest, S2, e, by rw [List.append_assoc]; exact k⟩
            · exact .inr ⟨c, S2, e, k⟩
    · refine .inl ⟨iok.stop H2 kG, ?_⟩
      rw [List.drop_length] at hR
      rcases hR with ⟨rest, S2, e, k⟩ | ⟨c, S2, e, k⟩
      · simp only [mapR] at e
        cases e
        rw [List.append_nil] at k
        refine k _ H2 r2 (D :: Fa) (.lst hD2 la) (fun a m => ?_) s2 (t1.trans t2) fun _ => ⟨List.nodup_cons.mpr ⟨fun m => (oa D m).2.1 rfl, na⟩, fun a m => ?_⟩
        · rcases List.mem_cons.mp m with rfl | m
          · exact nD
          · exact (oa a m).1
        · rcases List.mem_cons.mp m with rfl | m
          · exact t1.none hD
          · exact (oa a m).2.2
      · cases e
theorem blk_tg {X : Cx} {x : Str} {j : Nat} {p1 : Pos} {scope : Scope} (hN : X.N.Nodup) (hx : X.N[j]? = some x) (hl : locC scope X.env.scope x = true) (s : Shared) (H : Hp) (C : Addr) (cl' : List (Str × Addr)) (fp : List Addr) : PG (X.blk s H scope (compEnvC scope cl' C X.env) fp) (.Name x p1) (gName j) := by
  unfold locC at hl
  simp only [Bool.or_eq_true, Bool.and_eq_true, decide_eq_true_eq] at hl
  rcases hl with hl | ⟨hl, hl2⟩
  · exact pg_name hN hx (.inl hl) (.inr hl)
  · exact pg_name hN hx (.inr hl) (.inl (by show (scope.names.lookup x == some NameKind.cell) = true; rw [hl2]; rfl))
/-- a comprehension whose item may raise -/
theorem x_comp {X : Cx} {W : WX} {x : Str} {j : Nat} {p1 pos : Pos} {iter elt : Expr} {ifs : List Expr} {scope : Scope} {it : It} {cx : E} {cs : Es} {fr : Bool} (hc : X.calm = true) (hN : X.N.Nodup) (hst : X.stack = X.env :: X.outer) (hf : X.env.frame = some X.env.locals) (tk : L2N.Takes X W) (hi : PI X (.Name x p1) iter (TIv X.K X.w (evI pg cl it) fr)) (nI : ∀ env S, NX (evI pg cl it env S)) (nC : ∀ env S, NX (evC pg cl cs env S)) (ok : blkC X.N X.env.scope scope x j = true) (hl : locC scope X.env.scope x = true)
    (ht : ∀ (s : Shared) (H : Hp) (C : Addr) (cl' : List (Str × Addr)) (fp : List Addr), PTs (blkX X scope s H C cl' fp) ifs (TCv X.K X.w (evC pg cl cs)))
    (he : ∀ (s : Shared) (H : Hp) (C : Addr) (cl' : List (Str × Addr)) (fp : List Addr) (pn : List (Addr × Obj)) (xe : Value → Shared → Prop) (Wb : WX), (∀ σ, PassesAt (L2N.CX X.prog X.w) ((blkX X scope s H C cl' fp).tr pn xe) σ (WE Wb σ)) → PE ((blkX X scope s H C cl' fp).tr pn xe) elt (TEvX X.K X.w Wb (evE pg cl cx) (fresh cx)))
    (hs : noSet iter = true) : PE X (.ListComp elt [⟨.Name x p1, iter, ifs, 0⟩] scope pos) (TEvX X.K X.w W (evE pg cl (.comp cx j it cs)) true) ∧
      (∀ (i : Nat) (y : Str) (py spos : Pos), X.N[i]? = some y → X.env.scope.names.lookup y = some .local → swapsWith (.ListComp elt [⟨.Name x p1, iter, ifs, 0⟩] scope pos) (some (.Name y py)) spos.line X.env = pure true →
        PS X (.Assign [.Name y py] (.ListComp elt [⟨.Name x p1, iter, ifs, 0⟩] scope pos) spos) (tAsg (TEvX X.K X.w W (evE pg cl (.comp cx j it cs)) true) (gName i))) := by
  obtain ⟨bo, hx⟩ := blk_of ok
  have hj : ∀ {pins σ H s}, L2.Inv X pins σ H s → j < σ.length := fun I => by rw [I.len]; exact (List.getElem?_eq_some_iff.mp hx).1
  refine ⟨⟨fun pins s σ H Q I q => (pe_lcX (teX := fun W => TEvX X.K X.w W (evE pg cl cx) (fresh cx)) hc hN hst hf tk hi bo (blk_tg hN hx hl) ht he (fold_it hs)).run pins s σ H Q I (lc_readX (hj I) nI nC q)⟩, fun i y py spos hy hyl hsw => ⟨fun pins s σ H D I q => (ps_setLcX (teX := fun W => TEvX X.K X.w W (evE pg cl cx) (fresh cx)) hc hN hst hf tk hy hyl hsw hi bo (blk_tg hN hx hl) ht he (fold_it hs)).run pins s σ H D I (lc_readX (hj I) nI nC q)⟩⟩
end
end Ev

/-! SndF: statements: slots, who owns what, the outcome. -/
namespace Ev
open PySem PySem.Spec PyProof.Rows L2

def own (ow : List Bool) (i : Nat) : Bool := ow[i]?.getD false
/-- lab: which slot owns an address -/
structure RelS (K : PySem.W.Frag) (w : World) (ow : List Bool) (H0 : Hp) (r : List Addr) (lab : Addr → Option Nat) (env : Env) (σ : L2.St) (H : Hp) : Prop where
  at_ : ∀ (i : Nat) (x : Val), env[i]? = some (some x) → ∃ v F, σ[i]? = some (some v) ∧ Rep K w H r x v F ∧ (∀ a, a ∈ F → a ∉ r) ∧ (own ow i = true → F.Nodup) ∧ ∀ a, a ∈ F → lab a = if own ow i = true then some i else none
  new : ∀ (a : Addr) (i : Nat), lab a = some i → H0 a = none ∧ H a ≠ none ∧ a ∉ r
  up : ∀ a, H0 a ≠ none → H a ≠ none
  len : σ.length = ow.length
structure StS (mu : Nat → Bool) (lab lab' : Addr → Option Nat) (H H' : Hp) (r r' : List Addr) : Prop where
  keep : ∀ b o, H b = some o → b ∉ r → (∀ i, lab b = some i → mu i = false) → H' b = some o ∧ lab' b = lab b
  there : ∀ b, H b ≠ none → H' b ≠ none
  im : ∀ a o, H a = some o → immut o → H' a = some o
  ext : ∃ more, r' = r ++ more ∧ ∀ a, a ∈ more → H a = none
def Fin (K : PySem.W.Frag) (w : World) (ow : List Bool) (H0 : Hp) (mu : Nat → Bool) (lab : Addr → Option Nat) (H : Hp) (r : List Addr) (out : Out) (D : Ends) : Prop :=
  match out with
  | .ok .nx env' S' => ∀ σ' H' r' lab', RelS K w ow H0 r' lab' env' σ' H' → RSto K w H' r' S' → StS mu lab lab' H H' r r' → D.nx σ' H'
  | .ok (.rt x) _ S' => ∀ v H' r' F lab', Rep K w H' r' x v F → (∀ a, a ∈ F → a ∉ r') → RSto K w H' r' S' → StS mu lab lab' H H' r r' → F.Nodup → (∀ a, a ∈ F → H0 a = none) → D.rt v H'
  | _ => False
def TSv (K : PySem.W.Frag) (w : World) (ow : List Bool) (H0 : Hp) (mu : Nat → Bool) (f : Env → Sto → Out) : TS := fun D σ H =>
  ∃ env S r lab, RelS K w ow H0 r lab env σ H ∧ RSto K w H r S ∧ Fin K w ow H0 mu lab H r (f env S) D

section
variable {K : PySem.W.Frag} {w : World} {ow : List Bool} {H0 H H1 H2 : Hp} {mu : Nat → Bool} {lab lab1 lab2 : Addr → Option Nat} {r r1 r2 : List Addr} {env : Env} {σ : L2.St}
theorem StS.stp (s : Stp H H1 r r1) : StS mu lab lab H H1 r r1 := ⟨fun b o e n _ => ⟨s.keep b o e n, rfl⟩, s.there, s.im, s.ext⟩
theorem StS.back (s : StS mu lab lab1 H H1 r r1) {a : Addr} (h : a ∈ r1) (e : H a ≠ none) : a ∈ r := by
  obtain ⟨more, q, f⟩ := s.ext
  rw [q] at h
  rcases List.mem_append.mp h with m | m
  · exact m
  · exact absurd (f a m) e
theorem StS.sub (s : StS mu lab lab1 H H1 r r1) (n : Nat) (a : Addr) (h : r[n]? = some a) : r1[n]? = some a := by
  obtain ⟨more, e, _⟩ := s.ext
  rw [e, List.getElem?_append_left (List.getElem?_eq_some_iff.mp h).1]
  exact h
theorem StS.trans (s : StS mu lab lab1 H H1 r r1) (t : StS mu lab1 lab2 H1 H2 r1 r2) : StS mu lab lab2 H H2 r r2 where
  keep := fun b o e n m => by
    obtain ⟨h1, h2⟩ := s.keep b o e n m
    obtain ⟨h3, h4⟩ := t.keep b o h1 (fun q => n (s.back q (some_ne e))) (by rw [h2]; exact m)
    exact ⟨h3, h4.trans h2⟩
  there := fun b e => t.there b (s.there b e)
  im := fun a o e i => t.im a o (s.im a o e i) i
  ext := by
    obtain ⟨m1, e1, f1⟩ := s.ext
    obtain ⟨m2, e2, f2⟩ := t.ext
    refine ⟨m1 ++ m2, by rw [e2, e1, List.append_assoc], fun a m => ?_⟩
    rcases List.mem_append.mp m with m | m
    · exact f1 a m
    · cases q : H a with
      | none => rfl
      | some o => exact absurd (f2 a m) (s.there a (some_ne q))
theorem StS.mono {mu' : Nat → Bool} (s : StS mu lab lab1 H H1 r r1) (h : ∀ j, mu j = true → mu' j = true) : StS mu' lab lab1 H H1 r r1 :=
  ⟨fun b o e n m => s.keep b o e n (fun i z => by
    have := m i z
    cases q : mu i with
    | false => rfl
    | true =>
      rw [h i q] at this
      cases this), s.there, s.im, s.ext⟩
theorem StS.refl : StS mu lab lab H H r r := .stp .refl
theorem Fin.pre {out : Out} {D : Ends} (h : Fin K w ow H0 mu lab H r out D) (s : StS mu lab lab1 H H1 r r1) : Fin K w ow H0 mu lab1 H1 r1 out D := by
  unfold Fin at h ⊢
  split
  · exact fun σ' H' r' lab' a b c => h σ' H' r' lab' a b (s.trans c)
  · exact fun v H' r' F lab' a b c d => h v H' r' F lab' a b c (s.trans d)
  · rename_i h1 h2
    split at h
    · exact (h1 _ _ rfl).elim
    · exact (h2 _ _ _ rfl).elim
    · exact h
theorem RelS.toE (h : RelS K w ow H0 r lab env σ H) : REnv K w H r env σ := fun i x e => by
  obtain ⟨v, F, h1, h2, h3, _⟩ := h.at_ i x e
  exact ⟨v, F, h1, h2, h3⟩
theorem RelS.step (h : RelS K w ow H0 r lab env σ H) (s : Stp H H1 r r1) : RelS K w ow H0 r1 lab env σ H1 where
  at_ := fun i x e => by
    obtain ⟨v, F, h1, h2, h3, h4, h5⟩ := h.at_ i x e
    exact ⟨v, F, h1, h2.step h3 s, s.off h2.there h3, h4, h5⟩
  new := fun a i e => by
    obtain ⟨h1, h2, h3⟩ := h.new a i e
    exact ⟨h1, s.there a h2, fun m => h3 (s.back m h2)⟩
  up := fun a e => s.there a (h.up a e)
  len := h.len
theorem RelS.base (h : RelS K w ow H0 r lab env σ H) {a : Addr} (e : H a = none) : H0 a = none := by
  cases q : H0 a with
  | none => rfl
  | some o => exact absurd e (h.up a (some_ne q))
/-- a slot gets a new value, or one that has no lists within -/
def labSet (lab : Addr → Option Nat) (F : List Addr) (o : Option Nat) : Addr → Option Nat := fun a => if a ∈ F then o else lab a
theorem RelS.put (h : RelS K w ow H0 r lab env σ H) (s : Stp H H1 r r1) {i : Nat} {x : Val} {v : V} {F : List Addr} (hi : i < σ.length) (p : Rep K w H1 r1 x v F) (o : ∀ a, a ∈ F → a ∉ r1) (nd : F.Nodup) (fr : ∀ a, a ∈ F → H a = none) :
    RelS K w ow H0 r1 (labSet lab F (if own ow i = true then some i else none)) (env.set i (some x)) (σ.set i (some v)) H1 ∧ StS mu lab (labSet lab F (if own ow i = true then some i else none)) H H1 r r1 := by
  have h' := h.step s
  refine ⟨⟨fun j y e => ?_, fun a j e => ?_, h'.up, by rw [List.length_set]; exact h.len⟩, ⟨fun b u e n _ => ⟨s.keep b u e n, ?_⟩, s.there, s.im, s.ext⟩⟩
  · rcases set_get e with ⟨rfl, e2⟩ | ⟨ne, e⟩
    · obtain rfl := Option.some.inj e2
      exact ⟨v, F, List.getElem?_set_self hi, p, o, fun _ => nd, fun a m => if_pos m⟩
    · obtain ⟨u, G, h1, h2, h3, h4, h5⟩ := h.at_ j y e
      refine ⟨u, G, by rw [List.getElem?_set_ne (fun z => ne z.symm)]; exact h1, h2.step h3 s, s.off h2.there h3, h4, fun a m => ?_⟩
      rw [labSet, if_neg (fun z => h2.there a m (fr a z))]
      exact h5 a m
  · unfold labSet at e
    split at e
    · rename_i m
      exact ⟨h.base (fr a m), p.there a m, o a m⟩
    · exact h'.new a j e
  · exact if_neg (fun z => by rw [fr b z] at e; cases e)
/-- a slot gets a value that nobody owns -/
theorem RelS.bind (h : RelS K w ow H0 r lab env σ H) {i : Nat} {x : Val} {v : V} {F : List Addr} (hi : i < σ.length) (ho : own ow i = false) (p : Rep K w H r x v F) (o : ∀ a, a ∈ F → a ∉ r) (nl : ∀ a, a ∈ F → lab a = none) :
    RelS K w ow H0 r lab (env.set i (some x)) (σ.set i (some v)) H where
  at_ := fun j y e => by
    rcases set_get e with ⟨rfl, e2⟩ | ⟨ne, e⟩
    · obtain rfl := Option.some.inj e2
      exact ⟨v, F, List.getElem?_set_self hi, p, o, fun z => (by rw [ho] at z; cases z), fun a m => (by rw [nl a m, ho]; rfl)⟩
    · obtain ⟨u, G, h1, h2⟩ := h.at_ j y e
      exact ⟨u, G, by rw [List.getElem?_set_ne (fun z => ne z.symm)]; exact h1, h2⟩
  new := h.new
  up := h.up
  len := by rw [List.length_set]; exact h.len
/-- a slot's own value goes to another slot -/
theorem RelS.move (h : RelS K w ow H0 r lab env σ H) {i j : Nat} {x : Val} (hij : i ≠ j) (hi : i < σ.length) (ho : own ow j = true) (ex : env[j]? = some (some x)) (hmu : mu j = true) :
    ∃ v lab', σ[j]? = some (some v) ∧ RelS K w ow H0 r lab' ((env.set i (some x)).set j none) (σ.set i (some v)) H ∧ StS mu lab lab' H H r r := by
  obtain ⟨v, F, h1, h2, h3, h4, h5⟩ := h.at_ j x ex
  have hF : ∀ a, a ∈ F → lab a = some j := fun a m => by rw [h5 a m, if_pos ho]
  refine ⟨v, labSet lab F (if own ow i = true then some i else none), h1, ⟨fun k y e => ?_, fun a k e => ?_, h.up, by rw [List.length_set]; exact h.len⟩, ⟨fun b u e n m => ⟨e, ?_⟩, fun b e => e, fun a o e _ => e, ⟨[], by simp, by simp⟩⟩⟩
  · rcases set_get e with ⟨rfl, e2⟩ | ⟨ne, e⟩
    · cases e2
    · rcases set_get e with ⟨rfl, e2⟩ | ⟨ne2, e⟩
      · obtain rfl := Option.some.inj e2
        exact ⟨v, F, List.getElem?_set_self hi, h2, h3, fun _ => h4 ho, fun a m => if_pos m⟩
      · obtain ⟨u, G, g1, g2, g3, g4, g5⟩ := h.at_ k y e
        refine ⟨u, G, by rw [List.getElem?_set_ne (fun z => ne2 z.symm)]; exact g1, g2, g3, g4, fun a m => ?_⟩
        rw [labSet, if_neg (fun z => ?_)]
        · exact g5 a m
        · have := g5 a m
          rw [hF a z] at this
          split at this
          · exact ne (Option.some.inj this).symm
          · cases this
  · unfold labSet at e
    split at e
    · rename_i m
      exact h.new a j (hF a m)
    · exact h.new a k e
  · exact if_neg fun z => by
      have := m j (hF b z)
      rw [hmu] at this; cases this
/-- the list of a slot is changed in its place: some of its items, and new ones -/
theorem RelS.mut (h : RelS K w ow H0 r lab env σ H) (s : Stp H H1 r r1) {i : Nat} {l : Addr} {vs ws : List V} {ys : List Val} {G : List Addr} (hs : σ[i]? = some (some (.ref l))) (ho : own ow i = true) (hmu : mu i = true) (hl : H1 l = some (.lst vs)) (hll : lab l = some i) (p : RepL K w H1 r1 ys ws G) (nd : (l :: G).Nodup)
    (o : ∀ a, a ∈ G → a ∉ r1) (gl : ∀ a, a ∈ G → lab a = some i ∨ H a = none) :
    RelS K w ow H0 r1 (labSet lab G (some i)) (env.set i (some (.lst ys))) σ (upd H1 l (.lst ws)) ∧ StS mu lab (labSet lab G (some i)) H (upd H1 l (.lst ws)) r r1 := by
  obtain ⟨hl0, hl1, hl2⟩ := (h.step s).new l i hll
  have nlG : l ∉ G := (List.nodup_cons.mp nd).1
  have up : ∀ {a}, H1 a ≠ none → upd H1 l (.lst ws) a ≠ none := fun {a} e => by
    by_cases q : a = l
    · subst q; rw [upd_same]; exact fun z => nomatch z
    · rw [upd_ne q]; exact e
  refine ⟨⟨fun j y e => ?_, fun a j e => ?_, fun a e => up ((h.step s).up a e), h.len⟩, ⟨fun b u e n m => ?_, fun b e => up (s.there b e), fun a u e i' => ?_, s.ext⟩⟩
  · rcases set_get e with ⟨rfl, e2⟩ | ⟨ne, e⟩
    · obtain rfl := Option.some.inj e2
      refine ⟨_, l :: G, hs, .lst upd_same (p.keep ids (kp_upd hl nlG)), fun a m => ?_, fun _ => nd, fun a m => ?_⟩
      · rcases List.mem_cons.mp m with rfl | m
        · exact hl2
        · exact o a m
      · rw [if_pos ho]
        rcases List.mem_cons.mp m with rfl | m
        · rw [labSet, if_neg nlG]; exact hll
        · exact if_pos m
    · obtain ⟨u, F2, h1, h2, h3, h4, h5⟩ := h.at_ j y e
      have no : ∀ a, a ∈ F2 → lab a ≠ some i := fun a m z => by
        have := h5 a m
        rw [z] at this
        split at this
        · exact ne (Option.some.inj this).symm
        · cases this
      have nl : l ∉ F2 := fun m => no l m hll
      refine ⟨u, F2, h1, (h2.step h3 s).keep ids (kp_upd hl nl), s.off h2.there h3, h4, fun a m => ?_⟩
      rw [labSet, if_neg (fun q => ?_)]
      · exact h5 a m
      · rcases gl a q with z | z
        · exact no a m z
        · exact h2.there a m z
  · have key : H0 a = none ∧ H1 a ≠ none ∧ a ∉ r1 := by
      unfold labSet at e
      split at e
      · rename_i m
        rcases gl a m with z | z
        · exact (h.step s).new a i z
        · exact ⟨h.base z, p.there a m, o a m⟩
      · exact (h.step s).new a j e
    exact ⟨key.1, up key.2.1, key.2.2⟩
  · have ne : b ≠ l := fun z => by
      subst z
      have := m i hll
      rw [hmu] at this; cases this
    refine ⟨by rw [upd_ne ne]; exact s.keep b u e n, ?_⟩
    unfold labSet
    split
    · rename_i q
      rcases gl b q with z | z
      · exact z.symm
      · rw [z] at e; cases e
    · rfl
  · rw [upd_ne (fun z => ?_)]
    · exact s.im a u e i'
    · subst z
      have := s.im a u e i'
      rw [hl] at this
      cases this
      exact i'
end
end Ev

/-! SndG: the statements by the evaluator. -/
namespace Ev
open PySem PySem.Spec PyProof.Rows L2

mutual
def mutC : C → Nat → Bool
  | .set _ (.var i), j => i == j
  | .mut _ i _, j => i == j
  | .put i _ _, j => i == j
  | .ite _ a b, j => mutCs a j || mutCs b j
  | .forS _ _ b, j => mutCs b j
  | .whl _ b, j => mutCs b j
  | .forR _ _ b, j => mutCs b j
  | .forX _ _ b, j => mutCs b j
  | .tryS b _, j => mutCs b j
  | _, _ => false
def mutCs : Cs → Nat → Bool
  | .nil, _ => false
  | .cons c cs, j => mutC c j || mutCs cs j
end

section
variable {K : PySem.W.Frag} {w : World} {ow : List Bool} {H0 H : Hp} {mu : Nat → Bool} {lab : Addr → Option Nat} {r : List Addr} {D : Ends}
theorem fin_then {α : Type} {q : Res α} {env : Env} {k : α → Out} (h : Fin K w ow H0 mu lab H r (q.then env k) D) : ∃ a, q = .ok a ∧ Fin K w ow H0 mu lab H r (k a) D := by
  cases q with
  | ok a => exact ⟨a, rfl, h⟩
  | exc c S => exact False.elim h
  | stuck => exact False.elim h
theorem fin_if {b : Prop} [Decidable b] {o : Out} (h : Fin K w ow H0 mu lab H r (if b then o else .stuck) D) : b ∧ Fin K w ow H0 mu lab H r o D := by
  split at h
  · exact ⟨by assumption, h⟩
  · exact False.elim h
/-- behind one outcome the next -/
theorem fin_seq {o : Out} {k : Env → Sto → Out} (h : Fin K w ow H0 mu lab H r (o.seq k) D) : Fin K w ow H0 mu lab H r o { D with nx := TSv K w ow H0 mu k D } := by
  cases o with
  | ok f env S =>
    cases f with
    | nx => exact fun σ' H' r' lab' R s st => ⟨env, S, r', lab', R, s, Fin.pre (show Fin K w ow H0 mu lab H r (k env S) D from h) st⟩
    | rt v => exact h
  | exc c env S => exact False.elim h
  | stuck => exact False.elim h
end

section
variable {X : Cx} {pos : Pos} {pg : Pg} {cl : CallT} {ow : List Bool} {H0 : Hp} {mu : Nat → Bool} {e : Expr} {c : E}
theorem set_mv {K : PySem.W.Frag} {w : World} {H : Hp} {lab : Addr → Option Nat} {r : List Addr} {D : Ends} {i : Nat} {o : Nat → Out} {o2 : Out} (h : Fin K w ow H0 mu lab H r (match (motive := E → Out) c with
      | .var j => if ow[j]?.getD false = true ∧ i ≠ j then o j else if ow[j]?.getD false = false ∧ ow[i]?.getD false = false then o2 else .stuck
      | _ => .stuck) D) : ∃ j, c = .var j ∧ ((own ow j = true ∧ i ≠ j ∧ Fin K w ow H0 mu lab H r (o j) D) ∨ (own ow j = false ∧ own ow i = false ∧ Fin K w ow H0 mu lab H r o2 D)) := by
  cases c with
  | var j =>
    simp only at h
    by_cases q : ow[j]?.getD false = true ∧ i ≠ j
    · rw [if_pos q] at h
      exact ⟨j, rfl, .inl ⟨q.1, q.2, h⟩⟩
    · rw [if_neg q] at h
      obtain ⟨h1, h2⟩ := fin_if h
      exact ⟨j, rfl, .inr ⟨h1.1, h1.2, h2⟩⟩
  | _ => exact False.elim h
theorem c_set {i : Nat} {st : Stmt} {x : Str} {fr : Bool} (hfr : fr = fresh c) (hi : X.N[i]? = some x) (h : PS X st (tAsg (TEv X.K X.w (evE pg cl c) fr) (gName i))) (hmv : ∀ j, c = .var j → PS X st (tAsg (tVar j) (gName i)) ∧ mu j = true) : PS X st (TSv X.K X.w ow H0 mu (exC pg cl ow (.set i c))) := by
  subst hfr
  refine ⟨fun pins s σ H D I ⟨env, S, r, lab, R, RS, fin⟩ => ?_⟩
  have hj : i < σ.length := by rw [I.len]; exact (List.getElem?_eq_some_iff.mp hi).1
  simp only [exC] at fin
  obtain ⟨p, ev, fin⟩ := fin_then fin
  by_cases hk : keepV c p.1 = true
  · rw [if_pos hk] at fin
    refine h.run pins s σ H D I ⟨env, S, r, p.1, p.2, R.toE, RS, ev, fun v H1 r1 F p1 o1 s1 t1 f1 => ?_⟩
    obtain ⟨n, g⟩ := keep_new hk p1 f1
    obtain ⟨R2, st⟩ := R.put t1 hj p1 o1 n g
    exact fin _ _ _ _ R2 s1 st
  · rw [if_neg hk] at fin
    obtain ⟨j, rfl, hc⟩ := set_mv (o := fun j => Out.ok Fl.nx ((List.set env i (some p.1)).set j none) p.2) (o2 := Out.ok Fl.nx (List.set env i (some p.1)) p.2) fin
    obtain ⟨h1, h2⟩ := hmv j rfl
    simp only [evE] at ev
    split at ev
    · rename_i x ex
      obtain rfl := ok_inj ev
      rcases hc with ⟨c1, c2, fin⟩ | ⟨c1, c2, fin⟩
      · obtain ⟨v, lab', g1, g2, g3⟩ := R.move c2 hj c1 ex h2
        exact h1.run pins s σ H D I ⟨v, g1, fin _ _ _ _ g2 RS g3⟩
      · obtain ⟨v, F, g1, g2, g3, g4, g5⟩ := R.at_ j _ ex
        exact h1.run pins s σ H D I ⟨v, g1, fin _ _ _ _ (R.bind hj c2 g2 g3 fun a m => by rw [g5 a m, c1]; rfl) RS ⟨fun b u e n _ => ⟨e, rfl⟩, fun b e => e, fun a o e _ => e, ⟨[], by simp, by simp⟩⟩⟩
    · cases ev
theorem ret_def (hc : ∀ es, c ≠ .tup es) (env : Env) (S : Sto) : exC pg cl ow (.ret c) env S = (evE pg cl c env S).then env fun p => if retOk ow c p.1 = true then .ok (.rt p.1) env p.2 else .stuck := by
  cases c <;> first | exact absurd rfl (hc _) | simp only [exC]
theorem ret_own {v : Val} (kk : ¬keepV c v = true) (hk : retOk ow c v = true) : ∃ i, c = .var i ∧ own ow i = true := by
  unfold retOk at hk
  rw [Bool.eq_false_iff.mpr kk, Bool.false_or] at hk
  cases c <;> first | exact ⟨_, rfl, hk⟩ | cases hk
theorem c_ret (hc : ∀ es, c ≠ .tup es) (h : PEv X pg cl c e) (hv : ∀ i, c = .var i → PE X e (tVar i)) : PS X (.Return (some e) pos) (TSv X.K X.w ow H0 mu (exC pg cl ow (.ret c))) := by
  refine ⟨fun pins s σ H D I ⟨env, S, r, lab, R, RS, fin⟩ => ?_⟩
  rw [ret_def hc] at fin
  obtain ⟨p, ev, fin⟩ := fin_then fin
  have hk := (fin_if fin).1
  by_cases kk : keepV c p.1 = true
  · refine (ps_ret h).run pins s σ H D I ⟨env, S, r, p.1, p.2, R.toE, RS, ev, fun v H1 r1 F p1 o1 s1 t1 f1 => ?_⟩
    obtain ⟨n, g⟩ := keep_new kk p1 f1
    exact (fin_if fin).2 v H1 r1 F lab p1 o1 s1 (.stp t1) n fun a m => R.base (g a m)
  · obtain ⟨i, rfl, ho⟩ := ret_own kk hk
    simp only [evE] at ev
    split at ev
    · rename_i x ex
      cases ev
      obtain ⟨v, F, h1, h2, h3, h4, h5⟩ := R.at_ i _ ex
      have fin' : ∀ v H' r' F lab', Rep X.K X.w H' r' x v F → (∀ a, a ∈ F → a ∉ r') → RSto X.K X.w H' r' S → StS mu lab lab' H H' r r' → F.Nodup → (∀ a, a ∈ F → H0 a = none) → D.rt v H' := (fin_if fin).2
      refine (ps_ret (hv i rfl)).run pins s σ H D I ⟨v, h1, fin' v H r F lab h2 h3 RS .refl (h4 ho) fun a m => (R.new a i ?_).1⟩
      rw [h5 a m, if_pos ho]
    · cases ev
/-- items of a tuple that is given back -/
def TMv (K : PySem.W.Frag) (w : World) (ow : List Bool) (H0 : Hp) (cs : Es) (f : Env → Sto → Res (List Val × Sto)) : TA := fun σ H Q =>
  ∃ env S r lab xs S', RelS K w ow H0 r lab env σ H ∧ RSto K w H r S ∧ f env S = .ok (xs, S') ∧
    ∀ vs H' r' F, RepL K w H' r' xs vs F → (∀ a, a ∈ F → a ∉ r') → RSto K w H' r' S' → Stp H H' r r' → F.Nodup → (∀ a, a ∈ F → H0 a = none) → (∀ a, a ∈ F → (∃ i, i ∈ mvs ow cs ∧ lab a = some i) ∨ H a = none) → Q vs H'
theorem mv_nil : PA X [] (TMv X.K X.w ow H0 .nil (evM pg cl ow .nil)) :=
  pa_w pa_nil fun σ H Q ⟨env, S, r, lab, xs, S', R, RS, ev, k⟩ => by
    simp only [evM] at ev; cases ev
    exact k [] H r [] .nil (by simp) RS .refl List.nodup_nil (by simp) (by simp)
theorem mv_cons {es : List Expr} {cs : Es} (nd : (mvs ow (.cons c cs)).Nodup) (ha : PEv X pg cl c e) (hv : ∀ i, c = .var i → PE X e (tVar i)) (hb : PA X es (TMv X.K X.w ow H0 cs (evM pg cl ow cs))) (hs : starEach (e :: es) X.env = (false, eval e X.env) :: starEach es X.env) : PA X (e :: es) (TMv X.K X.w ow H0 (.cons c cs) (evM pg cl ow (.cons c cs))) := by
  by_cases hm : isMv ow c = true
  · obtain ⟨i, rfl, ho⟩ : ∃ i, c = .var i ∧ own ow i = true := by
      cases c <;> first | exact ⟨_, rfl, hm⟩ | cases hm
    have hmv : mvs ow (.cons (.var i) cs) = i :: mvs ow cs := by
      simp only [mvs]
      rw [if_pos (show ow[i]?.getD false = true from ho)]
    rw [hmv] at nd
    refine pa_w (pa_cons (hv i rfl) hb hs) fun σ H Q ⟨env, S, r, lab, xs, S', R, RS, ev, k⟩ => ?_
    simp only [evM] at ev
    obtain ⟨p, e1, ev⟩ := bind_ok' ev
    obtain ⟨_, ev⟩ := guard_ok ev
    obtain ⟨q, e2, ev⟩ := bind_ok' ev
    cases ev
    simp only [evE] at e1
    split at e1
    · rename_i x ex
      cases e1
      obtain ⟨v, F, h1, h2, h3, h4, h5⟩ := R.at_ i _ ex
      have hF : ∀ a, a ∈ F → lab a = some i := fun a m => by rw [h5 a m, if_pos ho]
      refine ⟨v, h1, env, S, r, lab, q.1, q.2, R, RS, e2, fun vs H2 r2 F2 p2 o2 s2 t2 n2 b2 m2 => ?_⟩
      refine k _ H2 r2 (F ++ F2) (.cons (h2.step h3 t2) p2) (fun a m => (List.mem_append.mp m).elim (t2.off h2.there h3 a) (o2 a)) s2 t2 (List.nodup_append.mpr ⟨h4 ho, n2, fun a m b m' z => ?_⟩) (fun a m => (List.mem_append.mp m).elim (fun m => (R.new a i (hF a m)).1) (b2 a)) fun a m => ?_
      · subst z
        rcases m2 a m' with ⟨j, hj, hl⟩ | hn
        · rw [hF a m] at hl
          cases hl
          exact (List.nodup_cons.mp nd).1 hj
        · exact (R.new a i (hF a m)).2.1 hn
      · rw [hmv]
        rcases List.mem_append.mp m with m | m
        · exact .inl ⟨i, List.mem_cons_self, hF a m⟩
        · rcases m2 a m with ⟨j, hj, hl⟩ | hn
          · exact .inl ⟨j, List.mem_cons_of_mem _ hj, hl⟩
          · exact .inr hn
    · cases e1
  · have hmv : ∀ j, j ∈ mvs ow cs → j ∈ mvs ow (.cons c cs) := fun j hj => by
      cases c <;> first
        | (simp only [mvs]; exact hj)
        | (simp only [mvs]; split <;> first | exact List.mem_cons_of_mem _ hj | exact hj)
    refine pa_w (pa_cons ha hb hs) fun σ H Q ⟨env, S, r, lab, xs, S', R, RS, ev, k⟩ => ?_
    simp only [evM] at ev
    obtain ⟨p, e1, ev⟩ := bind_ok' ev
    obtain ⟨g, ev⟩ := guard_ok ev
    obtain ⟨q, e2, ev⟩ := bind_ok' ev
    cases ev
    rw [Bool.eq_false_iff.mpr hm, Bool.false_or] at g
    refine ⟨env, S, r, p.1, p.2, R.toE, RS, e1, fun v1 H1 r1 F1 p1 o1 s1 t1 f1 => ⟨env, p.2, r1, lab, q.1, q.2, R.step t1, s1, e2, fun vs H2 r2 F2 p2 o2 s2 t2 n2 b2 m2 => ?_⟩⟩
    obtain ⟨n1, g1⟩ := keep_new g p1 f1
    refine k _ H2 r2 (F1 ++ F2) (.cons (p1.step o1 t2) p2) (fun a m => (List.mem_append.mp m).elim (t2.off p1.there o1 a) (o2 a)) s2 (t1.trans t2) (List.nodup_append.mpr ⟨n1, n2, fun a m b m' z => ?_⟩) (fun a m => (List.mem_append.mp m).elim (fun m => R.base (g1 a m)) (b2 a)) fun a m => ?_
    · subst z
      rcases m2 a m' with ⟨j, _, hl⟩ | hn
      · exact (R.new a j hl).2.1 (g1 a m)
      · exact p1.there a m hn
    · rcases List.mem_append.mp m with m | m
      · exact .inr (g1 a m)
      · rcases m2 a m with ⟨j, hj, hl⟩ | hn
        · exact .inl ⟨j, hmv j hj, hl⟩
        · exact .inr (t1.none hn)
theorem c_retT {es : List Expr} {cs : Es} {x1 : Nat} {p1 : Pos} (ha : PA X es (TMv X.K X.w ow H0 cs (evM pg cl ow cs))) (hl : esLen cs ≤ 1000) (hlen : ∀ env S xs S', evM pg cl ow cs env S = .ok (xs, S') → xs.length = esLen cs) : PS X (.Return (some (.Tuple es x1 p1)) pos) (TSv X.K X.w ow H0 mu (exC pg cl ow (.ret (.tup cs)))) :=
  ps_w (ps_ret (pe_tup ha)) fun D σ H ⟨env, S, r, lab, R, RS, fin⟩ => by
    simp only [exC] at fin
    obtain ⟨_, fin⟩ := fin_if fin
    obtain ⟨p, ev, fin⟩ := fin_then fin
    refine ⟨env, S, r, lab, p.1, p.2, R, RS, ev, fun vs H1 r1 F1 p1 o1 s1 t1 n1 b1 m1 => ⟨?_, fun q hq => ?_⟩⟩
    · rw [← p1.length, hlen _ _ _ _ ev]
      exact Nat.le_trans hl (by decide)
    · have st : Stp H1 (upd H1 q (.tup vs)) r1 r1 := .upd hq
      exact fin _ _ r1 F1 lab (.tup upd_same (p1.step o1 st)) o1 (s1.same (same_upd hq)) (.stp (t1.trans st)) n1 b1
theorem evM_len : ∀ {es : Es} {env : Env} {S : Sto} {xs : List Val} {S' : Sto}, evM pg cl ow es env S = .ok (xs, S') → xs.length = esLen es
  | .nil, _, _, _, _, h => by simp only [evM] at h; cases h; rfl
  | .cons e es, _, _, _, _, h => by
    simp only [evM] at h
    obtain ⟨p, e1, ev⟩ := bind_ok' h
    obtain ⟨g, ev⟩ := guard_ok ev
    obtain ⟨q, e2, ev⟩ := bind_ok' ev
    cases ev
    show q.1.length + 1 = _
    rw [evM_len (S' := q.2) (xs := q.1) e2]
    rfl
theorem c_retN : PS X (.Return none pos) (TSv X.K X.w ow H0 mu (exC pg cl ow .retN)) :=
  ps_w ps_retN fun D σ H ⟨env, S, r, lab, R, RS, fin⟩ => by
    simp only [exC] at fin
    exact fin _ H r [] lab .non (by simp) RS .refl List.nodup_nil (by simp)
theorem c_pass : PS X (.Pass pos) (TSv X.K X.w ow H0 mu (exC pg cl ow .pass)) :=
  ps_w ps_pass fun D σ H ⟨env, S, r, lab, R, RS, fin⟩ => by
    simp only [exC] at fin
    exact fin σ H r lab R RS .refl
theorem c_raise {st : Stmt} {n : Nat} : PS X st (TSv X.K X.w ow H0 mu (exC pg cl ow (.raise n))) :=
  ps_w ps_never fun D σ H ⟨env, S, r, lab, R, RS, fin⟩ => by
    simp only [exC] at fin
    exact False.elim fin
theorem c_ite {sa sb : List Stmt} {a b : Cs} (hc : PTv X pg cl c e) (ha : PSs X sa (TSv X.K X.w ow H0 mu (exCs pg cl ow a))) (hb : PSs X sb (TSv X.K X.w ow H0 mu (exCs pg cl ow b))) : PS X (.If e sa sb pos) (TSv X.K X.w ow H0 mu (exC pg cl ow (.ite c a b))) :=
  ps_w (ps_if hc ha hb) fun D σ H ⟨env, S, r, lab, R, RS, fin⟩ => by
    simp only [exC] at fin
    obtain ⟨p, ev, fin⟩ := fin_then fin
    obtain ⟨kb, e4, fin⟩ := fin_then fin
    refine ⟨env, S, r, kb, p.2, R.toE, RS, by rw [ev, ← isB_ok e4], fun H1 r1 s1 t1 => ?_⟩
    cases kb with
    | true =>
      rw [if_pos rfl] at fin ⊢
      exact ⟨env, p.2, r1, lab, R.step t1, s1, fin.pre (.stp t1)⟩
    | false =>
      rw [if_neg (by exact fun z => nomatch z)] at fin ⊢
      exact ⟨env, p.2, r1, lab, R.step t1, s1, fin.pre (.stp t1)⟩
theorem c_nil : PSs X [] (TSv X.K X.w ow H0 mu (exCs pg cl ow .nil)) :=
  pss_w pss_nil fun D σ H ⟨env, S, r, lab, R, RS, fin⟩ => by
    simp only [exCs] at fin
    exact fin σ H r lab R RS .refl
theorem c_cons {st : Stmt} {sts : List Stmt} {a : C} {as : Cs} (h : PS X st (TSv X.K X.w ow H0 mu (exC pg cl ow a))) (hs : PSs X sts (TSv X.K X.w ow H0 mu (exCs pg cl ow as))) : PSs X (st :: sts) (TSv X.K X.w ow H0 mu (exCs pg cl ow (.cons a as))) :=
  pss_w (pss_cons h hs) fun D σ H ⟨env, S, r, lab, R, RS, fin⟩ => by
    simp only [exCs] at fin
    exact ⟨env, S, r, lab, R, RS, fin_seq fin⟩

/-! ### while -/
theorem TSv.mono {K : PySem.W.Frag} {w : World} {mu' : Nat → Bool} {f : Env → Sto → Out} (h : ∀ j, mu j = true → mu' j = true) {D : Ends} {σ : L2.St} {H : Hp} (t : TSv K w ow H0 mu' f D σ H) : TSv K w ow H0 mu f D σ H := by
  obtain ⟨env, S, r, lab, R, RS, fin⟩ := t
  refine ⟨env, S, r, lab, R, RS, ?_⟩
  unfold Fin at fin ⊢
  split
  · rename_i e
    rw [e] at fin
    exact fun σ' H' r' lab' a b c => fin σ' H' r' lab' a b (c.mono h)
  · rename_i e
    rw [e] at fin
    exact fun v H' r' F lab' a b c d => fin v H' r' F lab' a b c (d.mono h)
  · rename_i h1 h2
    split at fin
    · rename_i e; exact (h1 _ _ e).elim
    · rename_i e; exact (h2 _ _ _ e).elim
    · exact fin
theorem c_whl {sb : List Stmt} {b : Cs} (hp : PassesOwn (model X.prog X.w) X.A X.env X.xe) (hc : PTv X pg cl c e) (hb : PSs X sb (TSv X.K X.w ow H0 mu (exCs pg cl ow b))) : PS X (.While e sb [] pos) (TSv X.K X.w ow H0 mu (exC pg cl ow (.whl c b))) :=
  ps_w (ps_while hp hc hb) fun D σ H ⟨env, S, r, lab, R, RS, fin⟩ => by
    simp only [exC] at fin
    refine ⟨fun m σ' H' => TSv X.K X.w ow H0 mu (whlL (fun env S => (evE pg cl c env S).bind fun p => (isB p.1).bind fun k => .ok (k, p.2)) (fun env S => exCs pg cl ow b env S) m) D σ' H', ⟨_, env, S, r, lab, R, RS, fin⟩, ?_⟩
    intro m σ1 H1 ⟨env1, S1, r1, lab1, R1, RS1, fin1⟩
    cases m with
    | zero => exact False.elim fin1
    | succ m =>
      unfold whlL at fin1
      obtain ⟨p, ev, fin1⟩ := fin_then fin1
      obtain ⟨q, ev0, e2⟩ := bind_ok' ev
      obtain ⟨kb, e4, e2⟩ := bind_ok' e2
      cases e2
      refine ⟨env1, S1, r1, kb, q.2, R1.toE, RS1, by rw [ev0, ← isB_ok e4], fun H2 r2 s2 t2 => ?_⟩
      cases kb with
      | true =>
        rw [if_pos rfl] at fin1 ⊢
        refine ⟨_, fun σ' H' h => ⟨m, Nat.lt_succ_self m, h⟩, env1, q.2, r2, lab1, R1.step t2, s2, ?_⟩
        have f2 := fin_seq (fin1.pre (.stp t2))
        unfold Fin at f2 ⊢
        split
        · rename_i e; rw [e] at f2; exact f2
        · rename_i e; rw [e] at f2; exact f2
        · rename_i h1 h2
          split at f2
          · rename_i e; exact (h1 _ _ e).elim
          · rename_i e; exact (h2 _ _ _ e).elim
          · exact f2
      | false =>
        rw [if_neg (by exact fun z => nomatch z)] at fin1 ⊢
        exact fin1 σ1 H2 r2 lab1 (R1.step t2) s2 (.stp t2)
end
end Ev

/-! SndH: for; append and its like. -/
namespace Ev
open PySem PySem.Spec PyProof.Rows L2

def itVar : It → Option Nat
  | .seq (.var i) => some i
  | .enum (.var i) => some i
  | .rev (.var i) => some i
  | _ => none
def itNew : It → Bool
  | .seq a => fresh a
  | .enum a => fresh a
  | .rev a => fresh a
  | .rng _ => true
/-- what a for walks -/
def TIs (K : PySem.W.Frag) (w : World) (ow : List Bool) (H0 : Hp) (f : Env → Sto → Res (List Val × Sto)) (var : Option Nat) : TI := fun σ H R =>
  ∃ env S r lab xs S', RelS K w ow H0 r lab env σ H ∧ RSto K w H r S ∧ f env S = .ok (xs, S') ∧
    ∀ J H' r' G, ItOk K w J H' r' xs G → (∀ a, a ∈ G → a ∉ r' ∧ H' a ≠ none) → RSto K w H' r' S' → Stp H H' r r' → (∀ a, a ∈ G → lab a = none ∨ ∃ i, var = some i ∧ own ow i = true ∧ lab a = some i) → R J H'
section
variable {X : Cx} {pos : Pos} {pg : Pg} {cl : CallT} {ow : List Bool} {H0 : Hp} {mu : Nat → Bool} {tg e : Expr}
theorem is_new {it : It} {vr : Option Nat} (h : PI X tg e (TIv X.K X.w (evI pg cl it) true)) : PI X tg e (TIs X.K X.w ow H0 (evI pg cl it) vr) :=
  pi_w h fun σ H R ⟨env, S, r, lab, xs, S', RE, RS, ev, k⟩ => ⟨env, S, r, xs, S', RE.toE, RS, ev, fun J H' r' G a b c d f => k J H' r' G a b c d fun z m => by
    cases q : lab z with
    | none => exact .inl rfl
    | some i => exact absurd (f rfl z m) (RE.new z i q).2.1⟩
/-- a walk over a slot -/
theorem var_list {i : Nat} {xs : List Val} (hv : PE X e (tVar i)) {pins : List (Addr × Obj)} {s : Shared} {σ : L2.St} {H : Hp} {r : List Addr} {lab : Addr → Option Nat} {env : Env} {S : Sto} {x : Val} {R : L2.It → Hp → Prop} (I : L2.Inv X pins σ H s) (RE : RelS X.K X.w ow H0 r lab env σ H) (RS : RSto X.K X.w H r S) (ex : env[i]? = some (some x)) (hx : seqV x = .ok xs)
    (k : ∀ J H' r' G, ItOk X.K X.w J H' r' xs G → (∀ a, a ∈ G → a ∉ r' ∧ H' a ≠ none) → RSto X.K X.w H' r' S → Stp H H' r r' → (∀ a, a ∈ G → lab a = none ∨ ∃ j, some i = some j ∧ own ow j = true ∧ lab a = some j) → R J H') :
    wpAny (model X.prog X.w) X.A (eval e X.env) (fun v s1 => wpAny (model X.prog X.w) X.A (pyIter v) (PIE X pins σ tg R) X.xe s1) X.xe s := by
  obtain ⟨v, F, h1, h2, h3, h4, h5⟩ := RE.at_ i _ ex
  have lb : ∀ a, a ∈ F → lab a = none ∨ ∃ j, some i = some j ∧ own ow j = true ∧ lab a = some j := fun a m => by
    have := h5 a m
    split at this
    · exact .inr ⟨i, rfl, by assumption, this⟩
    · exact .inl this
  cases x <;> try (cases hx; done)
  · obtain ⟨g, e2⟩ := guard_ok hx
    have g := of_decide_eq_true g
    cases e2
    exact (pi_str hv).run pins s σ H R I ⟨v, h1, _, vstr h2, k _ _ r [] (it_str g) (by simp) RS .refl (by simp)⟩
  · cases hx
    refine (pi_tup (pe_len hv)).run pins s σ H R I ⟨v, h1, fun ln => ?_⟩
    obtain ⟨p, vs, rfl, q1, q2⟩ := vtup h2
    exact ⟨p, rfl, ⟨vs, .of q1⟩, k _ _ r _ (it_tup q1 q2 (ln _ _ rfl (.inr (.of q1)))) (fun a m => ⟨h3 a m, h2.there a m⟩) RS .refl lb⟩
  · cases hx
    refine (pi_list (pe_len hv)).run pins s σ H R I ⟨v, h1, fun ln => ?_⟩
    cases h2 with
    | lst q1 q2 => exact ⟨_, rfl, ⟨_, .of q1⟩, k _ _ r _ (it_list q1 q2 (ln _ _ rfl (.inl (.of q1)))) (fun a m => ⟨h3 a m, (Rep.lst q1 q2).there a m⟩) RS .refl lb⟩
  · cases hx
    refine (pi_list (pe_len hv)).run pins s σ H R I ⟨v, h1, fun ln => ?_⟩
    cases h2 with
    | scr q1 => exact ⟨_, rfl, ⟨_, q1 H fun _ _ e _ => e⟩, k _ _ r [] (it_scr (fun H2 kk => q1 H2 kk.im) (ln _ _ rfl (.inl (q1 H fun _ _ e _ => e)))) (by simp) RS .refl (by simp)⟩
    | scrL q1 => exact ⟨_, rfl, ⟨_, .of q1⟩, k _ _ r [_] (it_scr (fun H2 kk => .of (kk.at_ _ _ (by simp) q1)) (ln _ _ rfl (.inl (.of q1)))) (fun a m => ⟨h3 a m, (Rep.scrL (K := X.K) (w := X.w) (r := r) q1).there a m⟩) RS .refl lb⟩
theorem var_ev {i : Nat} {env : Env} {S : Sto} {x : Val} {S1 : Sto} (h : evE pg cl (.var i) env S = .ok (x, S1)) : env[i]? = some (some x) ∧ S1 = S := by
  simp only [evE] at h
  split at h
  · rename_i v e; cases h; exact ⟨e, rfl⟩
  · cases h
theorem is_var {i : Nat} (hv : PE X e (tVar i)) : PI X tg e (TIs X.K X.w ow H0 (evI pg cl (.seq (.var i))) (some i)) := by
  refine ⟨fun pins s σ H R I ⟨env, S, r, lab, xs, S', RE, RS, ev, k⟩ => ?_⟩
  simp only [evI] at ev
  obtain ⟨⟨x, S1⟩, e1, ev1⟩ := bind_ok' ev
  obtain ⟨l, e2, ev2⟩ := bind_ok' ev1
  cases ev2
  obtain ⟨ex, e3⟩ := var_ev e1
  subst e3
  exact var_list hv I RE RS ex e2 k
theorem is_venum {i : Nat} {p pos tpos : Pos} {elts : List Expr} {kk : Nat} (hg : Gl X "enumerate") (hm : X.mg "enumerate" = none) (hv : PE X e (tVar i)) (hs : starEach [e] X.env = [(false, eval e X.env)]) : PI X (.Tuple elts kk tpos) (.Call (.Name "enumerate" p) [e] [] pos) (TIs X.K X.w ow H0 (evI pg cl (.enum (.var i))) (some i)) := by
  have key := pi_enum (X := X) (p := p) (pos := pos) (tpos := tpos) (elts := elts) (kk := kk) hg hm (pa_cons (pe_len hv) pa_nil hs) hs
  have keyT := pi_enT (X := X) (p := p) (pos := pos) (tpos := tpos) (elts := elts) (kk := kk) hg hm (pa_cons (pe_len hv) pa_nil hs) hs
  refine ⟨fun pins s σ H R I ⟨env, S, r, lab, xs, S', RE, RS, ev, k⟩ => ?_⟩
  simp only [evI] at ev
  obtain ⟨⟨x, S1⟩, e1, ev1⟩ := bind_ok' ev
  obtain ⟨l, e2, ev2⟩ := bind_ok' ev1
  cases ev2
  obtain ⟨ex, e3⟩ := var_ev e1
  subst e3
  obtain ⟨v, F, h1, h2, h3, h4, h5⟩ := RE.at_ i _ ex
  have lb : ∀ a, a ∈ F → lab a = none ∨ ∃ j, some i = some j ∧ own ow j = true ∧ lab a = some j := fun a m => by
    have := h5 a m
    split at this
    · exact .inr ⟨i, rfl, by assumption, this⟩
    · exact .inl this
  cases x <;> try (cases e2; done)
  · cases e2
    refine keyT.run pins s σ H R I ⟨v, h1, fun ln => ?_⟩
    cases h2 with
    | tup q1 q2 => exact ⟨_, _, rfl, .of q1, k _ _ r _ (it_enT q1 q2 (ln _ _ rfl (.inr (.of q1)))) (fun a m => ⟨h3 a m, (Rep.tup q1 q2).there a m⟩) RS .refl lb⟩
  · cases e2
    refine key.run pins s σ H R I ⟨v, h1, fun ln => ?_⟩
    cases h2 with
    | lst q1 q2 => exact ⟨_, _, rfl, .of q1, k _ _ r _ (it_enum q1 q2 (ln _ _ rfl (.inl (.of q1)))) (fun a m => ⟨h3 a m, (Rep.lst q1 q2).there a m⟩) RS .refl lb⟩
theorem is_vrev {i : Nat} {p pos : Pos} (hg : Gl X "reversed") (hm : X.mg "reversed" = none) (hv : PE X e (tVar i)) (hs : starEach [e] X.env = [(false, eval e X.env)]) : PI X tg (.Call (.Name "reversed" p) [e] [] pos) (TIs X.K X.w ow H0 (evI pg cl (.rev (.var i))) (some i)) := by
  have key := pi_reversed (X := X) (tg := tg) (p := p) (pos := pos) hg hm (pa_cons (pe_len hv) pa_nil hs) hs
  refine ⟨fun pins s σ H R I ⟨env, S, r, lab, xs, S', RE, RS, ev, k⟩ => ?_⟩
  simp only [evI] at ev
  obtain ⟨⟨x, S1⟩, e1, ev1⟩ := bind_ok' ev
  obtain ⟨l, e2, ev2⟩ := bind_ok' ev1
  cases ev2
  obtain ⟨ex, e3⟩ := var_ev e1
  subst e3
  obtain ⟨v, F, h1, h2, h3, h4, h5⟩ := RE.at_ i _ ex
  have lb : ∀ a, a ∈ F → lab a = none ∨ ∃ j, some i = some j ∧ own ow j = true ∧ lab a = some j := fun a m => by
    have := h5 a m
    split at this
    · exact .inr ⟨i, rfl, by assumption, this⟩
    · exact .inl this
  cases x <;> try (cases e2; done)
  cases e2
  refine key.run pins s σ H R I ⟨v, h1, fun ln => ?_⟩
  cases h2 with
  | lst q1 q2 => exact ⟨_, _, rfl, .of q1, k _ _ r _ (it_rev q1 q2 (ln _ _ rfl (.inl (.of q1)))) (fun a m => ⟨h3 a m, (Rep.lst q1 q2).there a m⟩) RS .refl lb⟩

/-- a walk over a tuple without lists, wherever it stands -/
theorem is_dyn {a : E} {fa : Bool} {vr : Option Nat} (h : PE X e (TEv X.K X.w (evE pg cl a) fa)) : PI X tg e (TIs X.K X.w ow H0 (evY pg cl (.seq a)) vr) := by
  refine ⟨fun pins s σ H R I ⟨env, S, r, lab, xs, S', RE, RS, ev, k⟩ => ?_⟩
  simp only [evY] at ev
  obtain ⟨⟨x, S1⟩, e1, ev⟩ := bind_ok' ev
  cases x <;> try (cases ev; done)
  obtain ⟨g, ev⟩ := guard_ok ev
  cases ev
  refine (pi_tup (pe_len h)).run pins s σ H R I ⟨env, S, r, _, _, RE.toE, RS, e1, fun v1 H1 r1 F1 p1 o1 s1 t1 f1 ln => ?_⟩
  have p2 := p1.plain (show Ev.pur (.tup xs) = true from by rw [Ev.pur]; exact g)
  cases p2 with
  | tup q1 q2 => exact ⟨_, rfl, ⟨_, .of q1⟩, k _ _ r1 [] (it_tup q1 q2 (ln _ _ rfl (.inr (.of q1)))) (by simp) s1 t1 (by simp)⟩
/-- a for's source as it is evaluated -/
noncomputable def evF (pg : Pg) (cl : CallT) (it : It) : Env → Sto → Res (List Val × Sto) := fun env S => if itDyn it = true then evY pg cl it env S else evI pg cl it env S
/-! ### for -/
theorem purs_get : ∀ {xs : List Val} {i : Nat} {x : Val}, purs xs = true → xs[i]? = some x → pur x = true
  | [], _, _, _, e => by simp at e
  | y :: ys, 0, x, h, e => by
    rw [purs, Bool.and_eq_true] at h
    simp at e; subst e
    exact h.1
  | y :: ys, i + 1, x, h, e => by
    rw [purs, Bool.and_eq_true] at h
    exact purs_get (i := i) h.2 (by simpa using e)
theorem fr_own {it : It} {i : Nat} (h : itVar it = some i) (f : itFr ow it = true) : own ow i = false := by
  have key : ∀ j, (!(ow[j]?.getD true)) = true → own ow j = false := fun j z => by
    unfold own
    cases q : ow[j]? with
    | none => rfl
    | some b => rw [q] at z; simpa using z
  cases it with
  | seq a => cases a <;> first | (cases h; exact key _ f) | cases h
  | enum a => cases a <;> first | (cases h; exact key _ f) | cases h
  | rev a => cases a <;> first | (cases h; exact key _ f) | cases h
  | rng es => cases h
theorem dyn_var {it : It} {i : Nat} (h : itVar it = some i) : itDyn it = false := by
  cases it with
  | seq a => cases a <;> first | rfl | cases h
  | enum a => rfl
  | rev a => rfl
  | rng es => rfl
/-- how the target is bound -/
def gTg (K : PySem.W.Frag) : Tg → TG
  | .one j => gName j
  | .two j k => gTup K 2 (gCons (gName j) (gCons (gName k) gNil))
  | .three j k l => gTup K 3 (gCons (gName j) (gCons (gName k) (gCons (gName l) gNil)))
def tgOk (ow : List Bool) (n : Nat) : Tg → Bool
  | .one j => !own ow j && decide (j < n)
  | .two j k => !own ow j && !own ow k && decide (j < n) && decide (k < n)
  | .three j k l => !own ow j && !own ow k && !own ow l && decide (j < n) && decide (k < n) && decide (l < n)
theorem tg_bind {K : PySem.W.Frag} {w : World} {H : Hp} {r : List Addr} {lab : Addr → Option Nat} {env env' : Env} {σ : L2.St} {x : Val} {v : V} {F : List Addr} {tg : Tg} {Q : L2.St → Hp → Prop} (R : RelS K w ow H0 r lab env σ H) (p : Rep K w H r x v F) (o : ∀ a, a ∈ F → a ∉ r) (nl : ∀ a, a ∈ F → lab a = none) (ht : tgOk ow ow.length tg = true) (he : tgSet tg x env = some env')
    (k : ∀ σ', RelS K w ow H0 r lab env' σ' H → Q σ' H) : gTg K tg v σ H Q := by
  cases tg with
  | one j =>
    simp only [tgOk, Bool.and_eq_true, Bool.not_eq_true', decide_eq_true_eq] at ht
    cases he
    exact k _ (R.bind (by rw [R.len]; exact ht.2) ht.1 p o nl)
  | two j k' =>
    simp only [tgOk, Bool.and_eq_true, Bool.not_eq_true', decide_eq_true_eq] at ht
    obtain ⟨⟨⟨h1, h2⟩, h3⟩, h4⟩ := ht
    unfold tgSet at he
    split at he
    · rename_i e; cases e
    · rename_i j2 k2 a b e
      cases e
      cases he
      obtain ⟨t, vs, rfl, q1, q2⟩ := vtup p
      cases q2 with
      | cons p1 q3 =>
        cases q3 with
        | cons p2 q4 =>
          cases q4
          rename_i va F1 vb F2 _
          refine ⟨t, _, rfl, .of q1, rfl, _, _, rfl, ⟨_, _, rfl, rfl, ?_⟩⟩
          have R1 := R.bind (by rw [R.len]; exact h3) h1 p1 (fun a m => o a (by simp [m])) fun a m => nl a (by simp [m])
          have R2 := R1.bind (i := k') (by rw [R1.len]; exact h4) h2 p2 (fun a m => o a (by simp [m])) fun a m => nl a (by simp [m])
          exact k _ R2
    · rename_i e; cases e
    · cases he
  | three j k' l =>
    simp only [tgOk, Bool.and_eq_true, Bool.not_eq_true', decide_eq_true_eq] at ht
    obtain ⟨⟨⟨⟨⟨h1, h2⟩, h3⟩, h4⟩, h5⟩, h6⟩ := ht
    unfold tgSet at he
    split at he
    · rename_i e; cases e
    · rename_i e; cases e
    · rename_i j2 k2 l2 a b c e
      cases e
      cases he
      obtain ⟨t, vs, rfl, q1, q2⟩ := vtup p
      cases q2 with
      | cons p1 q3 =>
        cases q3 with
        | cons p2 q4 =>
          cases q4 with
          | cons p3 q5 =>
            cases q5
            refine ⟨t, _, rfl, .of q1, rfl, _, _, rfl, ⟨_, _, rfl, ⟨_, _, rfl, rfl, ?_⟩⟩⟩
            have R1 := R.bind (by rw [R.len]; exact h4) h1 p1 (fun a m => o a (by simp [m])) fun a m => nl a (by simp [m])
            have R2 := R1.bind (i := k') (by rw [R1.len]; exact h5) h2 p2 (fun a m => o a (by simp [m])) fun a m => nl a (by simp [m])
            have R3 := R2.bind (i := l) (by rw [R2.len]; exact h6) h3 p3 (fun a m => o a (by simp [m])) fun a m => nl a (by simp [m])
            exact k _ R3
    · cases he
noncomputable def stepF (pg : Pg) (cl : CallT) (ow : List Bool) (tg : Tg) (b : Cs) : Val → Env → Sto → Out := fun v env S => match tgSet tg v env with
  | some env' => exCs pg cl ow b env' S
  | none => .stuck
def forW (K : PySem.W.Frag) (w : World) (ow : List Bool) (H0 : Hp) (mu : Nat → Bool) (f : Val → Env → Sto → Out) (items : List Val) (D : Ends) (H1 : Hp) (r1 G : List Addr) (mb : Nat → Bool) (i m : Nat) (σ : L2.St) (H : Hp) : Prop :=
  m = items.length - i ∧ i ≤ items.length ∧ ∃ env S r lab, RelS K w ow H0 r lab env σ H ∧ RSto K w H r S ∧ Fin K w ow H0 mu lab H r (forL f (items.drop i) env S) D ∧ Kp H1 H G ∧ (∀ (n : Nat) (a : Addr), r1[n]? = some a → r[n]? = some a) ∧
    ∀ a, a ∈ G → a ∉ r ∧ H a ≠ none ∧ (lab a = none ∨ (purs items = true ∧ ∃ j, lab a = some j ∧ mb j = false))
theorem c_for {iter : Expr} {it : It} {sb : List Stmt} {b : Cs} {t : Tg} {vr : Option Nat} (hp : PassesOwn (model X.prog X.w) X.A X.env X.xe) (hc : X.calm = true) (hi : PI X tg iter (TIs X.K X.w ow H0 (evF pg cl it) vr)) (hvr : vr = itVar it) (hg : PG X tg (gTg X.K t)) (ht : tgOk ow ow.length t = true)
    (hmu : ∀ j, mutCs b j = true → mu j = true) (hv : ∀ i, itVar it = some i → mutCs b i = false) (hb : PSs X sb (TSv X.K X.w ow H0 (mutCs b) (exCs pg cl ow b))) (hs : noSet iter = true) : PS X (.For tg iter sb [] pos) (TSv X.K X.w ow H0 mu (exC pg cl ow (.forS t it b))) := by
  subst hvr
  refine ⟨fun pins s σ H D I ⟨env, S, r, lab, R, RS, fin⟩ => (ps_for hp hc hi hg hb (fold_it hs)).run pins s σ H D I ?_⟩
  simp only [exC] at fin
  obtain ⟨⟨items, S1⟩, e1, fin⟩ := fin_then fin
  obtain ⟨hfr, fin⟩ := fin_if fin
  refine ⟨env, S, r, lab, items, S1, R, RS, e1, fun J H1 r1 G iok og s1 t1 lb => ?_⟩
  refine ⟨forW X.K X.w ow H0 mu (stepF pg cl ow t b) items D H1 r1 G (mutCs b), ⟨items.length - 0, rfl, Nat.zero_le _, env, S1, r1, lab, R.step t1, s1, ?_, ⟨fun a o _ e => e, fun a o e _ => e⟩, ids, fun a m => ⟨(og a m).1, (og a m).2, ?_⟩⟩, ?_⟩
  · rw [List.drop_zero]
    exact fin.pre (.stp t1)
  · rcases lb a m with z | ⟨i, hi, ho, z⟩
    · exact .inl z
    · right
      refine ⟨?_, i, z, hv i hi⟩
      rcases (Bool.or_eq_true _ _).mp hfr with q | q
      · rcases (Bool.or_eq_true _ _).mp q with q | q
        · rw [dyn_var hi] at q; cases q
        · rw [fr_own hi q] at ho; cases ho
      · exact q
  · intro i m σ2 H2 ⟨hm, hi2, env2, S2, r2, lab2, R2, RS2, fin2, kG, sub2, og2⟩
    rcases Nat.lt_or_eq_of_le hi2 with hlt | rfl
    · refine .inr ⟨iok.go i H2 kG hlt, forW X.K X.w ow H0 mu (stepF pg cl ow t b) items D H1 r1 G (mutCs b) (i + 1) (items.length - (i + 1)), fun σ' H' h => ⟨_, by omega, h⟩, fun v H3 hy => ?_⟩
      obtain ⟨sm, F, rp, sf⟩ := iok.yld i items[i] H2 r2 v H3 kG sub2 (List.getElem?_eq_getElem hlt) hy
      have t3 : Stp H2 H3 r2 r2 := .same sm
      rw [List.drop_eq_getElem_cons hlt] at fin2
      simp only [forL] at fin2
      have nl : ∀ a, a ∈ F → lab2 a = none := fun a m => by
        rcases (og2 a (sf a m)).2.2 with z | ⟨z, _⟩
        · exact z
        · rw [rp.pur (purs_get z (List.getElem?_eq_getElem hlt))] at m
          cases m
      unfold stepF at fin2
      split at fin2
      · rename_i env3 he
        refine tg_bind (R2.step t3) rp (fun a m => (og2 a (sf a m)).1) nl ht he fun σ3 R3 => ?_
        refine ⟨env3, S2, r2, lab2, R3, RS2.same sm, ?_⟩
        have f3 := fin2.pre (.stp t3)
        show Fin X.K X.w ow H0 (mutCs b) lab2 H3 r2 (exCs pg cl ow b env3 S2) _
        cases ho : exCs pg cl ow b env3 S2 with
        | ok f env4 S4 =>
          rw [ho] at f3
          cases f with
          | nx =>
            intro σ' H' r' lab' R' RS' st
            have kk : ∀ a, a ∈ G → ∀ o, H3 a = some o → H' a = some o ∧ lab' a = lab2 a := fun a m o e => st.keep a o e (og2 a m).1 fun j z => by
              rcases (og2 a m).2.2 with q | ⟨_, j', q, q2⟩
              · rw [q] at z; cases z
              · rw [q] at z; cases z; exact q2
            have h3 : ∀ a, a ∈ G → H3 a ≠ none := fun a m => t3.there a (og2 a m).2.1
            refine ⟨rfl, hlt, env4, S4, r', lab', R', RS', Fin.pre (show Fin X.K X.w ow H0 mu lab2 H3 r2 (forL (stepF pg cl ow t b) (items.drop (i + 1)) env4 S4) D from f3) (st.mono hmu), ⟨fun a o m e => (kk a m o (sm _ _ (kG.at_ a o m e))).1, fun a o e i' => st.im a o (sm _ _ (kG.im a o e i')) i'⟩, fun n a q => st.sub n a (sub2 n a q), fun a m => ⟨fun z => (og2 a m).1 (st.back z (h3 a m)), st.there a (h3 a m), ?_⟩⟩
            cases q : H3 a with
            | none => exact absurd q (h3 a m)
            | some o =>
              rw [(kk a m o q).2]
              exact (og2 a m).2.2
          | rt v =>
            exact fun v' H' r' F' lab' a b' c d => f3 v' H' r' F' lab' a b' c (d.mono hmu)
        | exc c S => rw [ho] at f3; exact False.elim f3
        | stuck => rw [ho] at f3; exact False.elim f3
      · exact False.elim fin2
    · refine .inl ⟨iok.stop H2 kG, ?_⟩
      rw [List.drop_length] at fin2
      exact fin2 σ2 H2 r2 lab2 R2 RS2 .refl
end
end Ev

/-! SndM: items set in place, dicts, names unpacked. -/
namespace Ev
open PySem PySem.Spec PyProof.Rows L2

section
variable {K : PySem.W.Frag} {w : World} {ow : List Bool} {H0 H H1 H2 : Hp} {mu : Nat → Bool} {lab lab1 lab2 : Addr → Option Nat} {r r1 r2 : List Addr} {env : Env} {σ : L2.St} {S : Sto}
/-- the object of a slot is changed in its place -/
theorem RelS.mutG (h : RelS K w ow H0 r lab env σ H) (s : Stp H H1 r r1) {i : Nat} {l : Addr} {u o' : HO} {x : Val} {G : List Addr} (hs : σ[i]? = some (some (.ref l))) (ho : own ow i = true) (hmu : mu i = true) (hl : H1 l = some u) (hu : ¬immut u) (hll : lab l = some i)
    (p : Rep K w (upd H1 l o') r1 x (.ref l) (l :: G)) (nd : (l :: G).Nodup) (o : ∀ a, a ∈ G → a ∉ r1) (gl : ∀ a, a ∈ G → lab a = some i ∨ H a = none) :
    RelS K w ow H0 r1 (labSet lab G (some i)) (env.set i (some x)) σ (upd H1 l o') ∧ StS mu lab (labSet lab G (some i)) H (upd H1 l o') r r1 := by
  obtain ⟨hl0, hl1, hl2⟩ := (h.step s).new l i hll
  have nlG : l ∉ G := (List.nodup_cons.mp nd).1
  have up : ∀ {a}, H1 a ≠ none → upd H1 l o' a ≠ none := fun {a} e => by
    by_cases q : a = l
    · subst q; rw [upd_same]; exact fun z => nomatch z
    · rw [upd_ne q]; exact e
  refine ⟨⟨fun j y e => ?_, fun a j e => ?_, fun a e => up ((h.step s).up a e), h.len⟩, ⟨fun b z e n m => ?_, fun b e => up (s.there b e), fun a z e i' => ?_, s.ext⟩⟩
  · rcases set_get e with ⟨rfl, e2⟩ | ⟨ne, e⟩
    · obtain rfl := Option.some.inj e2
      refine ⟨_, l :: G, hs, p, fun a m => ?_, fun _ => nd, fun a m => ?_⟩
      · rcases List.mem_cons.mp m with rfl | m
        · exact hl2
        · exact o a m
      · rw [if_pos ho]
        rcases List.mem_cons.mp m with rfl | m
        · rw [labSet, if_neg nlG]; exact hll
        · exact if_pos m
    · obtain ⟨v, F2, h1, h2, h3, h4, h5⟩ := h.at_ j y e
      have no : ∀ a, a ∈ F2 → lab a ≠ some i := fun a m z => by
        have := h5 a m
        rw [z] at this
        split at this
        · exact ne (Option.some.inj this).symm
        · cases this
      have nl : l ∉ F2 := fun m => no l m hll
      refine ⟨v, F2, h1, (h2.step h3 s).keep ids (kp_updG hl hu nl), s.off h2.there h3, h4, fun a m => ?_⟩
      rw [labSet, if_neg (fun q => ?_)]
      · exact h5 a m
      · rcases gl a q with z | z
        · exact no a m z
        · exact h2.there a m z
  · have key : H0 a = none ∧ upd H1 l o' a ≠ none ∧ a ∉ r1 := by
      unfold labSet at e
      split at e
      · rename_i m
        rcases gl a m with z | z
        · have := (h.step s).new a i z
          exact ⟨this.1, up this.2.1, this.2.2⟩
        · exact ⟨h.base z, p.there a (List.mem_cons_of_mem _ m), o a m⟩
      · have := (h.step s).new a j e
        exact ⟨this.1, up this.2.1, this.2.2⟩
    exact key
  · have ne : b ≠ l := fun z => by
      subst z
      have := m i hll
      rw [hmu] at this; cases this
    refine ⟨by rw [upd_ne ne]; exact s.keep b z e n, ?_⟩
    unfold labSet
    split
    · rename_i q
      rcases gl b q with z | z
      · exact z.symm
      · rw [z] at e; cases e
    · rfl
  · rw [upd_ne (fun q => ?_)]
    · exact s.im a z e i'
    · subst q
      have := s.im a z e i'
      rw [hl] at this
      cases this
      exact hu i'
theorem labSet_nil (o : Option Nat) : labSet lab [] o = lab := by
  funext a
  exact if_neg (by simp)
theorem dput_len (kvs : List (Val × Val)) (k v : Val) : (dput kvs k v).length ≤ kvs.length + 1 := by
  unfold dput
  split
  · rw [List.length_map]; omega
  · rw [List.length_append]; exact Nat.le_refl _
theorem RepL.setI {x : Val} {v : V} (hx : Rep K w H r x v []) : ∀ {xs : List Val} {vs : List V} {F : List Addr} (n : Nat), RepL K w H r xs vs F → F.Nodup → ∃ G, RepL K w H r (xs.set n x) (vs.set n v) G ∧ G.Nodup ∧ ∀ a, a ∈ G → a ∈ F
  | _, _, _, _, .nil, nd => ⟨[], .nil, List.nodup_nil, by simp⟩
  | _, _, _, 0, .cons h l, nd => ⟨_, .cons hx l, (List.nodup_append.mp nd).2.1, fun a m => List.mem_append_right _ m⟩
  | _, _, _, n + 1, .cons (F := F1) (G := F2) h l, nd => by
    obtain ⟨n1, n2, dj⟩ := List.nodup_append.mp nd
    obtain ⟨G, g1, g2, g3⟩ := RepL.setI hx n l n2
    exact ⟨F1 ++ G, .cons h g1, List.nodup_append.mpr ⟨n1, g2, fun a m b m' => dj a m b (g3 b m')⟩, fun a m => (List.mem_append.mp m).elim (List.mem_append_left _) fun m => List.mem_append_right _ (g3 a m)⟩
end

section
variable {X : Cx} {pos : Pos} {pg : Pg} {cl : CallT} {ow : List Bool} {H0 : Hp} {mu : Nat → Bool} {e a : Expr} {ce ck : E}
theorem lst_not (vs : List V) : ¬immut (.lst vs) := fun z => z
theorem ixN_ixN' (n : Nat) (i : Int) : ixN' n i = ixN n i := by
  unfold ixN' ixN
  rfl
theorem vdicK {K : PySem.W.Frag} {w : World} {H : Hp} {r F : List Addr} {kvs : List (Val × Val)} {x : V} (h : Rep K w H r (.dic false kvs) x F) : ∃ a qs, x = .ref a ∧ F = [a] ∧ H a = some (.dK qs) ∧ RepK K w H r kvs qs := by
  cases h with
  | dicK a b => exact ⟨_, _, rfl, rfl, a, b⟩
theorem vdicT {K : PySem.W.Frag} {w : World} {H : Hp} {r F : List Addr} {kvs : List (Val × Val)} {x : V} (h : Rep K w H r (.dic true kvs) x F) : ∃ a qs, x = .ref a ∧ F = [a] ∧ H a = some (.dT qs) ∧ RepT K w H r kvs qs := by
  cases h with
  | dicT a b => exact ⟨_, _, rfl, rfl, a, b⟩
theorem c_put {i : Nat} {x : Str} {p1 p2 : Pos} {v : Expr} (hmu : mu i = true) (hu : X.A.units + 200 < cLine) (hv : PE X (.Name x p1) (tVar i)) (hk : PEv X pg cl ck a) (he : PEv X pg cl ce v) (hs : swapsWith v (some (.Subscript (.Name x p1) a p2)) pos.line X.env = pure false)
    (hs2 : swapsWithSole [.Subscript (.Name x p1) a p2] v pos.line X.env = pure false) (hw : swappedStores [.Subscript (.Name x p1) a p2] v X.env = pure none) (hns : noSl a = true) :
    PS X (.Assign [.Subscript (.Name x p1) a p2] v pos) (TSv X.K X.w ow H0 mu (exC pg cl ow (.put i ck ce))) := by
  refine ⟨fun pins s σ H D I ⟨env, S, r, lab, R, RS, fin⟩ => ?_⟩
  simp only [exC] at fin
  obtain ⟨p, ev, fin⟩ := fin_then fin
  obtain ⟨q, ev2, fin⟩ := fin_then fin
  obtain ⟨gk, fin⟩ := fin_if fin
  split at fin
  · rename_i t kvs eo ee
    obtain ⟨gt, fin⟩ := fin_if fin
    obtain ⟨gl, fin⟩ := fin_if fin
    have ho : own ow i = true := by unfold own; rw [eo]; rfl
    obtain ⟨vv, F, h1, h2, h3, h4, h5⟩ := R.at_ i _ ee
    refine (ps_dput (by omega) hv hk he hs).run pins s σ H D I ⟨env, S, r, p.1, p.2, R.toE, RS, ev, fun v1 H1 r1 F1 p1' o1 s1 t1 f1 => ⟨vv, h1, env, p.2, r1, q.1, q.2, R.toE.step t1, s1, ev2, fun v2 H2 r2 F2 p2' o2 s2 t2 f2 => ?_⟩⟩
    have pv := (p1'.step o1 t2).plain gt.2
    have tt := t1.trans t2
    cases t with
    | false =>
      obtain ⟨l, qs, rfl, rfl, hl, lk⟩ := vdicK h2
      have hll : lab l = some i := by rw [h5 l List.mem_cons_self, if_pos ho]
      have nlr : l ∉ r := h3 l List.mem_cons_self
      have hl2 : H2 l = some (.dK qs) := tt.keep _ _ hl nlr
      obtain ⟨kq, ek⟩ := key_false gt.1
      rw [ek] at p2' fin
      obtain rfl := rep_keyV p2'
      have lk2 : RepK X.K X.w H2 r2 kvs qs := (lk.keep tt.sub (tt.kp (F := []) (by simp)))
      have lk3 := lk2.put kq pv
      refine ⟨l, _, rfl, .inl ⟨qs, kq, hl2, rfl, ?_, rfl⟩, ?_⟩
      · rw [← lk.length]; exact lim_lt gl
      · obtain ⟨R2, st2⟩ := R.mutG (mu := mu) (o' := .dK (putK qs kq v1)) (x := .dic false (dput kvs (keyV kq) p.1)) (G := []) tt h1 ho hmu hl2 (fun z => z) hll (.dicK upd_same (lk3.keep ids (kp_updG hl2 (fun z => z) (by simp)))) (by simp) (by simp) (by simp)
        exact fin _ _ _ _ R2 (s2.updG hl2 (fun z => z) (fun x z => nomatch z) (tt.off (F := [l]) (fun a m => by rw [List.mem_singleton.mp m]; exact some_ne hl) (fun a m => by rw [List.mem_singleton.mp m]; exact nlr) l (List.mem_singleton.mpr rfl))) st2
    | true =>
      obtain ⟨l, qs, rfl, rfl, hl, lk⟩ := vdicT h2
      have hll : lab l = some i := by rw [h5 l List.mem_cons_self, if_pos ho]
      have nlr : l ∉ r := h3 l List.mem_cons_self
      have hl2 : H2 l = some (.dT qs) := tt.keep _ _ hl nlr
      obtain ⟨kq, ek⟩ := key_true gt.1
      rw [ek] at p2' fin
      obtain ⟨b, ws, rfl, hb, lb⟩ := vtup p2'
      obtain rfl := repL_keyV lb
      have lk2 : RepT X.K X.w H2 r2 kvs qs := (lk.keep tt.sub (tt.kp (F := []) (by simp)))
      have lk3 := lk2.put kq pv
      refine ⟨l, _, rfl, .inr ⟨qs, kq, b, hl2, rfl, hb, ?_, rfl⟩, ?_⟩
      · rw [← lk.length]; exact lim_lt gl
      · obtain ⟨R2, st2⟩ := R.mutG (mu := mu) (o' := .dT (putK qs kq v1)) (x := .dic true (dput kvs (.tup (kq.map keyV)) p.1)) (G := []) tt h1 ho hmu hl2 (fun z => z) hll (.dicT upd_same (lk3.keep ids (kp_updG hl2 (fun z => z) (by simp)))) (by simp) (by simp) (by simp)
        exact fin _ _ _ _ R2 (s2.updG hl2 (fun z => z) (fun x z => nomatch z) (tt.off (F := [l]) (fun a m => by rw [List.mem_singleton.mp m]; exact some_ne hl) (fun a m => by rw [List.mem_singleton.mp m]; exact nlr) l (List.mem_singleton.mpr rfl))) st2
  · rename_i xs eo ee
    have ho : own ow i = true := by unfold own; rw [eo]; rfl
    split at fin
    · rename_i j ej
      split at fin
      · rename_i n en
        obtain ⟨gp, fin⟩ := fin_if fin
        obtain ⟨vv, F, h1, h2, h3, h4, h5⟩ := R.at_ i _ ee
        have pgx : PG X (.Subscript (.Name x p1) a p2) (gSub (tVar i) (TEv X.K X.w (evE pg cl ck) (fresh ck)) rSetL) := pg_sub hv hk set_list (fun v => by cases a <;> first | rfl | cases hns)
        refine (ps_asg he pgx hs2 hw rfl).run pins s σ H D I ⟨env, S, r, p.1, p.2, R.toE, RS, ev, fun v1 H1 r1 F1 p1' o1 s1 t1 f1 => ⟨vv, h1, env, p.2, r1, q.1, q.2, R.toE.step t1, s1, ev2, fun v2 H2 r2 F2 p2' o2 s2 t2 f2 => ?_⟩⟩
        have pv := (p1'.step o1 t2).plain gp
        have tt := t1.trans t2
        rw [ej] at p2'
        obtain rfl := vint p2'
        cases h2 with
        | lst hl lv =>
          rename_i l vs G
          have hll : lab l = some i := by rw [h5 l List.mem_cons_self, if_pos ho]
          have nlr : l ∉ r := h3 l List.mem_cons_self
          have hl2 : H2 l = some (.lst vs) := tt.keep _ _ hl nlr
          have nF := List.nodup_cons.mp (h4 ho)
          have thG : ∀ a, a ∈ l :: G → H a ≠ none := (Rep.lst (K := X.K) (w := X.w) hl lv).there
          obtain ⟨G2, g1, g2, g3⟩ := RepL.setI pv n (lv.step (fun a m => h3 a (List.mem_cons_of_mem _ m)) tt) nF.2
          have nl2 : l ∉ G2 := fun m => nF.1 (g3 l m)
          refine ⟨l, vs, j, n, rfl, rfl, hl2, by rw [← ixN_ixN', ← lv.length]; exact en, ?_⟩
          obtain ⟨R2, st2⟩ := R.mutG (mu := mu) (o' := .lst (vs.set n v1)) (x := .lst (xs.set n p.1)) (G := G2) tt h1 ho hmu hl2 (fun z => z) hll (.lst upd_same (g1.keep ids (kp_updG hl2 (fun z => z) nl2))) (List.nodup_cons.mpr ⟨nl2, g2⟩)
            (fun a m => tt.off thG h3 a (List.mem_cons_of_mem _ (g3 a m))) (fun a m => .inl (by rw [h5 a (List.mem_cons_of_mem _ (g3 a m)), if_pos ho]))
          exact fin _ _ _ _ R2 (s2.updG hl2 (fun z => z) (fun x z => nomatch z) (tt.off thG h3 l List.mem_cons_self)) st2
      · exact False.elim fin
    · exact False.elim fin
  · exact False.elim fin
end
end Ev

/-! SndN: new dicts, get, names unpacked, clear, insert. -/
namespace Ev
open PySem PySem.Spec PyProof.Rows L2

/-! ### names unpacked -/
section
variable {K : PySem.W.Frag} {w : World} {ow : List Bool} {H0 H H1 : Hp} {mu : Nat → Bool} {lab lab1 : Addr → Option Nat} {r r1 : List Addr} {env : Env} {σ : L2.St}
/-- values that wait for their slots: at the addresses Z -/
structure RelR (K : PySem.W.Frag) (w : World) (ow : List Bool) (H0 : Hp) (r : List Addr) (lab : Addr → Option Nat) (env : Env) (σ : L2.St) (H : Hp) (Z : List Addr) : Prop where
  at_ : ∀ (i : Nat) (x : Val), env[i]? = some (some x) → ∃ v F, σ[i]? = some (some v) ∧ Rep K w H r x v F ∧ (∀ a, a ∈ F → a ∉ r) ∧ (own ow i = true → F.Nodup) ∧ (∀ a, a ∈ F → lab a = if own ow i = true then some i else none) ∧ ∀ a, a ∈ F → a ∉ Z
  new : ∀ (a : Addr) (i : Nat), lab a = some i → H0 a = none ∧ H a ≠ none ∧ a ∉ r
  up : ∀ a, H0 a ≠ none → H a ≠ none
  len : σ.length = ow.length
  free : ∀ a, a ∈ Z → lab a = none ∧ H0 a = none ∧ H a ≠ none ∧ a ∉ r
  nd : Z.Nodup
theorem RelS.wait (h : RelS K w ow H0 r lab env σ H) (s : Stp H H1 r r1) {Z : List Addr} (fr : ∀ a, a ∈ Z → H a = none) (th : ∀ a, a ∈ Z → H1 a ≠ none) (o : ∀ a, a ∈ Z → a ∉ r1) (nd : Z.Nodup) : RelR K w ow H0 r1 lab env σ H1 Z where
  at_ := fun i x e => by
    obtain ⟨v, F, h1, h2, h3, h4, h5⟩ := h.at_ i x e
    exact ⟨v, F, h1, h2.step h3 s, s.off h2.there h3, h4, h5, fun a m z => h2.there a m (fr a z)⟩
  new := (h.step s).new
  up := (h.step s).up
  len := h.len
  free := fun a m => by
    refine ⟨?_, h.base (fr a m), th a m, o a m⟩
    cases q : lab a with
    | none => rfl
    | some i => exact absurd (fr a m) (h.new a i q).2.1
  nd := nd
theorem RelR.put {Z F : List Addr} (h : RelR K w ow H0 r lab env σ H (F ++ Z)) {i : Nat} {x : Val} {v : V} (hi : i < ow.length) (p : Rep K w H r x v F) : RelR K w ow H0 r (labSet lab F (if own ow i = true then some i else none)) (env.set i (some x)) (σ.set i (some v)) H Z := by
  obtain ⟨n1, n2, dj⟩ := List.nodup_append.mp h.nd
  have hi' : i < σ.length := by rw [h.len]; exact hi
  refine ⟨fun j y e => ?_, fun a j e => ?_, h.up, by rw [List.length_set]; exact h.len, fun a m => ?_, n2⟩
  · rcases set_get e with ⟨rfl, e2⟩ | ⟨ne, e⟩
    · obtain rfl := Option.some.inj e2
      exact ⟨v, F, List.getElem?_set_self hi', p, fun a m => (h.free a (List.mem_append_left _ m)).2.2.2, fun _ => n1, fun a m => if_pos m, fun a m z => dj a m a z rfl⟩
    · obtain ⟨u, G, g1, g2, g3, g4, g5, g6⟩ := h.at_ j y e
      refine ⟨u, G, by rw [List.getElem?_set_ne (fun z => ne z.symm)]; exact g1, g2, g3, g4, fun a m => ?_, fun a m z => g6 a m (List.mem_append_right _ z)⟩
      rw [labSet, if_neg (fun z => g6 a m (List.mem_append_left _ z))]
      exact g5 a m
  · unfold labSet at e
    split at e
    · rename_i m
      obtain ⟨f1, f2, f3, f4⟩ := h.free a (List.mem_append_left _ m)
      exact ⟨f2, f3, f4⟩
    · exact h.new a j e
  · obtain ⟨f1, f2⟩ := h.free a (List.mem_append_right _ m)
    refine ⟨?_, f2⟩
    rw [labSet, if_neg (fun z => dj a z a m rfl)]
    exact f1
theorem RelR.out {Z : List Addr} (h : RelR K w ow H0 r lab env σ H Z) : RelS K w ow H0 r lab env σ H where
  at_ := fun i x e => by
    obtain ⟨v, F, h1, h2, h3, h4, h5, _⟩ := h.at_ i x e
    exact ⟨v, F, h1, h2, h3, h4, h5⟩
  new := h.new
  up := h.up
  len := h.len
/-- names, one behind the other -/
def gNs : List Nat → TGs
  | [] => gNil
  | j :: js => gCons (gName j) (gNs js)
theorem unp_bind {js : List Nat} : ∀ {xs : List Val} {vs : List V} {F : List Addr} {lab : Addr → Option Nat} {env env' : Env} {σ : L2.St} {Q : L2.St → Hp → Prop}, RelR K w ow H0 r lab env σ H F → RepL K w H r xs vs F → (js.all fun j => decide (j < ow.length)) = true → unpSet js xs env = some env' →
    (∀ σ' lab', RelS K w ow H0 r lab' env' σ' H → (∀ a, a ∉ F → lab' a = lab a) → Q σ' H) → gNs js vs σ H Q := by
  induction js with
  | nil =>
    intro xs vs F lab env env' σ Q h l _ e k
    cases l with
    | nil => cases e; exact ⟨rfl, k σ lab h.out fun _ _ => rfl⟩
    | cons p l => cases e
  | cons j js ih =>
    intro xs vs F lab env env' σ Q h l hj e k
    rw [List.all_cons, Bool.and_eq_true, decide_eq_true_eq] at hj
    cases l with
    | nil => cases e
    | cons p l =>
      refine ⟨_, _, rfl, ih (h.put hj.1 p) l hj.2 e fun σ' lab' R ha => k σ' lab' R fun a m => ?_⟩
      rw [ha a (fun z => m (List.mem_append_right _ z)), labSet, if_neg (fun z => m (List.mem_append_left _ z))]
end
section
variable {X : Cx} {pos : Pos} {pg : Pg} {cl : CallT} {ow : List Bool} {H0 : Hp} {mu : Nat → Bool} {e a : Expr} {ce ca : E}
theorem unp_len : ∀ {js : List Nat} {vs : List Val} {env env' : Env}, unpSet js vs env = some env' → vs.length = js.length
  | [], [], _, _, _ => rfl
  | [], _ :: _, _, _, h => by cases h
  | _ :: _, [], _, _, h => by cases h
  | j :: js, v :: vs, _, _, h => by rw [List.length_cons, List.length_cons, unp_len (js := js) h]
theorem c_unp {js : List Nat} {n : Nat} {tg : Expr} (hn : js.length = n) (hj : (js.all fun j => decide (j < ow.length)) = true) (h : PS X (.Assign [tg] e pos) (tAsg (TEv X.K X.w (evE pg cl ce) (fresh ce)) (gTup X.K n (gNs js)))) : PS X (.Assign [tg] e pos) (TSv X.K X.w ow H0 mu (exC pg cl ow (.unp js ce))) := by
  refine ps_w h fun D σ H ⟨env, S, r, lab, R, RS, fin⟩ => ?_
  simp only [exC] at fin
  obtain ⟨p, ev, fin⟩ := fin_then fin
  obtain ⟨hk, fin⟩ := fin_if fin
  split at fin
  · rename_i vs ep
    split at fin
    · rename_i env' eu
      refine ⟨env, S, r, p.1, p.2, R.toE, RS, ev, fun v H1 r1 F p1 o1 s1 t1 f1 => ?_⟩
      obtain ⟨n1, g1⟩ := keep_new hk p1 f1
      have th := p1.there
      rw [ep] at p1
      obtain ⟨t, ws, rfl, q1, q2⟩ := vtup p1
      refine ⟨t, ws, rfl, .of q1, ?_, unp_bind (R.wait t1 g1 th o1 n1) q2 hj eu fun σ' lab' R2 ha => fin σ' H1 r1 lab' R2 s1 ⟨fun b u e n _ => ⟨t1.keep b u e n, ha b fun z => by rw [g1 b z] at e; cases e⟩, t1.there, t1.im, t1.ext⟩⟩
      rw [← q2.length, ← hn]
      exact unp_len eu
    · exact False.elim fin
  · exact False.elim fin
end
end Ev

/-! SndU: statements that change the store. -/
namespace Ev
open PySem PySem.Spec PyProof.Rows L2

mutual
theorem nk_pur : ∀ x : Val, isNK x = true → pur x = true
  | .tup xs, h => by rw [pur]; exact nks_pur xs (by simpa [isNK] using h)
  | .int _, _ => rfl
  | .str _, _ => rfl
  | .non, _ => rfl
  | .bl _, _ => rfl
  | .lst _, h => by simp [isNK] at h
  | .dic _ _, h => by simp [isNK] at h
  | .set _, h => by simp [isNK] at h
  | .ref _, _ => rfl
  | .exc _, _ => rfl
  | .scr _, h => by simp [isNK] at h
theorem nks_pur : ∀ xs : List Val, isNKs xs = true → purs xs = true
  | [], _ => rfl
  | x :: xs, h => by
    rw [isNKs, Bool.and_eq_true] at h
    rw [purs, nk_pur x h.1, nks_pur xs h.2]
    rfl
end
section
variable {X : Cx} {pos : Pos} {pg : Pg} {cl : CallT} {ow : List Bool} {H0 : Hp} {mu : Nat → Bool} {e a b v : Expr} {ce ca cb : E} {fe fa fb : Bool}
def noComp : Expr → Bool
  | .ListComp .. => false
  | .SetComp .. => false
  | .DictComp .. => false
  | _ => true
theorem sw_plain {e : Expr} {t : Option Expr} {l : Nat} {env : PySem.Env} (h : noComp e = true) : swapsWith e t l env = pure false := by
  cases e <;> first | rfl | cases h
theorem c_exp (hn : noComp e = true) (h : PE X e (TEv X.K X.w (evE pg cl ce) fe)) : PS X (.Expr e pos) (TSv X.K X.w ow H0 mu (exC pg cl ow (.exp ce))) :=
  ps_w (ps_expr h (sw_plain hn)) fun D σ H ⟨env, S, r, lab, R, RS, fin⟩ => by
    simp only [exC] at fin
    obtain ⟨p, ev, fin⟩ := fin_then fin
    exact ⟨env, S, r, p.1, p.2, R.toE, RS, ev, fun v H1 r1 F p1 o1 s1 t1 f1 => fin σ H1 r1 lab (R.step t1) s1 (.stp t1)⟩
/-- behind a write in the store -/
theorem fin_put {K : PySem.W.Frag} {w : World} {H H1 : Hp} {lab : Addr → Option Nat} {r r1 : List Addr} {env : Env} {σ : L2.St} {S1 : Sto} {D : Ends} {n : Nat} {l : Addr} {u : HO} {o : Ob} (R : RelS K w ow H0 r lab env σ H) (t : Stp H H1 r r1) (s : RSto K w H1 r1 S1) (hl : r1[n]? = some l) (ob : RepOb K w (upd H1 l u) r1 o l)
    (fin : Fin K w ow H0 mu lab H r (.ok .nx env (S1.set n o)) D) : D.nx σ (upd H1 l u) := by
  have t2 := t.trans (s.stp (u := u) (List.mem_of_getElem? hl))
  exact fin σ (upd H1 l u) r1 lab (R.step t2) (s.put hl ob) (.stp t2)
theorem kpL {K : PySem.W.Frag} {w : World} {H : Hp} {r : List Addr} {xs : List Val} {vs ws : List V} {l : Addr} (hv : H l = some (.lst ws)) {u : HO} (lv : RepL K w H r xs vs []) : RepL K w (upd H l u) r xs vs [] := lv.keep ids (kp_updG hv (fun z => z) (by simp))
theorem obL {K : PySem.W.Frag} {w : World} {H : Hp} {r : List Addr} {xs : List Val} {vs ws : List V} {l : Addr} (hv : H l = some (.lst ws)) (lv : RepL K w H r xs vs []) : RepOb K w (upd H l (.lst vs)) r (.lst xs) l := ⟨vs, upd_same, kpL hv lv⟩
theorem obK {K : PySem.W.Frag} {w : World} {H : Hp} {r : List Addr} {kvs : List (Val × Val)} {qs : List (L2.Key × V)} {l : Addr} {u : HO} (hv : H l = some u) (hu : ¬immut u) (lv : RepK K w H r kvs qs) : RepOb K w (upd H l (.dK qs)) r (.dic false kvs) l := .inl ⟨rfl, _, upd_same, lv.keep ids (kp_updG hv hu (by simp))⟩
theorem obT {K : PySem.W.Frag} {w : World} {H : Hp} {r : List Addr} {kvs : List (Val × Val)} {qs : List (List L2.Key × V)} {l : Addr} {u : HO} (hv : H l = some u) (hu : ¬immut u) (lv : RepT K w H r kvs qs) : RepOb K w (upd H l (.dT qs)) r (.dic true kvs) l := .inr ⟨rfl, _, upd_same, lv.keep ids (kp_updG hv hu (by simp))⟩
theorem obI {K : PySem.W.Frag} {w : World} {H : Hp} {r : List Addr} {c : Nat} {fs : List (Nat × Val)} {qs qs' : List (Str × V)} {l dx : Addr} (hv : H l = some (.ins (clsA K c) dx qs)) (hd : H dx = some (.own l)) (lv : RepF K w H r fs qs') : RepOb K w (upd H l (.ins (clsA K c) dx qs')) r (.ins c fs) l :=
  ⟨dx, _, upd_same, by rw [upd_ne (fun z => by rw [z, hv] at hd; cases hd)]; exact hd, lv.keep ids (kp_updG hv (fun z => z) (by simp))⟩
theorem obN {K : PySem.W.Frag} {w : World} {H : Hp} {r : List Addr} {kvs : List (Val × Val)} {xs xs' : List (NestedKey × Addr × V)} {l : Addr} (hv : H l = some (NdO w l xs)) (lv : RepN K w H r kvs xs') : RepOb K w (upd H l (NdO w l xs')) r (.dicN kvs) l := ⟨_, upd_same, lv.keep ids (kp_updG hv (fun z => z) (by simp))⟩
theorem repL_app {K : PySem.W.Frag} {w : World} {H : Hp} {r : List Addr} {xs ys : List Val} {vs ws : List V} (h : RepL K w H r xs vs []) (g : RepL K w H r ys ws []) : RepL K w H r (xs ++ ys) (vs ++ ws) [] := by
  have := h.append g
  rwa [List.append_nil] at this
theorem repL_one {K : PySem.W.Frag} {w : World} {H : Hp} {r : List Addr} {x : Val} {v : V} (h : Rep K w H r x v []) : RepL K w H r [x] [v] [] := repL_cons h .nil
theorem repL_take {K : PySem.W.Frag} {w : World} {H : Hp} {r : List Addr} : ∀ {xs : List Val} {vs : List V} (n : Nat), RepL K w H r xs vs [] → RepL K w H r (xs.take n) (vs.take n) [] ∧ RepL K w H r (xs.drop n) (vs.drop n) []
  | xs, vs, 0, h => ⟨by simpa using RepL.nil, by simpa using h⟩
  | [], vs, n + 1, h => by cases h; exact ⟨by simpa using RepL.nil, by simpa using RepL.nil⟩
  | x :: xs, [], n + 1, h => by have := h.length; simp at this
  | x :: xs, v :: vs, n + 1, h => by
    obtain ⟨h1, h2⟩ := repL_unc h
    obtain ⟨h3, h4⟩ := repL_take n h2
    exact ⟨by simpa using repL_cons h1 h3, by simpa using h4⟩
section
variable {apos cpos : Pos} {x y : Expr}
theorem m_append (ha : PE X a (TEv X.K X.w (evE pg cl ca) fa)) (hx : PE X x (TEv X.K X.w (evE pg cl ce) (fresh ce))) (hb : attributeBase a "append" X.env (eval a X.env) = eval a X.env) (hs : noStar x = true) (hline : (apos.endLine == cpos.line) = true) :
    PS X (.Expr (.Call (.Attribute a "append" apos) [x] [] cpos) pos) (TSv X.K X.w ow H0 mu (exC pg cl ow (.mutR .append ca (.cons ce .nil)))) := by
  have st : starEach [x] X.env = (false, eval x X.env) :: starEach [] X.env := star_one hs [] _
  refine ps_w (ps_expr (pe_bm PySem.F.plainAttrs_list PySem.F.slot_list_append PySem.F.type_list_append mt_append ha (pa_cons hx pa_nil st) hb (by rw [st]; rfl) hline st rfl)) fun D σ H ⟨env, S, r, lab, R, RS, fin⟩ => ?_
  simp only [exC] at fin
  obtain ⟨p, ev, fin⟩ := fin_then fin
  obtain ⟨o0, e0, fin⟩ := fin_then fin
  obtain ⟨q, ev1, fin⟩ := fin_then fin
  simp only [evK] at ev1
  obtain ⟨q0, ev0, e2⟩ := bind_ok' ev1
  obtain ⟨g, e2⟩ := guard_ok e2
  simp only [bind_ok] at e2
  obtain rfl := ok_inj e2
  obtain ⟨o, e1, fin⟩ := fin_then fin
  obtain ⟨ys, em, fin⟩ := fin_then fin
  simp only [muR] at em
  obtain ⟨gl, em⟩ := guard_ok em
  obtain rfl := ok_inj em
  rw [Bool.and_eq_true, decide_eq_true_eq] at gl
  refine ⟨env, S, r, p.1, p.2, R.toE, RS, ev, fun v1 H1 r1 F1 p1 o1 s1 t1 _ => ?_⟩
  obtain ⟨e3, es3⟩ := lstR_ok e0
  have p1' := p1
  rw [e3] at p1'
  obtain ⟨l, rfl, hl, vs, hv, lv⟩ := s1.ref p1' es3
  refine ⟨.inl ⟨rfl, _, .of hv⟩, env, p.2, r1, q0.1, q0.2, R.toE.step t1, s1, ev0, fun u H2 r2 F2 p2 o2 s2 t2 _ => ?_⟩
  obtain ⟨e4, es4⟩ := lstR_ok e1
  rw [e3] at e4
  have e4 : o0.1 = o.1 := by injection e4
  rw [e4] at hl
  have hl2 := t2.sub _ _ hl
  obtain ⟨vs2, hv2, lv2⟩ := s2.get hl2 es4
  refine ⟨l, vs2, u, rfl, rfl, hv2, by rw [← lv2.length]; exact lim_lt gl.1, ?_⟩
  exact fin_put R (t1.trans t2) s2 hl2 (obL hv2 (repL_app lv2 (repL_one (p2.plain gl.2)))) fin
theorem m_extend (ha : PE X a (TEv X.K X.w (evE pg cl ca) fa)) (hx : PE X x (TEv X.K X.w (evE pg cl ce) (fresh ce))) (hb : attributeBase a "extend" X.env (eval a X.env) = eval a X.env) (hs : noStar x = true) (hline : (apos.endLine == cpos.line) = true) :
    PS X (.Expr (.Call (.Attribute a "extend" apos) [x] [] cpos) pos) (TSv X.K X.w ow H0 mu (exC pg cl ow (.mutR .extend ca (.cons ce .nil)))) := by
  have st : starEach [x] X.env = (false, eval x X.env) :: starEach [] X.env := star_one hs [] _
  refine ps_w (ps_expr (pe_bm PySem.F.plainAttrs_list PySem.F.slot_list_extend PySem.F.type_list_extend mt_extend ha (pa_cons hx pa_nil st) hb (by rw [st]; rfl) hline st rfl)) fun D σ H ⟨env, S, r, lab, R, RS, fin⟩ => ?_
  simp only [exC] at fin
  obtain ⟨p, ev, fin⟩ := fin_then fin
  obtain ⟨o0, e0, fin⟩ := fin_then fin
  obtain ⟨q, ev1, fin⟩ := fin_then fin
  simp only [evK] at ev1
  obtain ⟨q0, ev0, e2⟩ := bind_ok' ev1
  obtain ⟨g, e2⟩ := guard_ok e2
  simp only [bind_ok] at e2
  obtain rfl := ok_inj e2
  obtain ⟨o, e1, fin⟩ := fin_then fin
  obtain ⟨zs, em, fin⟩ := fin_then fin
  obtain ⟨ys, ey⟩ : ∃ ys, q0.1 = .lst ys := by
    cases z : q0.1 <;> rw [z] at em <;> first | exact ⟨_, rfl⟩ | (simp only [muR] at em; cases em)
  rw [ey] at em
  simp only [muR] at em
  obtain ⟨gl, em⟩ := guard_ok em
  obtain rfl := ok_inj em
  rw [Bool.and_eq_true, decide_eq_true_eq] at gl
  refine ⟨env, S, r, p.1, p.2, R.toE, RS, ev, fun v1 H1 r1 F1 p1 o1 s1 t1 _ => ?_⟩
  obtain ⟨e3, es3⟩ := lstR_ok e0
  have p1' := p1
  rw [e3] at p1'
  obtain ⟨l, rfl, hl, vs, hv, lv⟩ := s1.ref p1' es3
  refine ⟨.inl ⟨rfl, _, .of hv⟩, env, p.2, r1, q0.1, q0.2, R.toE.step t1, s1, ev0, fun u H2 r2 F2 p2 o2 s2 t2 _ => ?_⟩
  obtain ⟨e4, es4⟩ := lstR_ok e1
  rw [e3] at e4
  have e4 : o0.1 = o.1 := by injection e4
  rw [e4] at hl
  have hl2 := t2.sub _ _ hl
  obtain ⟨vs2, hv2, lv2⟩ := s2.get hl2 es4
  rw [ey] at p2
  obtain ⟨b2, ws, G, rfl, hw, lw⟩ := vlst p2
  refine ⟨l, b2, vs2, ws, rfl, rfl, hv2, hw, by rw [← lv2.length, ← lw.length]; exact lim_line gl.1, ?_⟩
  exact fin_put R (t1.trans t2) s2 hl2 (obL hv2 (repL_app lv2 (lw.plain gl.2))) fin
theorem m_popAt (ha : PE X a (TEv X.K X.w (evE pg cl ca) fa)) (hx : PE X x (TEv X.K X.w (evE pg cl ce) (fresh ce))) (hb : attributeBase a "pop" X.env (eval a X.env) = eval a X.env) (hs : noStar x = true) (hline : (apos.endLine == cpos.line) = true) :
    PS X (.Expr (.Call (.Attribute a "pop" apos) [x] [] cpos) pos) (TSv X.K X.w ow H0 mu (exC pg cl ow (.mutR .pop ca (.cons ce .nil)))) := by
  have st : starEach [x] X.env = (false, eval x X.env) :: starEach [] X.env := star_one hs [] _
  refine ps_w (ps_expr (pe_bm PySem.F.plainAttrs_list PySem.F.slot_list_pop PySem.F.type_list_pop mt_popAt ha (pa_cons hx pa_nil st) hb (by rw [st]; rfl) hline st rfl)) fun D σ H ⟨env, S, r, lab, R, RS, fin⟩ => ?_
  simp only [exC] at fin
  obtain ⟨p, ev, fin⟩ := fin_then fin
  obtain ⟨o0, e0, fin⟩ := fin_then fin
  obtain ⟨q, ev1, fin⟩ := fin_then fin
  simp only [evK] at ev1
  obtain ⟨q0, ev0, e2⟩ := bind_ok' ev1
  obtain ⟨g, e2⟩ := guard_ok e2
  simp only [bind_ok] at e2
  obtain rfl := ok_inj e2
  obtain ⟨o, e1, fin⟩ := fin_then fin
  obtain ⟨zs, em, fin⟩ := fin_then fin
  obtain ⟨j, ey⟩ : ∃ j, q0.1 = .int j := by
    cases z : q0.1 <;> rw [z] at em <;> first | exact ⟨_, rfl⟩ | (simp only [muR] at em; cases em)
  rw [ey] at em
  simp only [muR] at em
  obtain ⟨gl, em⟩ := guard_ok em
  obtain rfl := ok_inj em
  rw [decide_eq_true_eq] at gl
  obtain ⟨g0, g1, g2⟩ := gl
  refine ⟨env, S, r, p.1, p.2, R.toE, RS, ev, fun v1 H1 r1 F1 p1 o1 s1 t1 _ => ?_⟩
  obtain ⟨e3, es3⟩ := lstR_ok e0
  have p1' := p1
  rw [e3] at p1'
  obtain ⟨l, rfl, hl, vs, hv, lv⟩ := s1.ref p1' es3
  refine ⟨.inl ⟨rfl, _, .of hv⟩, env, p.2, r1, q0.1, q0.2, R.toE.step t1, s1, ev0, fun u H2 r2 F2 p2 o2 s2 t2 _ => ?_⟩
  obtain ⟨e4, es4⟩ := lstR_ok e1
  rw [e3] at e4
  have e4 : o0.1 = o.1 := by injection e4
  rw [e4] at hl
  have hl2 := t2.sub _ _ hl
  obtain ⟨vs2, hv2, lv2⟩ := s2.get hl2 es4
  rw [ey] at p2
  cases p2
  have ln := lv2.length
  have hjv : j.toNat < vs2.length := by omega
  refine ⟨l, vs2, j, j.toNat, vs2[j.toNat], rfl, rfl, hv2, by omega, by unfold LIM at g2; omega, ?_, List.getElem?_eq_getElem hjv, ?_⟩
  · unfold seqIndex?
    have hn : ¬ j < 0 := by omega
    have hv2 : j < (vs2.length : Int) := by omega
    simp only [if_neg hn]
    rw [if_pos (by rw [decide_eq_true g0, decide_eq_true hv2]; rfl)]
  · refine fin_put R (t1.trans t2) s2 hl2 (obL hv2 ?_) fin
    rw [List.eraseIdx_eq_take_drop_succ, List.eraseIdx_eq_take_drop_succ]
    exact repL_app (repL_take _ lv2).1 (repL_take _ lv2).2
theorem m_insert (ha : PE X a (TEv X.K X.w (evE pg cl ca) fa)) (hx : PE X x (TEv X.K X.w (evE pg cl ce) (fresh ce))) (hy : PE X y (TEv X.K X.w (evE pg cl cb) (fresh cb))) (hb : attributeBase a "insert" X.env (eval a X.env) = eval a X.env) (hs : noStar x = true) (hs2 : noStar y = true) (hline : (apos.endLine == cpos.line) = true) :
    PS X (.Expr (.Call (.Attribute a "insert" apos) [x, y] [] cpos) pos) (TSv X.K X.w ow H0 mu (exC pg cl ow (.mutR .insert ca (.cons ce (.cons cb .nil))))) := by
  have st : starEach [x, y] X.env = (false, eval x X.env) :: starEach [y] X.env := star_one hs [y] _
  have st2 : starEach [y] X.env = (false, eval y X.env) :: starEach [] X.env := star_one hs2 [] _
  refine ps_w (ps_expr (pe_bm PySem.F.plainAttrs_list PySem.F.slot_list_insert PySem.F.type_list_insert mt_insert ha (pa_cons hx (pa_cons hy pa_nil st2) st) hb (by rw [st, st2]; rfl) hline st (by rw [st2]; rfl))) fun D σ H ⟨env, S, r, lab, R, RS, fin⟩ => ?_
  simp only [exC] at fin
  obtain ⟨p, ev, fin⟩ := fin_then fin
  obtain ⟨o0, e0, fin⟩ := fin_then fin
  obtain ⟨q, ev1, fin⟩ := fin_then fin
  simp only [evK] at ev1
  obtain ⟨q0, ev0, e2⟩ := bind_ok' ev1
  obtain ⟨g, e2⟩ := guard_ok e2
  obtain ⟨q1, e5, e2⟩ := bind_ok' e2
  obtain ⟨q2, ev2, e6⟩ := bind_ok' e5
  obtain ⟨g2, e6⟩ := guard_ok e6
  simp only [bind_ok] at e6
  obtain rfl := ok_inj e6
  obtain rfl := ok_inj e2
  obtain ⟨o, e1, fin⟩ := fin_then fin
  obtain ⟨zs, em, fin⟩ := fin_then fin
  obtain ⟨j, ey⟩ : ∃ j, q0.1 = .int j := by
    cases z : q0.1 <;> rw [z] at em <;> first | exact ⟨_, rfl⟩ | (simp only [muR] at em; cases em)
  rw [ey] at em
  simp only [muR] at em
  obtain ⟨gl, em⟩ := guard_ok em
  obtain rfl := ok_inj em
  rw [Bool.and_eq_true, decide_eq_true_eq] at gl
  obtain ⟨⟨g0, g1, g3⟩, gp⟩ := gl
  refine ⟨env, S, r, p.1, p.2, R.toE, RS, ev, fun v1 H1 r1 F1 p1 o1 s1 t1 _ => ?_⟩
  obtain ⟨e3, es3⟩ := lstR_ok e0
  have p1' := p1
  rw [e3] at p1'
  obtain ⟨l, rfl, hl, vs, hv, lv⟩ := s1.ref p1' es3
  refine ⟨.inl ⟨rfl, _, .of hv⟩, env, p.2, r1, q0.1, q0.2, R.toE.step t1, s1, ev0, fun u H2 r2 F2 p2 o2 s2 t2 _ => ⟨env, q0.2, r2, q2.1, q2.2, R.toE.step (t1.trans t2), s2, ev2, fun u3 H3 r3 F3 p3 o3 s3 t3 _ => ?_⟩⟩
  obtain ⟨e4, es4⟩ := lstR_ok e1
  rw [e3] at e4
  have e4 : o0.1 = o.1 := by injection e4
  rw [e4] at hl
  have hl3 := t3.sub _ _ (t2.sub _ _ hl)
  obtain ⟨vs2, hv2, lv2⟩ := s3.get hl3 es4
  rw [ey] at p2
  cases p2
  refine ⟨l, vs2, j, u3, rfl, rfl, hv2, by rw [← lv2.length]; exact lim_lt g0, g1, by unfold LIM at g0; omega, ?_⟩
  exact fin_put R (t1.trans (t2.trans t3)) s3 hl3 (obL hv2 (repL_app (repL_app (repL_take _ lv2).1 (repL_one (p3.plain gp))) (repL_take _ lv2).2)) fin
theorem m_pop (ha : PE X a (TEv X.K X.w (evE pg cl ca) fa)) (hb : attributeBase a "pop" X.env (eval a X.env) = eval a X.env) (hline : (apos.endLine == cpos.line) = true) :
    PS X (.Expr (.Call (.Attribute a "pop" apos) [] [] cpos) pos) (TSv X.K X.w ow H0 mu (exC pg cl ow (.mutR .pop ca .nil))) := by
  refine ps_w (ps_expr (pe_bm0 PySem.F.plainAttrs_list PySem.F.slot_list_pop PySem.F.type_list_pop mt_pop ha hb hline)) fun D σ H ⟨env, S, r, lab, R, RS, fin⟩ => ?_
  simp only [exC, evK] at fin
  obtain ⟨p, ev, fin⟩ := fin_then fin
  obtain ⟨o0, e0, fin⟩ := fin_then fin
  simp only [then_ok] at fin
  obtain ⟨o, e1, fin⟩ := fin_then fin
  obtain ⟨zs, em, fin⟩ := fin_then fin
  simp only [muR] at em
  obtain ⟨gl, em⟩ := guard_ok em
  obtain rfl := ok_inj em
  have gl : o.2 ≠ [] := of_decide_eq_true gl
  refine ⟨env, S, r, p.1, p.2, R.toE, RS, ev, fun v1 H1 r1 F1 p1 o1 s1 t1 _ => ?_⟩
  obtain ⟨e3, es3⟩ := lstR_ok e1
  rw [e3] at p1
  obtain ⟨l, rfl, hl, vs, hv, lv⟩ := s1.ref p1 es3
  have hp := List.length_pos_iff.mpr gl
  have hg : o.2[o.2.length - 1]? = some o.2[o.2.length - 1] := List.getElem?_eq_getElem (by omega)
  obtain ⟨yv, h1, h2⟩ := repL_nil lv hg
  refine ⟨.inl ⟨rfl, _, .of hv⟩, l, vs, yv, rfl, rfl, hv, by rw [← lv.length]; exact h1, ?_⟩
  exact fin_put R t1 s1 hl (obL hv (repL_init lv)) fin
theorem m_clear (ha : PE X a (TEv X.K X.w (evE pg cl ca) fa)) (hb : attributeBase a "clear" X.env (eval a X.env) = eval a X.env) (hline : (apos.endLine == cpos.line) = true) :
    PS X (.Expr (.Call (.Attribute a "clear" apos) [] [] cpos) pos) (TSv X.K X.w ow H0 mu (exC pg cl ow (.mutR .clear ca .nil))) := by
  refine ps_w (ps_expr (pe_bm0 PySem.F.plainAttrs_list PySem.F.slot_list_clear PySem.F.type_list_clear mt_clear ha hb hline)) fun D σ H ⟨env, S, r, lab, R, RS, fin⟩ => ?_
  simp only [exC, evK] at fin
  obtain ⟨p, ev, fin⟩ := fin_then fin
  obtain ⟨o0, e0, fin⟩ := fin_then fin
  simp only [then_ok] at fin
  obtain ⟨o, e1, fin⟩ := fin_then fin
  obtain ⟨zs, em, fin⟩ := fin_then fin
  simp only [muR] at em
  obtain rfl := ok_inj em
  refine ⟨env, S, r, p.1, p.2, R.toE, RS, ev, fun v1 H1 r1 F1 p1 o1 s1 t1 _ => ?_⟩
  obtain ⟨e3, es3⟩ := lstR_ok e1
  rw [e3] at p1
  obtain ⟨l, rfl, hl, vs, hv, lv⟩ := s1.ref p1 es3
  exact ⟨.inl ⟨rfl, _, .of hv⟩, l, vs, rfl, rfl, hv, fin_put R t1 s1 hl (obL hv .nil) fin⟩
end

/-! ### items and fields stored -/
theorem repL_set {K : PySem.W.Frag} {w : World} {H : Hp} {r : List Addr} {x : Val} {v : V} (hx : Rep K w H r x v []) : ∀ {xs : List Val} {vs : List V} (n : Nat), RepL K w H r xs vs [] → RepL K w H r (xs.set n x) (vs.set n v) []
  | [], vs, n, h => by cases h; exact .nil
  | y :: xs, [], n, h => by have := h.length; simp at this
  | y :: xs, u :: vs, 0, h => repL_cons hx (repL_unc h).2
  | y :: xs, u :: vs, n + 1, h => repL_cons (repL_unc h).1 (repL_set hx n (repL_unc h).2)
theorem c_putR {p2 : Pos} (hu : X.A.units + 200 < cLine) (hv : PE X a (TEv X.K X.w (evE pg cl ca) fa)) (hk : PE X b (TEv X.K X.w (evE pg cl cb) fb)) (he : PE X v (TEv X.K X.w (evE pg cl ce) fe)) (hs : swapsWith v (some (.Subscript a b p2)) pos.line X.env = pure false)
    (hs2 : swapsWithSole [.Subscript a b p2] v pos.line X.env = pure false) (hw : swappedStores [.Subscript a b p2] v X.env = pure none) (hns : noSl b = true) :
    PS X (.Assign [.Subscript a b p2] v pos) (TSv X.K X.w ow H0 mu (exC pg cl ow (.putR ca cb ce))) := by
  refine ⟨fun pins s σ H D I ⟨env, S, r, lab, R, RS, fin⟩ => ?_⟩
  simp only [exC] at fin
  obtain ⟨p, ev, fin⟩ := fin_then fin
  obtain ⟨q, ev2, fin⟩ := fin_then fin
  obtain ⟨u, ev3, fin⟩ := fin_then fin
  obtain ⟨gp, fin⟩ := fin_if fin
  obtain ⟨o, ep, fin⟩ := fin_then fin
  unfold putO at ep
  split at ep
  · rename_i n eq
    split at ep
    · rename_i t kvs es
      obtain ⟨g, ep⟩ := guard_ok ep
      rw [Bool.and_eq_true, decide_eq_true_eq] at g
      obtain rfl := ok_inj ep
      refine (ps_dput (by omega) hv hk he hs).run pins s σ H D I ⟨env, S, r, p.1, p.2, R.toE, RS, ev, fun v1 H1 r1 F1 p1 o1 s1 t1 _ => ⟨env, p.2, r1, q.1, q.2, R.toE.step t1, s1, ev2, fun v2 H2 r2 F2 p2' o2 s2 t2 _ => ⟨env, q.2, r2, u.1, u.2, R.toE.step (t1.trans t2), s2, ev3, fun v3 H3 r3 F3 p3 o3 s3 t3 _ => ?_⟩⟩⟩
      have pv := ((p1.step o1 t2).step (t2.off p1.there o1) t3).plain gp
      have pl := p2'.step o2 t3
      rw [eq] at pl
      obtain ⟨l, rfl, hl, ob⟩ := s3.ref pl es
      rcases ob with ⟨rfl, qs, hq, lk⟩ | ⟨rfl, qs, hq, lk⟩
      · obtain ⟨kq, ek⟩ := key_false g.1
        rw [ek] at p3 fin
        obtain rfl := rep_keyV p3
        refine ⟨l, _, rfl, .inl ⟨qs, kq, hq, rfl, ?_, rfl⟩, ?_⟩
        · rw [← lk.length]; exact lim_lt g.2
        · exact fin_put R (t1.trans (t2.trans t3)) s3 hl (obK hq (fun z => z) (lk.put kq pv)) fin
      · obtain ⟨kq, ek⟩ := key_true g.1
        rw [ek] at p3 fin
        obtain ⟨b3, ws, rfl, hb, lb⟩ := vtup p3
        obtain rfl := repL_keyV lb
        refine ⟨l, _, rfl, .inr ⟨qs, kq, b3, hq, rfl, hb, ?_, rfl⟩, ?_⟩
        · rw [← lk.length]; exact lim_lt g.2
        · exact fin_put R (t1.trans (t2.trans t3)) s3 hl (obT hq (fun z => z) (lk.put kq pv)) fin
    · rename_i xs es
      split at ep
      · rename_i j ej
        obtain ⟨i, ei, ep⟩ := bind_ok' ep
        obtain rfl := ok_inj ep
        have pgx : PG X (.Subscript a b p2) (gSub (TEv X.K X.w (evE pg cl ca) fa) (TEv X.K X.w (evE pg cl cb) fb) rSetL) := pg_sub hv hk set_list (fun v => by cases b <;> first | rfl | cases hns)
        refine (ps_asg he pgx hs2 hw rfl).run pins s σ H D I ⟨env, S, r, p.1, p.2, R.toE, RS, ev, fun v1 H1 r1 F1 p1 o1 s1 t1 _ => ⟨env, p.2, r1, q.1, q.2, R.toE.step t1, s1, ev2, fun v2 H2 r2 F2 p2' o2 s2 t2 _ => ⟨env, q.2, r2, u.1, u.2, R.toE.step (t1.trans t2), s2, ev3, fun v3 H3 r3 F3 p3 o3 s3 t3 _ => ?_⟩⟩⟩
        have pv := ((p1.step o1 t2).step (t2.off p1.there o1) t3).plain gp
        have pl := p2'.step o2 t3
        rw [eq] at pl
        obtain ⟨l, rfl, hl, vs, hq, lv⟩ := s3.ref pl es
        rw [ej] at p3
        obtain rfl := vint p3
        refine ⟨l, vs, j, i, rfl, rfl, hq, by rw [← ixN_ixN', ← lv.length]; exact of_ok ei, ?_⟩
        exact fin_put R (t1.trans (t2.trans t3)) s3 hl (obL hq (repL_set pv i lv)) fin
      · cases ep
    · cases ep
  · cases ep
theorem c_putF {f : Nat} {p2 : Pos} (hf : FldOk X.K pg) (ha : PE X a (TEv X.K X.w (evE pg cl ca) fa)) (he : PE X v (TEv X.K X.w (evE pg cl ce) fe)) (hs : swapsWith v (some (.Attribute a (fldS f) p2)) pos.line X.env = pure false) :
    PS X (.Assign [.Attribute a (fldS f) p2] v pos) (TSv X.K X.w ow H0 mu (exC pg cl ow (.putF ca f ce))) :=
  ps_w (ps_fld ha he hs) fun D σ H ⟨env, S, r, lab, R, RS, fin⟩ => by
    simp only [exC] at fin
    obtain ⟨p, ev, fin⟩ := fin_then fin
    obtain ⟨q, ev2, fin⟩ := fin_then fin
    obtain ⟨o, e3, fin⟩ := fin_then fin
    obtain ⟨g, fin⟩ := fin_if fin
    rw [Bool.and_eq_true, Bool.and_eq_true, decide_eq_true_eq] at g
    refine ⟨env, S, r, p.1, p.2, R.toE, RS, ev, fun v1 H1 r1 F1 p1 o1 s1 t1 _ => ⟨env, p.2, r1, q.1, q.2, R.toE.step t1, s1, ev2, fun v2 H2 r2 F2 p2 o2 s2 t2 _ => ?_⟩⟩
    have pv := (p1.step o1 t2).plain g.1.1
    obtain ⟨e4, es4⟩ := insR_ok e3
    rw [e4] at p2
    obtain ⟨l, rfl, hl, dx, qs, hv, hd, rf⟩ := s2.ref p2 es4
    obtain ⟨h9, c, n⟩ := hf _ _ g.1.2
    refine ⟨l, _, dx, qs, rfl, hv, c, n, by rw [← repF_len rf]; omega, ?_⟩
    exact fin_put R (t1.trans t2) s2 hl (obI hv hd (repF_put h9 pv rf)) fin
theorem c_nput {p2 : Pos} (hu : X.A.units + 200 < cLine) (hv : PE X a (TEv X.K X.w (evE pg cl ca) fa)) (hk : PE X b (TEv X.K X.w (evE pg cl cb) fb)) (he : PE X v (TEv X.K X.w (evE pg cl ce) fe)) (hs : swapsWith v (some (.Subscript a b p2)) pos.line X.env = pure false) :
    PS X (.Assign [.Subscript a b p2] v pos) (TSv X.K X.w ow H0 mu (exC pg cl ow (.nput ca cb ce))) := by
  refine ⟨fun pins s σ H D I ⟨env, S, r, lab, R, RS, fin⟩ => ?_⟩
  simp only [exC] at fin
  obtain ⟨p, ev, fin⟩ := fin_then fin
  obtain ⟨q, ev2, fin⟩ := fin_then fin
  obtain ⟨u, ev3, fin⟩ := fin_then fin
  obtain ⟨kvs, en, fin⟩ := fin_then fin
  obtain ⟨n, eq, es⟩ := nkvs_ok en
  rw [eq] at fin
  obtain ⟨g, fin⟩ := fin_if fin
  rw [Bool.and_eq_true, Bool.and_eq_true, decide_eq_true_eq] at g
  refine wpAny_Assign_Subscript (thn (he.run pins s σ H (fun v1 H1 => ∃ r1 F1, Rep X.K X.w H1 r1 p.1 v1 F1 ∧ (∀ a, a ∈ F1 → a ∉ r1) ∧ RSto X.K X.w H1 r1 p.2 ∧ Stp H H1 r r1) I ⟨env, S, r, p.1, p.2, R.toE, RS, ev, fun v1 H1 r1 F1 p1 o1 s1 t1 _ => ⟨r1, F1, p1, o1, s1, t1⟩⟩) fun uv s1 ⟨v1, H1, I1, rv1, r1, F1, p1, o1, st1, t1⟩ =>
    thn (hv.run pins s1 σ H1 (fun v2 H2 => ∃ r2 F2, Rep X.K X.w H2 r2 q.1 v2 F2 ∧ (∀ a, a ∈ F2 → a ∉ r2) ∧ RSto X.K X.w H2 r2 q.2 ∧ Stp H1 H2 r1 r2) I1 ⟨env, p.2, r1, q.1, q.2, R.toE.step t1, st1, ev2, fun v2 H2 r2 F2 p2 o2 s2 t2 _ => ⟨r2, F2, p2, o2, s2, t2⟩⟩) fun ud s2 ⟨v2, H2, I2, rv2, r2, F2, p2, o2, st2, t2⟩ =>
    thn (hk.run pins s2 σ H2 (fun v3 H3 => ∃ r3 F3, Rep X.K X.w H3 r3 u.1 v3 F3 ∧ (∀ a, a ∈ F3 → a ∉ r3) ∧ RSto X.K X.w H3 r3 u.2 ∧ Stp H2 H3 r2 r3) I2 ⟨env, q.2, r2, u.1, u.2, R.toE.step (t1.trans t2), st2, ev3, fun v3 H3 r3 F3 p3 o3 s3 t3 _ => ⟨r3, F3, p3, o3, s3, t3⟩⟩) fun uk s3 ⟨v3, H3, I3, rv3, r3, F3, p3, o3, st3, t3⟩ => ?_) hs
  have pv := ((p1.step o1 t2).step (t2.off p1.there o1) t3).plain g.1.1
  have pl := p2.step o2 t3
  rw [eq] at pl
  obtain ⟨l, rfl, hl, xs, hx, rn⟩ := st3.ref pl es
  obtain rfl : ud = Value.ref l := rv2
  obtain ⟨m1, m2, us, np, dd⟩ := nd_of I3 hx rn
  obtain ⟨b3, rfl⟩ := nkey_ref p3 g.1.2
  obtain rfl : uk = Value.ref b3 := rv3
  have pk : Rep X.K X.w H3 r3 u.1 (.ref b3) [] := p3.plain (by
    have := g.1.2
    cases z : u.1 <;> rw [z] at this <;> simp [nkey] at this
    rename_i zs
    exact (show Ev.pur (.tup zs) = true from by rw [Ev.pur]; exact nks_pur zs this.1))
  have hz : us.length ≤ sizeLine := by rw [← Paired.length np]; exact m2
  refine wpAny_setItem_heap (hsz := hz) (knd := nestedKind X.prog X.w) (by show X.A.units + 1 + 8 < cLine; omega) (nkey_is I3 p3 g.1.2) dd fun h' dd' hs' => ?_
  obtain ⟨ob, es', ep', hq', h2, h3, h4, h5, h6⟩ := dd'
  have hlen : (putN (toNK u.1) b3 v1 xs).length ≤ sizeLine := by
    have h1 := putN_len (toNK u.1) b3 v1 xs
    have h2 := repN_len rn
    have h3 := lim_lt g.2
    omega
  have I4 := d_write (t' := s3.toks + (nestedKind X.prog X.w).draws (toNK u.1)) (ob := NdO X.w l (putN (toNK u.1) b3 v1 xs)) I3 (by rw [hx]; exact True.intro) hs' ⟨ob, hq'⟩ (ndO_ok ⟨m1, hlen, _, np_put np (toNK u.1) b3 rv1, ob, es', ep', hq', h2, h3, h4, h6⟩)
  exact ⟨σ, _, I4, fin_put R (t1.trans (t2.trans t3)) st3 hl (obN hx (repN_put rn g.1.2 pk pv)) fin⟩

/-! ### for, over a list of the store -/
theorem fin_ifc {K : PySem.W.Frag} {w : World} {H : Hp} {lab : Addr → Option Nat} {r : List Addr} {D : Ends} {b : Prop} {inst : Decidable b} {o : Out} (h : Fin K w ow H0 mu lab H r (@ite _ b inst o .stuck) D) : b ∧ Fin K w ow H0 mu lab H r o D := by
  split at h
  · exact ⟨by assumption, h⟩
  · exact False.elim h
noncomputable def stepR (pg : Pg) (cl : CallT) (ow : List Bool) (tg : Tg) (b : Cs) : Val → Env → Sto → Out := fun v env S => match tgSet tg v env with
  | some env' => exCs pg cl ow b env' S
  | none => .stuck
def forWR (K : PySem.W.Frag) (w : World) (ow : List Bool) (H0 : Hp) (mu : Nat → Bool) (f : Val → Env → Sto → Out) (o : Nat × List Val) (l : Addr) (D : Ends) (i m : Nat) (σ : L2.St) (H : Hp) : Prop :=
  m = o.2.length - i ∧ i ≤ o.2.length ∧ ∃ env S r lab, RelS K w ow H0 r lab env σ H ∧ RSto K w H r S ∧ Fin K w ow H0 mu lab H r (forRL f o (o.2.drop i) env S) D ∧ r[o.1]? = some l
theorem c_forR {sb : List Stmt} {bc : Cs} {t : Tg} {tg : Expr} (hp : PassesOwn (model X.prog X.w) X.A X.env X.xe) (hc : X.calm = true) (ha : PE X a (TEv X.K X.w (evE pg cl ca) fa)) (hg : PG X tg (gTg X.K t)) (ht : tgOk ow ow.length t = true)
    (hb : PSs X sb (TSv X.K X.w ow H0 mu (exCs pg cl ow bc))) (hs : noSet a = true) : PS X (.For tg a sb [] pos) (TSv X.K X.w ow H0 mu (exC pg cl ow (.forR t ca bc))) := by
  refine ⟨fun pins s σ H D I ⟨env, S, r, lab, R, RS, fin⟩ => (ps_for hp hc (i_ref (tg := tg) ha) hg hb (fold_it hs)).run pins s σ H D I ?_⟩
  simp only [exC] at fin
  obtain ⟨p, ev, fin⟩ := fin_then fin
  obtain ⟨o, e1, fin⟩ := fin_then fin
  obtain ⟨e2, es⟩ := lstR_ok e1
  refine ⟨env, S, r, o.1, o.2, p.2, R.toE, RS, by rw [← e2]; exact ev, es, fun l H1 r1 hl s1 t1 _ => ?_⟩
  refine ⟨forWR X.K X.w ow H0 mu (stepR pg cl ow t bc) o l D, ⟨o.2.length - 0, rfl, Nat.zero_le _, env, p.2, r1, lab, R.step t1, s1, ?_, hl⟩, ?_⟩
  · rw [List.drop_zero]
    exact fin.pre (.stp t1)
  · intro i m σ2 H2 ⟨hm, hi, env2, S2, r2, lab2, R2, RS2, fin2, hl2⟩
    rcases Nat.lt_or_eq_of_le hi with hlt | rfl
    · rw [List.drop_eq_getElem_cons hlt] at fin2
      unfold forRL at fin2
      obtain ⟨eg, fin2⟩ := fin_ifc fin2
      obtain ⟨go, yl⟩ := ref_go RS2 hl2 eg (List.getElem?_eq_getElem hlt)
      refine .inr ⟨go, forWR X.K X.w ow H0 mu (stepR pg cl ow t bc) o l D (i + 1) (o.2.length - (i + 1)), fun σ' H' h => ⟨_, by omega, h⟩, fun v H3 hy => ?_⟩
      obtain ⟨rfl, rp⟩ := yl v H3 hy
      unfold stepR at fin2
      split at fin2
      · rename_i env3 he
        refine tg_bind R2 rp (by simp) (by simp) ht he fun σ3 R3 => ?_
        refine ⟨env3, S2, r2, lab2, R3, RS2, ?_⟩
        show Fin X.K X.w ow H0 mu lab2 H3 r2 (exCs pg cl ow bc env3 S2) _
        cases ho : exCs pg cl ow bc env3 S2 with
        | ok f env4 S4 =>
          rw [ho] at fin2
          cases f with
          | nx => exact fun σ' H' r' lab' R' RS' st => ⟨rfl, hlt, env4, S4, r', lab', R', RS', Fin.pre (show Fin X.K X.w ow H0 mu lab2 H3 r2 (forRL (stepR pg cl ow t bc) o (o.2.drop (i + 1)) env4 S4) D from fin2) st, st.sub _ _ hl2⟩
          | rt v => exact fin2
        | exc c S => rw [ho] at fin2; exact False.elim fin2
        | stuck => rw [ho] at fin2; exact False.elim fin2
      · exact False.elim fin2
    · rw [List.drop_length] at fin2
      unfold forRL at fin2
      obtain ⟨eg, fin2⟩ := fin_ifc fin2
      exact .inl ⟨ref_stop RS2 hl2 eg, fin2 σ2 H2 r2 lab2 R2 RS2 .refl⟩
theorem c_forX {i : Nat} {bc : Cs} {t : Tg} {st : Stmt} (h1 : PS X st (TSv X.K X.w ow H0 mu (exC pg cl ow (.forR t (.var i) bc)))) (h2 : PS X st (TSv X.K X.w ow H0 mu (exC pg cl ow (.forS t (.seq (.var i)) bc)))) : PS X st (TSv X.K X.w ow H0 mu (exC pg cl ow (.forX t i bc))) := by
  refine ⟨fun pins s σ H D I ⟨env, S, r, lab, R, RS, fin⟩ => ?_⟩
  rw [exC] at fin
  split at fin
  · rename_i n e
    refine h1.run pins s σ H D I ⟨env, S, r, lab, R, RS, ?_⟩
    rw [exC]
    simp only [evE, e, then_ok]
    exact fin
  · rename_i v hv e
    refine h2.run pins s σ H D I ⟨env, S, r, lab, R, RS, ?_⟩
    rw [exC]
    have hd : itDyn (.seq (.var i)) = false := rfl
    simp only [evI, evE, e, hd, bind_ok]
    rw [if_neg (by exact fun z => nomatch z)]
    cases hq : seqV v with
    | ok l =>
      rw [hq] at fin
      simp only [bind_ok, then_ok] at fin ⊢
      exact fin
    | exc c S => rw [hq] at fin; exact fin
    | stuck => rw [hq] at fin; exact fin
  · exact False.elim fin
end
end Ev

/-! SndI: append; the look at statements; a block that looks like its text. -/
namespace Ev
open PySem PySem.Spec PyProof.Rows L2

section
variable {X : Cx} {pos : Pos} {pg : Pg} {cl : CallT} {ow : List Bool} {H0 : Hp} {mu : Nat → Bool} {e a : Expr} {ca : E}
theorem repL_erase {K : PySem.W.Frag} {w : World} {H : Hp} {r : List Addr} : ∀ {xs : List Val} {vs : List V} {F : List Addr}, RepL K w H r xs vs F → F = [] → ∀ k, RepL K w H r (xs.eraseIdx k) (vs.eraseIdx k) []
  | _, _, _, .nil, _, k => .nil
  | _, _, _, .cons h l, e, 0 => by
    obtain ⟨_, e2⟩ := List.append_eq_nil_iff.mp e
    subst e2
    exact l
  | _, _, _, .cons (F := F) (G := G) h l, e, k + 1 => by
    obtain ⟨e1, e2⟩ := List.append_eq_nil_iff.mp e
    subst e1
    have := repL_erase l e2 k
    exact (RepL.cons h this : RepL K w H r _ _ ([] ++ []))
theorem c_app {i : Nat} {x : Str} {p1 apos cpos : Pos} (hmu : mu i = true) (hv : PE X (.Name x p1) (tVar i)) (ha : PEv X pg cl ca a) (hs : noStar a = true) (hline : (apos.endLine == cpos.line) = true) : PS X (.Expr (.Call (.Attribute (.Name x p1) "append" apos) [a] [] cpos) pos) (TSv X.K X.w ow H0 mu (exC pg cl ow (.mut .append i (.cons ca .nil)))) := by
  have st : starEach [a] X.env = (false, eval a X.env) :: starEach [] X.env := star_one hs [] _
  have key : PE X (.Call (.Attribute (.Name x p1) "append" apos) [a] [] cpos) (tBM X.K "list" rAppend (tVar i) (tCons (TEv X.K X.w (evE pg cl ca) (fresh ca)) tNil)) :=
    pe_bm PySem.F.plainAttrs_list PySem.F.slot_list_append PySem.F.type_list_append mt_append hv (pa_cons ha pa_nil st) rfl (by rw [st]; rfl) hline st rfl
  refine ps_w (ps_expr key) fun D σ H ⟨env, S, r, lab, R, RS, fin⟩ => ?_
  simp only [exC] at fin
  obtain ⟨p, ev, fin⟩ := fin_then fin
  simp only [evK] at ev
  obtain ⟨q, ev0, e2⟩ := bind_ok' ev
  obtain ⟨g, e2⟩ := guard_ok e2
  simp only [bind_ok] at e2
  obtain rfl := ok_inj e2
  split at fin
  · rename_i xs eo ee
    have ho : own ow i = true := by unfold own; rw [eo]; rfl
    obtain ⟨v, F, h1, h2, h3, h4, h5⟩ := R.at_ i _ ee
    simp only [muV] at fin
    obtain ⟨ys, em, fin⟩ := fin_then fin
    obtain ⟨gl, em⟩ := guard_ok em
    obtain rfl := ok_inj em
    have nF := h4 ho
    cases h2 with
    | lst hl lv =>
      rename_i l vs G
      refine ⟨_, h1, .inl ⟨rfl, _, .of hl⟩, env, S, r, q.1, q.2, R.toE, RS, ev0, fun u H1 r1 F1 p1 o1 s1 t1 f1 => ?_⟩
      obtain ⟨n1, g1⟩ := keep_new g p1 f1
      have nlr : l ∉ r := h3 l List.mem_cons_self
      have hl1 : H1 l = some (.lst vs) := t1.keep _ _ hl nlr
      refine ⟨l, vs, u, rfl, rfl, hl1, ?_, ?_⟩
      · rw [← lv.length]; exact lim_lt (of_decide_eq_true gl)
      · have hll : lab l = some i := by rw [h5 l List.mem_cons_self, if_pos ho]
        have lv1 := lv.step (fun a m => h3 a (List.mem_cons_of_mem _ m)) t1
        have thG : ∀ a, a ∈ l :: G → H a ≠ none := (Rep.lst (K := X.K) (w := X.w) hl lv).there
        have a1 : (l :: (G ++ F1)).Nodup := by
          have := List.nodup_cons.mp nF
          refine List.nodup_cons.mpr ⟨fun m => ?_, List.nodup_append.mpr ⟨this.2, n1, fun a m b m' e => thG a (List.mem_cons_of_mem _ m) (by rw [e]; exact g1 b m')⟩⟩
          rcases List.mem_append.mp m with m | m
          · exact this.1 m
          · exact thG l List.mem_cons_self (g1 l m)
        have a2 : ∀ a, a ∈ G ++ F1 → a ∉ r1 := by
          intro a m
          rcases List.mem_append.mp m with m | m
          · exact t1.off thG h3 a (List.mem_cons_of_mem _ m)
          · exact o1 a m
        have a3 : ∀ a, a ∈ G ++ F1 → lab a = some i ∨ H a = none := by
          intro a m
          rcases List.mem_append.mp m with m | m
          · left; rw [h5 a (List.mem_cons_of_mem _ m), if_pos ho]
          · exact .inr (g1 a m)
        obtain ⟨R2, st2⟩ := R.mut (mu := mu) (ws := vs ++ [u]) (ys := xs ++ [q.1]) (G := G ++ F1) t1 h1 ho hmu hl1 hll (lv1.snoc p1) a1 a2 a3
        exact fin _ _ _ _ R2 (s1.upd hl1 (t1.off thG h3 l List.mem_cons_self)) st2
  · exact False.elim fin
theorem c_pop {i : Nat} {x : Str} {p1 apos cpos : Pos} (hmu : mu i = true) (hv : PE X (.Name x p1) (tVar i)) (ha : PEv X pg cl ca a) (hs : noStar a = true) (hline : (apos.endLine == cpos.line) = true) : PS X (.Expr (.Call (.Attribute (.Name x p1) "pop" apos) [a] [] cpos) pos) (TSv X.K X.w ow H0 mu (exC pg cl ow (.mut .pop i (.cons ca .nil)))) := by
  have st : starEach [a] X.env = (false, eval a X.env) :: starEach [] X.env := star_one hs [] _
  have key : PE X (.Call (.Attribute (.Name x p1) "pop" apos) [a] [] cpos) (tBM X.K "list" rPopAt (tVar i) (tCons (TEv X.K X.w (evE pg cl ca) (fresh ca)) tNil)) :=
    pe_bm PySem.F.plainAttrs_list PySem.F.slot_list_pop PySem.F.type_list_pop mt_popAt hv (pa_cons ha pa_nil st) rfl (by rw [st]; rfl) hline st rfl
  refine ps_w (ps_expr key) fun D σ H ⟨env, S, r, lab, R, RS, fin⟩ => ?_
  simp only [exC] at fin
  obtain ⟨p, ev, fin⟩ := fin_then fin
  simp only [evK] at ev
  obtain ⟨q, ev0, e2⟩ := bind_ok' ev
  obtain ⟨g, e2⟩ := guard_ok e2
  simp only [bind_ok] at e2
  obtain rfl := ok_inj e2
  split at fin
  · rename_i xs eo ee
    have ho : own ow i = true := by unfold own; rw [eo]; rfl
    obtain ⟨v, F, h1, h2, h3, h4, h5⟩ := R.at_ i _ ee
    obtain ⟨ys, em, fin⟩ := fin_then fin
    obtain ⟨j, eq⟩ : ∃ j, q.1 = .int j := by
      cases z : q.1 <;> rw [z] at em <;> first | exact ⟨_, rfl⟩ | (simp only [muV] at em; cases em)
    rw [eq] at em
    simp only [muV] at em
    obtain ⟨gl, em⟩ := guard_ok em
    obtain rfl := ok_inj em
    rw [Bool.and_eq_true, decide_eq_true_eq] at gl
    obtain ⟨⟨g0, g1, g2⟩, gp⟩ := gl
    have nF := h4 ho
    cases h2 with
    | lst hl lv =>
      rename_i l vs G
      refine ⟨_, h1, .inl ⟨rfl, _, .of hl⟩, env, S, r, q.1, q.2, R.toE, RS, ev0, fun u H1 r1 F1 p1 o1 s1 t1 f1 => ?_⟩
      rw [eq] at p1
      cases p1
      have nlr : l ∉ r := h3 l List.mem_cons_self
      have hl1 : H1 l = some (.lst vs) := t1.keep _ _ hl nlr
      have lp := lv.plain gp
      have ln : xs.length = vs.length := lv.length
      have hjv : j.toNat < vs.length := by omega
      refine ⟨l, vs, j, j.toNat, vs[j.toNat], rfl, rfl, hl1, by omega, by unfold LIM at g2; omega, ?_, List.getElem?_eq_getElem hjv, ?_⟩
      · unfold seqIndex?
        have hn : ¬ j < 0 := by omega
        have hv2 : j < (vs.length : Int) := by omega
        simp only [if_neg hn]
        rw [if_pos (by rw [decide_eq_true g0, decide_eq_true hv2]; rfl)]
      · have hll : lab l = some i := by rw [h5 l List.mem_cons_self, if_pos ho]
        have thG : ∀ a, a ∈ l :: G → H a ≠ none := (Rep.lst (K := X.K) (w := X.w) hl lv).there
        have lv1 := lp.step (by simp) t1
        obtain ⟨R2, st2⟩ := R.mut (mu := mu) (ws := vs.eraseIdx j.toNat) (ys := xs.eraseIdx j.toNat) (G := []) t1 h1 ho hmu hl1 hll (repL_erase lv1 rfl j.toNat) (by simp) (by simp) (by simp)
        exact fin _ _ _ _ R2 (s1.upd hl1 (t1.off thG h3 l List.mem_cons_self)) st2
  · exact False.elim fin
theorem c_clr {i : Nat} {x : Str} {p1 apos cpos : Pos} (hmu : mu i = true) (hv : PE X (.Name x p1) (tVar i)) (hline : (apos.endLine == cpos.line) = true) : PS X (.Expr (.Call (.Attribute (.Name x p1) "clear" apos) [] [] cpos) pos) (TSv X.K X.w ow H0 mu (exC pg cl ow (.mut .clear i .nil))) := by
  refine ps_w (ps_expr (pe_bm0 PySem.F.plainAttrs_list PySem.F.slot_list_clear PySem.F.type_list_clear mt_clear hv rfl hline)) fun D σ H ⟨env, S, r, lab, R, RS, fin⟩ => ?_
  simp only [exC, evK, then_ok] at fin
  split at fin
  · rename_i xs eo ee
    have ho : own ow i = true := by unfold own; rw [eo]; rfl
    obtain ⟨v, F, h1, h2, h3, h4, h5⟩ := R.at_ i _ ee
    obtain ⟨ys, em, fin⟩ := fin_then fin
    simp only [muV] at em
    obtain rfl := ok_inj em
    cases h2 with
    | lst hl lv =>
      rename_i l vs G
      have nlr : l ∉ r := h3 l List.mem_cons_self
      have hll : lab l = some i := by rw [h5 l List.mem_cons_self, if_pos ho]
      refine ⟨_, h1, .inl ⟨rfl, _, .of hl⟩, l, vs, rfl, rfl, hl, ?_⟩
      obtain ⟨R2, st2⟩ := R.mut (mu := mu) (ws := []) (ys := []) (G := []) .refl h1 ho hmu hl hll .nil (by simp) (by simp) (by simp)
      exact fin _ _ _ _ R2 (RS.upd hl nlr) st2
  · exact False.elim fin
theorem c_ins {i : Nat} {x : Str} {p1 apos cpos : Pos} {y : Expr} {cb : E} (hmu : mu i = true) (hv : PE X (.Name x p1) (tVar i)) (ha : PEv X pg cl ca a) (hy : PEv X pg cl cb y) (hs : noStar a = true) (hs2 : noStar y = true) (hline : (apos.endLine == cpos.line) = true) : PS X (.Expr (.Call (.Attribute (.Name x p1) "insert" apos) [a, y] [] cpos) pos) (TSv X.K X.w ow H0 mu (exC pg cl ow (.mut .insert i (.cons ca (.cons cb .nil))))) := by
  have st : starEach [a, y] X.env = (false, eval a X.env) :: starEach [y] X.env := star_one hs [y] _
  have st2 : starEach [y] X.env = (false, eval y X.env) :: starEach [] X.env := star_one hs2 [] _
  refine ps_w (ps_expr (pe_bm PySem.F.plainAttrs_list PySem.F.slot_list_insert PySem.F.type_list_insert mt_insert hv (pa_cons ha (pa_cons hy pa_nil st2) st) rfl (by rw [st, st2]; rfl) hline st (by rw [st2]; rfl))) fun D σ H ⟨env, S, r, lab, R, RS, fin⟩ => ?_
  simp only [exC] at fin
  obtain ⟨p, ev, fin⟩ := fin_then fin
  simp only [evK] at ev
  obtain ⟨q, ev0, e2⟩ := bind_ok' ev
  obtain ⟨g, e2⟩ := guard_ok e2
  obtain ⟨q1, e5, e2⟩ := bind_ok' e2
  obtain ⟨q2, ev2, e6⟩ := bind_ok' e5
  obtain ⟨g2, e6⟩ := guard_ok e6
  simp only [bind_ok] at e6
  obtain rfl := ok_inj e6
  obtain rfl := ok_inj e2
  split at fin
  · rename_i xs eo ee
    have ho : own ow i = true := by unfold own; rw [eo]; rfl
    obtain ⟨v, F, h1, h2, h3, h4, h5⟩ := R.at_ i _ ee
    obtain ⟨ys, em, fin⟩ := fin_then fin
    obtain ⟨j, eq⟩ : ∃ j, q.1 = .int j := by
      cases z : q.1 <;> rw [z] at em <;> first | exact ⟨_, rfl⟩ | (simp only [muV] at em; cases em)
    rw [eq] at em
    simp only [muV] at em
    obtain ⟨gl, em⟩ := guard_ok em
    obtain rfl := ok_inj em
    rw [Bool.and_eq_true, Bool.and_eq_true, decide_eq_true_eq] at gl
    obtain ⟨⟨⟨g0, g1, g3⟩, gp⟩, gq⟩ := gl
    cases h2 with
    | lst hl lv =>
      rename_i l vs G
      refine ⟨_, h1, .inl ⟨rfl, _, .of hl⟩, env, S, r, q.1, q.2, R.toE, RS, ev0, fun u H1 r1 F1 p1 o1 s1 t1 f1 => ⟨env, q.2, r1, q2.1, q2.2, R.toE.step t1, s1, ev2, fun u2 H2 r2 F2 p2 o2 s2 t2 f2 => ?_⟩⟩
      rw [eq] at p1
      cases p1
      have tt := t1.trans t2
      have nlr : l ∉ r := h3 l List.mem_cons_self
      have hl1 : H2 l = some (.lst vs) := tt.keep _ _ hl nlr
      have lp := lv.plain gq
      have lv1 := lp.step (by simp) tt
      have hll : lab l = some i := by rw [h5 l List.mem_cons_self, if_pos ho]
      have thG : ∀ a, a ∈ l :: G → H a ≠ none := (Rep.lst (K := X.K) (w := X.w) hl lv).there
      refine ⟨l, vs, j, u2, rfl, rfl, hl1, by rw [← lv.length]; exact lim_lt g0, g1, by unfold LIM at g0; omega, ?_⟩
      obtain ⟨R2, st2⟩ := R.mut (mu := mu) (ws := vs.take j.toNat ++ [u2] ++ vs.drop j.toNat) (ys := xs.take j.toNat ++ [q2.1] ++ xs.drop j.toNat) (G := []) tt h1 ho hmu hl1 hll (repL_app (repL_app (repL_take _ lv1).1 (repL_one (p2.plain gp))) (repL_take _ lv1).2) (by simp) (by simp) (by simp)
      exact fin _ _ _ _ R2 (s2.upd hl1 (tt.off thG h3 l List.mem_cons_self)) st2
  · exact False.elim fin
end

/-! ### the look at statements -/
def locF (sc : Scope) (x : Str) : Bool := match sc.names.lookup x with
  | some .local => true
  | some .cell => true
  | _ => false
theorem loc_of {sc : Scope} {x : Str} (h : locF sc x = true) : Loc sc x := by
  unfold locF at h
  split at h <;> first | (rename_i e; exact .inl e) | (rename_i e; exact .inr e) | cases h
/-- a comprehension set on its own line -/
def swapC (sc scope : Scope) (y : Str) (py pos : Pos) : Bool := decide (sc.names.lookup y = some .local) && (py.line == pos.line) && !(scope.names.any fun (n, k) => n == y && (k == .local || k == .cell))
theorem sw_false {elt : Expr} {gs : List Comprehension} {scope : Scope} {pos py : Pos} {y : Str} {l : Nat} {env : PySem.Env} (hk : env.scope.kind = .function) (h : swapC env.scope scope y py pos = false) : swapsWith (.ListComp elt gs scope pos) (some (.Name y py)) l env = pure false := by
  show (pure (env.blockKind == .function && env.kindOf y == some .local && py.line == pos.line && !(scope.names.any fun (n, k) => n == y && (k == .local || k == .cell))) : Sem Bool) = pure false
  congr 1
  unfold swapC at h
  simp only [Bool.and_eq_false_iff, decide_eq_false_iff_not] at h ⊢
  rcases h with (h | h) | h
  · refine .inl (.inl (.inr ?_))
    show (env.scope.names.lookup y == some .local) = false
    simpa using h
  · exact .inl (.inr h)
  · exact .inr h
def tgC (k : Ck) (sc : Scope) : Tg → Expr → Bool
  | .one j, e => match e with
    | .Name x _ => decide (k.N[j]? = some x) && locF sc x
    | _ => false
  | .two j l, e => match e with
    | .Tuple [.Name x _, .Name y _] _ _ => decide (k.N[j]? = some x) && locF sc x && decide (k.N[l]? = some y) && locF sc y
    | _ => false
  | .three j l m, e => match e with
    | .Tuple [.Name x _, .Name y _, .Name z _] _ _ => decide (k.N[j]? = some x) && locF sc x && (decide (k.N[l]? = some y) && locF sc y) && (decide (k.N[m]? = some z) && locF sc z)
    | _ => false
def namesC (k : Ck) (sc : Scope) : List Nat → List Expr → Bool
  | [], [] => true
  | j :: js, .Name x _ :: es => decide (k.N[j]? = some x) && locF sc x && namesC k sc js es
  | _, _ => false
def isRng : It → Bool
  | .rng _ => true
  | _ => false
def chkM (k : Ck) (m : Mu) (a : E) (es : Es) (sc : Scope) (st : Stmt) : Bool := match m, es with
  | .append, .cons c .nil => (match st with
    | .Expr (.Call (.Attribute x n apos) [y] [] cpos) _ => plainR x && decide (n = "append") && noStar y && (apos.endLine == cpos.line) && chkE k a sc x && chkE k c sc y
    | _ => false)
  | .extend, .cons c .nil => (match st with
    | .Expr (.Call (.Attribute x n apos) [y] [] cpos) _ => plainR x && decide (n = "extend") && noStar y && (apos.endLine == cpos.line) && chkE k a sc x && chkE k c sc y
    | _ => false)
  | .pop, .cons c .nil => (match st with
    | .Expr (.Call (.Attribute x n apos) [y] [] cpos) _ => plainR x && decide (n = "pop") && noStar y && (apos.endLine == cpos.line) && chkE k a sc x && chkE k c sc y
    | _ => false)
  | .insert, .cons c (.cons d .nil) => (match st with
    | .Expr (.Call (.Attribute x n apos) [y, z] [] cpos) _ => plainR x && decide (n = "insert") && noStar y && noStar z && (apos.endLine == cpos.line) && chkE k a sc x && chkE k c sc y && chkE k d sc z
    | _ => false)
  | .pop, .nil => (match st with
    | .Expr (.Call (.Attribute x n apos) [] [] cpos) _ => plainR x && decide (n = "pop") && (apos.endLine == cpos.line) && chkE k a sc x
    | _ => false)
  | .clear, .nil => (match st with
    | .Expr (.Call (.Attribute x n apos) [] [] cpos) _ => plainR x && decide (n = "clear") && (apos.endLine == cpos.line) && chkE k a sc x
    | _ => false)
  | _, _ => false
mutual
def chkC (k : Ck) (ow : List Bool) : C → Scope → Stmt → Bool
  | .set i c, sc, st => match st with
    | .Assign [.Name x py] v _ => decide (k.N[i]? = some x) && locF sc x && chkE k c sc v && (noComp v || (match v with
      | .ListComp _ [⟨.Name _ _, _, _, _⟩] _ _ => true
      | _ => false))
    | _ => false
  | .mut .append i (.cons c .nil), sc, st => match st with
    | .Expr (.Call (.Attribute (.Name x _) m apos) [a] [] cpos) _ => nameC k sc i x && decide (m = "append") && noStar a && (apos.endLine == cpos.line) && chkE k c sc a
    | _ => false
  | .mut .pop i (.cons c .nil), sc, st => match st with
    | .Expr (.Call (.Attribute (.Name x _) m apos) [a] [] cpos) _ => nameC k sc i x && decide (m = "pop") && noStar a && (apos.endLine == cpos.line) && chkE k c sc a
    | _ => false
  | .mut .clear i .nil, sc, st => match st with
    | .Expr (.Call (.Attribute (.Name x _) m apos) [] [] cpos) _ => nameC k sc i x && decide (m = "clear") && (apos.endLine == cpos.line)
    | _ => false
  | .mut .insert i (.cons c (.cons d .nil)), sc, st => match st with
    | .Expr (.Call (.Attribute (.Name x _) m apos) [a, b] [] cpos) _ => nameC k sc i x && decide (m = "insert") && noStar a && noStar b && (apos.endLine == cpos.line) && chkE k c sc a && chkE k d sc b
    | _ => false
  | .mutR m a es, sc, st => chkM k m a es sc st
  | .putR a kk e, sc, st => match st with
    | .Assign [.Subscript x y _] v _ => noSl y && chkE k a sc x && chkE k kk sc y && chkE k e sc v
    | _ => false
  | .nput a kk e, sc, st => match st with
    | .Assign [.Subscript x y _] v _ => noSl y && chkE k a sc x && chkE k kk sc y && chkE k e sc v
    | _ => false
  | .putF a f e, sc, st => match st with
    | .Assign [.Attribute x n _] v _ => decide (n = fldS f) && chkE k a sc x && chkE k e sc v
    | _ => false
  | .exp c, sc, st => match st with
    | .Expr e _ => noComp e && chkE k c sc e
    | _ => false
  | .forR t a b, sc, st => match st with
    | .For tg e sb [] _ => k.cal && (tgOk ow ow.length t && tgC k sc t tg && chkE k a sc e && noSet e && chkCs k ow b sc sb)
    | _ => false
  | .forX t i b, sc, st => match st with
    | .For tg e sb [] _ => k.cal && (tgOk ow ow.length t && tgC k sc t tg && chkE k (.var i) sc e && noSet e && !mutCs b i && chkCs k ow b sc sb)
    | _ => false
  | .put i kk e, sc, st => match st with
    | .Assign [.Subscript (.Name x _) y _] v _ => nameC k sc i x && noSl y && chkE k kk sc y && chkE k e sc v
    | _ => false
  | .unp js e, sc, st => match st with
    | .Assign [.Tuple ns _ _] v _ => k.cal && (namesC k sc js ns && (js.all fun j => decide (j < ow.length)) && noComp v && !isTup v && chkE k e sc v)
    | _ => false
  | .ite c a b, sc, st => match st with
    | .If e sa sb _ => tstOk c && chkE k c sc e && chkCs k ow a sc sa && chkCs k ow b sc sb
    | _ => false
  | .forS t it b, sc, st => match st with
    | .For tg e sb [] _ => k.cal && (tgOk ow ow.length t && tgC k sc t tg && chkI k it sc tg e && noSet e && ((match itVar it with | some i => !mutCs b i | none => false) || ((itVar it).isNone && (itNew it || itDyn it))) && chkCs k ow b sc sb)
    | _ => false
  | .whl c b, sc, st => match st with
    | .While e sb [] _ => tstOk c && chkE k c sc e && chkCs k ow b sc sb
    | _ => false
  | .ret c, sc, st => match st with
    | .Return (some e) _ => chkE k c sc e
    | _ => false
  | .retN, sc, st => match st with
    | .Return none _ => true
    | _ => false
  | .raise n, sc, st => true
  | .pass, sc, st => match st with
    | .Pass _ => true
    | _ => false
  | _, _, _ => false
def chkCs (k : Ck) (ow : List Bool) : Cs → Scope → List Stmt → Bool
  | .nil, sc, l => l.isEmpty
  | .cons c cs, sc, l => match l with
    | st :: sts => chkC k ow c sc st && chkCs k ow cs sc sts
    | [] => false
end
structure Gs (X : Cx) (pg : Pg) (cl : CallT) (k : Ck) : Prop extends Gv X pg cl k where
  fn : ∀ x, X.fn x = true
  kind : X.env.scope.kind = .function
  own : PassesOwn (model X.prog X.w) X.A X.env X.xe

section
variable {pg : Pg} {cl : CallT} {k : Ck} {ow : List Bool} {H0 : Hp}
theorem Gs.var {X : Cx} (g : Gs X pg cl k) {i : Nat} {x : Str} {p : Pos} (h : nameC k X.env.scope i x = true) : PE X (.Name x p) (tVar i) := by
  obtain ⟨h1, h2, h3, h4⟩ := name_of (X := X) h
  exact pe_var (g.N ▸ h1) h2 h3 h4
theorem chk_var {X : Cx} (g : Gs X pg cl k) {i : Nat} {e : Expr} (h : chkE k (.var i) X.env.scope e = true) : PE X e (tVar i) := by
  simp only [chkE] at h
  split at h
  · exact g.var h
  · cases h
theorem is_comp {c : E} {sc : Scope} {el : Expr} {gs : List Comprehension} {scope : Scope} {pos : Pos} (h : chkE k c sc (.ListComp el gs scope pos) = true) : (∃ x j it cs, c = .comp x j it cs) ∨ (∃ x j a cs, c = .compR x j a cs) ∨ ∃ a, c = .box a ∧ chkE k a sc (.ListComp el gs scope pos) = true := by
  cases c with
  | comp x j it cs => exact .inl ⟨_, _, _, _, rfl⟩
  | compR x j a cs => exact .inr (.inl ⟨_, _, _, _, rfl⟩)
  | box a => exact .inr (.inr ⟨_, rfl, by rw [chkE] at h; exact h⟩)
  | dic t es =>
    rcases es with _ | ⟨a, _ | ⟨b, _ | ⟨c, cs⟩⟩⟩
    · simp [chkE] at h
    · simp [chkE] at h
    · cases t <;> simp [chkE] at h
    · rcases cs with _ | ⟨d, _ | ⟨f, fs⟩⟩
      · simp [chkE] at h
      · cases t <;> simp [chkE] at h
      · simp [chkE] at h
  | bltI b it =>
    cases b <;> cases it <;> try (simp [chkE] at h; done)
    rename_i es
    rcases es with _ | ⟨a, _ | ⟨b, cs⟩⟩ <;> simp [chkE] at h
  | mt m a es =>
    rcases es with _ | ⟨b, _ | ⟨c, _ | ⟨d, ds⟩⟩⟩ <;> cases m <;> first
      | (simp [chkE] at h; done)
      | (cases a <;> simp [chkE] at h)
  | mu m a es => cases m <;> cases es <;> simp [chkE] at h
  | nx a => simp [chkE, isCallE] at h
  | _ => simp [chkE] at h
/-- a comprehension with its rule for `x = [..]` -/
theorem comp_both {X : Cx} (g : Gv X pg cl k) {y : Str} {p : Pos} {el iter : Expr} {ifs : List Expr} {as : Int} {scope : Scope} {pos : Pos} : ∀ {c : E} (h : chkE k c X.env.scope (.ListComp el [⟨.Name y p, iter, ifs, as⟩] scope pos) = true),
    ∀ (i : Nat) (z : Str) (pz spos : Pos), X.N[i]? = some z → X.env.scope.names.lookup z = some .local → swapsWith (.ListComp el [⟨.Name y p, iter, ifs, as⟩] scope pos) (some (.Name z pz)) spos.line X.env = pure true →
        PS X (.Assign [.Name z pz] (.ListComp el [⟨.Name y p, iter, ifs, as⟩] scope pos) spos) (tAsg (TEv X.K X.w (evE pg cl c) (fresh c)) (gName i)) := by
  intro c h i z pz spos h1 h2 h3
  rcases is_comp h with ⟨x, j, it, cs, rfl⟩ | ⟨x, j, a, cs, rfl⟩ | ⟨a, rfl, ha⟩
  · simp only [chkE] at h
    rw [Bool.and_eq_true, Bool.and_eq_true, Bool.and_eq_true, Bool.and_eq_true, Bool.and_eq_true, Bool.and_eq_true, Bool.and_eq_true, decide_eq_true_eq] at h
    obtain ⟨hcal, ⟨⟨⟨⟨⟨rfl, q1⟩, q2⟩, q3⟩, q4⟩, q5⟩, q6⟩ := h
    exact (s_comp (g.calm hcal) g.nd (snd_I it X g _ _ q4) (g.N ▸ q1) q2 (fun s H C cl' fp => snd_T cs (blkX X _ s H C cl' fp) (g.blk _ s H C cl' fp) _ q5) (fun s H C cl' fp => (snd_E x (blkX X _ s H C cl' fp) (g.blk _ s H C cl' fp) _ q6).1) q3).2 i z pz spos h1 h2 h3
  · simp only [chkE] at h
    rw [Bool.and_eq_true, Bool.and_eq_true, Bool.and_eq_true, Bool.and_eq_true, Bool.and_eq_true, Bool.and_eq_true, Bool.and_eq_true, decide_eq_true_eq] at h
    obtain ⟨hcal, ⟨⟨⟨⟨⟨rfl, q1⟩, q2⟩, q3⟩, q4⟩, q5⟩, q6⟩ := h
    exact (s_compR (g.calm hcal) g.nd (snd_E a X g _ q4).1 (g.N ▸ q1) q2 (fun s H C cl' fp => snd_T cs (blkX X _ s H C cl' fp) (g.blk _ s H C cl' fp) _ q5) (fun s H C cl' fp => (snd_E x (blkX X _ s H C cl' fp) (g.blk _ s H C cl' fp) _ q6).1) q3).2 i z pz spos h1 h2 h3
  · have ih := comp_both g (c := a) ha i z pz spos h1 h2 h3
    exact ps_w ih fun D σ H q => box_imp q
termination_by c => sizeOf c
theorem tg_rule {X : Cx} (g : Gs X pg cl k) (hcal : k.cal = true) {t : Tg} {tg : Expr} (h : tgC k X.env.scope t tg = true) : PG X tg (gTg X.K t) := by
  cases t with
  | one j =>
    simp only [tgC] at h
    split at h
    · rw [Bool.and_eq_true, decide_eq_true_eq] at h
      exact pg_name g.nd (g.N ▸ h.1) (loc_of h.2) (.inl (g.fn _))
    · cases h
  | two j l =>
    simp only [tgC] at h
    split at h
    · rw [Bool.and_eq_true, Bool.and_eq_true, Bool.and_eq_true, decide_eq_true_eq, decide_eq_true_eq] at h
      exact pg_tup (g.calm hcal) (pgs_cons (pg_name g.nd (g.N ▸ h.1.1.1) (loc_of h.1.1.2) (.inl (g.fn _))) (pgs_cons (pg_name g.nd (g.N ▸ h.1.2) (loc_of h.2) (.inl (g.fn _))) pgs_nil rfl) rfl) rfl rfl
    · cases h
  | three j l m =>
    simp only [tgC] at h
    split at h
    · rw [Bool.and_eq_true, Bool.and_eq_true, Bool.and_eq_true, Bool.and_eq_true, Bool.and_eq_true, decide_eq_true_eq, decide_eq_true_eq, decide_eq_true_eq] at h
      exact pg_tup (g.calm hcal) (pgs_cons (pg_name g.nd (g.N ▸ h.1.1.1) (loc_of h.1.1.2) (.inl (g.fn _))) (pgs_cons (pg_name g.nd (g.N ▸ h.1.2.1) (loc_of h.1.2.2) (.inl (g.fn _))) (pgs_cons (pg_name g.nd (g.N ▸ h.2.1) (loc_of h.2.2) (.inl (g.fn _))) pgs_nil rfl) rfl) rfl) rfl rfl
    · cases h
theorem evF_plain {it : It} (h : itDyn it = false) : evF pg cl it = evI pg cl it := by
  funext env S
  unfold evF
  rw [h]; rfl
theorem evF_dyn {it : It} (h : itDyn it = true) : evF pg cl it = evY pg cl it := by
  funext env S
  unfold evF
  rw [if_pos h]
theorem names_rule {X : Cx} (g : Gs X pg cl k) : ∀ {js : List Nat} {ns : List Expr}, namesC k X.env.scope js ns = true → PGs X ns (gNs js) ∧ (assignEach ns X.env).length = js.length ∧ (assignEach ns X.env).findIdx? (·.1) = none
  | [], [], _ => ⟨pgs_nil, rfl, rfl⟩
  | [], _ :: _, h => by simp [namesC] at h
  | j :: js, [], h => by simp [namesC] at h
  | j :: js, e :: es, h => by
    unfold namesC at h
    split at h
    · rename_i e2; cases e2
    · rename_i j2 js2 x p es2 e1 e2
      cases e1; cases e2
      rw [Bool.and_eq_true, Bool.and_eq_true, decide_eq_true_eq] at h
      obtain ⟨q1, q2, q3⟩ := names_rule g h.2
      refine ⟨pgs_cons (pg_name g.nd (g.N ▸ h.1.1) (loc_of h.1.2) (.inl (g.fn _))) q1 rfl, by show _ + 1 = _ + 1; rw [q2], ?_⟩
      show List.findIdx? (·.1) ((false, assign (.Name x p) X.env) :: assignEach es X.env) = none
      rw [List.findIdx?_cons, q3]
      rfl
    · cases h
theorem snd_M {X : Cx} (g : Gs X pg cl k) : ∀ {cs : Es} {es : List Expr}, (mvs ow cs).Nodup → chkS k cs X.env.scope es = true → PA X es (TMv X.K X.w ow H0 cs (evM pg cl ow cs))
  | .nil, es, nd, h => by
    simp only [chkS, List.isEmpty_iff] at h
    subst h
    exact mv_nil
  | .cons c cs, es, nd, h => by
    unfold chkS at h
    split at h
    · rw [Bool.and_eq_true, Bool.and_eq_true] at h
      refine mv_cons nd (snd_E c X g.toGv _ h.1.2).1 (fun i e => by subst e; exact chk_var g h.1.2) (snd_M g ?_ h.2) (star_one h.1.1 _ _)
      cases c <;> first
        | exact nd
        | (simp only [mvs] at nd
           split at nd
           · exact (List.nodup_cons.mp nd).2
           · exact nd)
    · cases h
theorem is_rule {X : Cx} (g : Gs X pg cl k) {it : It} {tg e : Expr} {b : Cs} (h : chkI k it X.env.scope tg e = true) (h2 : ((match itVar it with | some i => !mutCs b i | none => false) || ((itVar it).isNone && (itNew it || itDyn it))) = true) :
    PI X tg e (TIs X.K X.w ow H0 (evF pg cl it) (itVar it)) ∧ ∀ i, itVar it = some i → mutCs b i = false := by
  cases hv : itVar it with
  | some i =>
    rw [hv] at h2
    simp at h2
    refine ⟨?_, fun j e => by cases e; exact h2⟩
    rw [evF_plain (dyn_var hv)]
    cases it with
    | seq a =>
      cases a <;> first
        | (cases hv
           exact is_var (chk_var g (by simpa only [chkI] using h)))
        | cases hv
    | enum a =>
      cases a <;> first
        | (cases hv
           simp only [chkI] at h
           split at h
           · rw [Bool.and_eq_true, Bool.and_eq_true, Bool.and_eq_true, Bool.and_eq_true, decide_eq_true_eq] at h
             obtain ⟨⟨⟨⟨rfl, h1⟩, h2⟩, h3⟩, h4⟩ := h
             cases tg <;> try (cases h2; done)
             exact is_venum (gl_of h1) (g.bt _ (by decide +kernel)) (chk_var g h4) (star_one h3 [] _)
           · cases h)
        | cases hv
    | rev a =>
      cases a <;> first
        | (cases hv
           simp only [chkI] at h
           split at h
           · rw [Bool.and_eq_true, Bool.and_eq_true, Bool.and_eq_true, decide_eq_true_eq] at h
             obtain ⟨⟨⟨rfl, h1⟩, h3⟩, h4⟩ := h
             exact is_vrev (gl_of h1) (g.bt _ (by decide +kernel)) (chk_var g h4) (star_one h3 [] _)
           · cases h)
        | cases hv
    | rng es => cases hv
  | none =>
    rw [hv] at h2
    simp at h2
    refine ⟨?_, fun j e => by cases e⟩
    by_cases hd : itDyn it = true
    · cases it with
      | seq a =>
        rw [evF_dyn hd]
        exact is_dyn (snd_E a X g.toGv _ (by simpa only [chkI] using h)).1
      | enum a => cases hd
      | rev a => cases hd
      | rng es => cases hd
    · have h3 : itNew it = true := by
        rcases h2 with z | z
        · exact z
        · exact absurd z hd
      rw [evF_plain (Bool.eq_false_iff.mpr hd)]
      have q := snd_I it X g.toGv tg e h
      cases it with
      | seq a =>
        have q : PI X tg e (TIv X.K X.w (evI pg cl (.seq a)) (fresh a)) := q
        rw [show fresh a = true from h3] at q
        exact is_new q
      | enum a =>
        have q : PI X tg e (TIv X.K X.w (evI pg cl (.enum a)) (fresh a)) := q
        rw [show fresh a = true from h3] at q
        exact is_new q
      | rev a =>
        have q : PI X tg e (TIv X.K X.w (evI pg cl (.rev a)) (fresh a)) := q
        rw [show fresh a = true from h3] at q
        exact is_new q
      | rng es => exact is_new q
theorem snd_Mu {X : Cx} (g : Gs X pg cl k) {mu : Nat → Bool} {m : Mu} {a : E} {es : Es} {st : Stmt} (h : chkM k m a es X.env.scope st = true) : PS X st (TSv X.K X.w ow H0 mu (exC pg cl ow (.mutR m a es))) := by
  unfold chkM at h
  split at h
  · split at h
    · rw [Bool.and_eq_true, Bool.and_eq_true, Bool.and_eq_true, Bool.and_eq_true, Bool.and_eq_true, decide_eq_true_eq] at h
      obtain ⟨⟨⟨⟨⟨h1, rfl⟩, h2⟩, h3⟩, h4⟩, h5⟩ := h
      exact m_append (snd_E a X g.toGv _ h4).1 (snd_E _ X g.toGv _ h5).1 (base_plain h1) h2 h3
    · cases h
  · split at h
    · rw [Bool.and_eq_true, Bool.and_eq_true, Bool.and_eq_true, Bool.and_eq_true, Bool.and_eq_true, decide_eq_true_eq] at h
      obtain ⟨⟨⟨⟨⟨h1, rfl⟩, h2⟩, h3⟩, h4⟩, h5⟩ := h
      exact m_extend (snd_E a X g.toGv _ h4).1 (snd_E _ X g.toGv _ h5).1 (base_plain h1) h2 h3
    · cases h
  · split at h
    · rw [Bool.and_eq_true, Bool.and_eq_true, Bool.and_eq_true, Bool.and_eq_true, Bool.and_eq_true, decide_eq_true_eq] at h
      obtain ⟨⟨⟨⟨⟨h1, rfl⟩, h2⟩, h3⟩, h4⟩, h5⟩ := h
      exact m_popAt (snd_E a X g.toGv _ h4).1 (snd_E _ X g.toGv _ h5).1 (base_plain h1) h2 h3
    · cases h
  · split at h
    · rw [Bool.and_eq_true, Bool.and_eq_true, Bool.and_eq_true, Bool.and_eq_true, Bool.and_eq_true, Bool.and_eq_true, Bool.and_eq_true, decide_eq_true_eq] at h
      obtain ⟨⟨⟨⟨⟨⟨⟨h1, rfl⟩, h2⟩, h2'⟩, h3⟩, h4⟩, h5⟩, h6⟩ := h
      exact m_insert (snd_E a X g.toGv _ h4).1 (snd_E _ X g.toGv _ h5).1 (snd_E _ X g.toGv _ h6).1 (base_plain h1) h2 h2' h3
    · cases h
  · split at h
    · rw [Bool.and_eq_true, Bool.and_eq_true, Bool.and_eq_true, decide_eq_true_eq] at h
      obtain ⟨⟨⟨h1, rfl⟩, h3⟩, h4⟩ := h
      exact m_pop (snd_E a X g.toGv _ h4).1 (base_plain h1) h3
    · cases h
  · split at h
    · rw [Bool.and_eq_true, Bool.and_eq_true, Bool.and_eq_true, decide_eq_true_eq] at h
      obtain ⟨⟨⟨h1, rfl⟩, h3⟩, h4⟩ := h
      exact m_clear (snd_E a X g.toGv _ h4).1 (base_plain h1) h3
    · cases h
  · cases h
mutual
theorem snd_C : ∀ (c : C) (X : Cx) (g : Gs X pg cl k) (mu : Nat → Bool) (st : Stmt), (∀ j, mutC c j = true → mu j = true) → chkC k ow c X.env.scope st = true → PS X st (TSv X.K X.w ow H0 mu (exC pg cl ow c))
  | .set i c, X, g, mu, st, hm, h => by
    simp only [chkC] at h
    split at h
    · rename_i x py v pos
      rw [Bool.and_eq_true, Bool.and_eq_true, Bool.and_eq_true, decide_eq_true_eq] at h
      obtain ⟨⟨⟨h1, h2⟩, h3⟩, h4⟩ := h
      have hi : X.N[i]? = some x := g.N ▸ h1
      refine c_set rfl hi ?_ (fun j e => by
        subst e
        have hj := chk_var g h3
        have hn : noComp v = true := by
          simp only [chkE] at h3
          split at h3
          · rfl
          · cases h3
        exact ⟨ps_set g.nd hi (loc_of h2) hj (sw_plain hn) (.inl (g.fn _)), hm j (by simp [mutC])⟩)
      have he := (snd_E c X g.toGv _ h3).1
      by_cases hn : noComp v = true
      · exact ps_set g.nd hi (loc_of h2) he (sw_plain hn) (.inl (g.fn _))
      · rw [Bool.eq_false_iff.mpr hn, Bool.false_or] at h4
        split at h4
        · rename_i el y p iter ifs as scope vpos
          by_cases hw : swapC X.env.scope scope x py vpos = true
          · have hw2 := hw
            unfold swapC at hw
            rw [Bool.and_eq_true, Bool.and_eq_true, decide_eq_true_eq, Bool.not_eq_true'] at hw
            exact comp_both g.toGv h3 i x py pos hi hw.1.1 (sw_true g.kind hw.1.1 hw.1.2 hw.2)
          · exact ps_set g.nd hi (loc_of h2) he (sw_false g.kind (Bool.eq_false_iff.mpr hw)) (.inl (g.fn _))
        · cases h4
    · cases h
  | .unp js e, X, g, mu, st, hm, h => by
    simp only [chkC] at h
    split at h
    · rename_i ns kn tp v pos
      rw [Bool.and_eq_true, Bool.and_eq_true, Bool.and_eq_true, Bool.and_eq_true, Bool.and_eq_true, Bool.not_eq_true'] at h
      obtain ⟨h0, ⟨⟨⟨h1, h2⟩, h3⟩, h4⟩, h5⟩ := h
      obtain ⟨q1, q2, q3⟩ := names_rule g h1
      refine c_unp rfl h2 (ps_asg (snd_E e X g.toGv _ h5).1 (pg_tup (g.calm h0) q1 q2 q3) ?_ ?_ rfl)
      · cases v <;> first | rfl | cases h3
      · cases v <;> first | rfl | cases h4
    · cases h
  | .mut m i es, X, g, mu, st, hm, h => by
    have hmi : mu i = true := hm i (by simp [mutC])
    match m, es, h with
    | .append, .cons c .nil, h =>
      simp only [chkC] at h
      split at h
      · rw [Bool.and_eq_true, Bool.and_eq_true, Bool.and_eq_true, Bool.and_eq_true, decide_eq_true_eq] at h
        obtain ⟨⟨⟨⟨h1, rfl⟩, h2⟩, h3⟩, h4⟩ := h
        exact c_app hmi (g.var h1) (snd_E c X g.toGv _ h4).1 h2 h3
      · cases h
    | .append, .nil, h => simp [chkC] at h
    | .append, .cons _ (.cons _ _), h => simp [chkC] at h
    | .pop, .cons c .nil, h =>
      simp only [chkC] at h
      split at h
      · rw [Bool.and_eq_true, Bool.and_eq_true, Bool.and_eq_true, Bool.and_eq_true, decide_eq_true_eq] at h
        obtain ⟨⟨⟨⟨h1, rfl⟩, h2⟩, h3⟩, h4⟩ := h
        exact c_pop hmi (g.var h1) (snd_E c X g.toGv _ h4).1 h2 h3
      · cases h
    | .pop, .nil, h => simp [chkC] at h
    | .pop, .cons _ (.cons _ _), h => simp [chkC] at h
    | .insert, .cons c (.cons d .nil), h =>
      simp only [chkC] at h
      split at h
      · rw [Bool.and_eq_true, Bool.and_eq_true, Bool.and_eq_true, Bool.and_eq_true, Bool.and_eq_true, Bool.and_eq_true, decide_eq_true_eq] at h
        obtain ⟨⟨⟨⟨⟨⟨h1, rfl⟩, h2⟩, h2'⟩, h3⟩, h4⟩, h5⟩ := h
        exact c_ins hmi (g.var h1) (snd_E c X g.toGv _ h4).1 (snd_E d X g.toGv _ h5).1 h2 h2' h3
      · cases h
    | .insert, .nil, h => simp [chkC] at h
    | .insert, .cons _ .nil, h => simp [chkC] at h
    | .insert, .cons _ (.cons _ (.cons _ _)), h => simp [chkC] at h
    | .clear, .nil, h =>
      simp only [chkC] at h
      split at h
      · rw [Bool.and_eq_true, Bool.and_eq_true, decide_eq_true_eq] at h
        obtain ⟨⟨h1, rfl⟩, h3⟩ := h
        exact c_clr hmi (g.var h1) h3
      · cases h
    | .clear, .cons _ _, h => simp [chkC] at h
    | .extend, es, h => simp [chkC] at h
  | .put i kk e, X, g, mu, st, hm, h => by
    have hmi : mu i = true := hm i (by simp [mutC])
    simp only [chkC] at h
    split at h
    · rename_i x p1 y p2 v pos
      rw [Bool.and_eq_true, Bool.and_eq_true, Bool.and_eq_true] at h
      obtain ⟨⟨⟨h1, h2⟩, h3⟩, h4⟩ := h
      refine c_put hmi g.hu (g.var h1) (snd_E kk X g.toGv _ h3).1 (snd_E e X g.toGv _ h4).1 ?_ ?_ ?_ h2
      · cases v <;> rfl
      · cases v <;> rfl
      · cases v <;> rfl
    · cases h
  | .putR a kk e, X, g, mu, st, hm, h => by
    simp only [chkC] at h
    split at h
    · rename_i x y p2 v pos
      rw [Bool.and_eq_true, Bool.and_eq_true, Bool.and_eq_true] at h
      obtain ⟨⟨⟨h1, h2⟩, h3⟩, h4⟩ := h
      refine c_putR g.hu (snd_E a X g.toGv _ h2).1 (snd_E kk X g.toGv _ h3).1 (snd_E e X g.toGv _ h4).1 ?_ ?_ ?_ h1
      · cases v <;> rfl
      · cases v <;> rfl
      · cases v <;> rfl
    · cases h
  | .nput a kk e, X, g, mu, st, hm, h => by
    simp only [chkC] at h
    split at h
    · rename_i x y p2 v pos
      rw [Bool.and_eq_true, Bool.and_eq_true, Bool.and_eq_true] at h
      obtain ⟨⟨⟨h1, h2⟩, h3⟩, h4⟩ := h
      refine c_nput g.hu (snd_E a X g.toGv _ h2).1 (snd_E kk X g.toGv _ h3).1 (snd_E e X g.toGv _ h4).1 ?_
      cases v <;> rfl
    · cases h
  | .putF a f e, X, g, mu, st, hm, h => by
    simp only [chkC] at h
    split at h
    · rename_i x n p2 v pos
      rw [Bool.and_eq_true, Bool.and_eq_true, decide_eq_true_eq] at h
      obtain ⟨⟨rfl, h2⟩, h3⟩ := h
      refine c_putF g.fld (snd_E a X g.toGv _ h2).1 (snd_E e X g.toGv _ h3).1 ?_
      cases v <;> rfl
    · cases h
  | .exp e, X, g, mu, st, hm, h => by
    simp only [chkC] at h
    split at h
    · rw [Bool.and_eq_true] at h
      exact c_exp h.1 (snd_E e X g.toGv _ h.2).1
    · cases h
  | .mutR m a es, X, g, mu, st, hm, h => by
    simp only [chkC] at h
    exact snd_Mu g h
  | .forX t i b, X, g, mu, st, hm, h => by
    simp only [chkC] at h
    split at h
    · rename_i tg e sb pos
      rw [Bool.and_eq_true, Bool.and_eq_true, Bool.and_eq_true, Bool.and_eq_true, Bool.and_eq_true, Bool.and_eq_true, Bool.not_eq_true'] at h
      obtain ⟨hcal, ⟨⟨⟨⟨h1, h2⟩, h3⟩, h4⟩, h0⟩, h5⟩ := h
      refine c_forX (c_forR g.own (g.calm hcal) (snd_E (.var i) X g.toGv _ h3).1 (tg_rule g hcal h2) h1 (snd_Cs b X g mu _ (fun j z => hm j (by simp [mutC, z])) h5) h4) ?_
      refine c_for g.own (g.calm hcal) (vr := some i) ?_ rfl (tg_rule g hcal h2) h1 (fun j z => hm j (by simp [mutC, z])) (fun j e => by cases e; exact h0) (snd_Cs b X g _ _ (fun j z => z) h5) h4
      rw [evF_plain (it := .seq (.var i)) rfl]
      exact is_var (chk_var g h3)
    · cases h
  | .forR t a b, X, g, mu, st, hm, h => by
    simp only [chkC] at h
    split at h
    · rw [Bool.and_eq_true, Bool.and_eq_true, Bool.and_eq_true, Bool.and_eq_true, Bool.and_eq_true] at h
      obtain ⟨hcal, ⟨⟨⟨h1, h2⟩, h3⟩, h4⟩, h5⟩ := h
      exact c_forR g.own (g.calm hcal) (snd_E a X g.toGv _ h3).1 (tg_rule g hcal h2) h1 (snd_Cs b X g mu _ (fun j z => hm j (by simp [mutC, z])) h5) h4
    · cases h
  | .ite c a b, X, g, mu, st, hm, h => by
    simp only [chkC] at h
    split at h
    · rw [Bool.and_eq_true, Bool.and_eq_true, Bool.and_eq_true] at h
      obtain ⟨⟨⟨h0, h1⟩, h2⟩, h3⟩ := h
      exact c_ite ((snd_E c X g.toGv _ h1).2 h0) (snd_Cs a X g mu _ (fun j z => hm j (by simp [mutC, z])) h2) (snd_Cs b X g mu _ (fun j z => hm j (by simp [mutC, z])) h3)
    · cases h
  | .forS t it b, X, g, mu, st, hm, h => by
    simp only [chkC] at h
    split at h
    · rw [Bool.and_eq_true, Bool.and_eq_true, Bool.and_eq_true, Bool.and_eq_true, Bool.and_eq_true, Bool.and_eq_true] at h
      obtain ⟨hcal, ⟨⟨⟨⟨h1, h2⟩, h3⟩, h4⟩, h5⟩, h6⟩ := h
      obtain ⟨q1, q2⟩ := is_rule (ow := ow) (H0 := H0) g h3 h5
      exact c_for g.own (g.calm hcal) q1 rfl (tg_rule g hcal h2) h1 (fun j z => hm j (by simp [mutC, z])) q2 (snd_Cs b X g _ _ (fun j z => z) h6) h4
    · cases h
  | .whl c b, X, g, mu, st, hm, h => by
    simp only [chkC] at h
    split at h
    · rw [Bool.and_eq_true, Bool.and_eq_true] at h
      exact c_whl g.own ((snd_E c X g.toGv _ h.1.2).2 h.1.1) (snd_Cs b X g mu _ (fun j z => hm j (by simp [mutC, z])) h.2)
    · cases h
  | .ret c, X, g, mu, st, hm, h => by
    simp only [chkC] at h
    split at h
    · by_cases hc : ∀ es, c ≠ .tup es
      · exact c_ret hc (snd_E c X g.toGv _ h).1 fun i e => by subst e; exact chk_var g h
      · cases c <;> try (refine absurd ?_ hc; intro es z; cases z; done)
        rename_i cs
        by_cases nd : (mvs ow cs).Nodup
        · simp only [chkE] at h
          split at h
          · rw [Bool.and_eq_true, decide_eq_true_eq] at h
            exact c_retT (snd_M g nd h.2) h.1 fun _ _ _ _ z => evM_len z
          · cases h
        · refine ps_w ps_never fun D σ H ⟨env, S, r, lab, R, RS, fin⟩ => ?_
          simp only [exC] at fin
          exact nd (fin_if fin).1
    · cases h
  | .retN, X, g, mu, st, hm, h => by
    simp only [chkC] at h
    split at h
    · exact c_retN
    · cases h
  | .raise n, X, g, mu, st, hm, h => c_raise
  | .tryS b hs, X, g, mu, st, hm, h => by simp only [chkC] at h; cases h
  | .pass, X, g, mu, st, hm, h => by
    simp only [chkC] at h
    split at h
    · exact c_pass
    · cases h
theorem snd_Cs : ∀ (cs : Cs) (X : Cx) (g : Gs X pg cl k) (mu : Nat → Bool) (sts : List Stmt), (∀ j, mutCs cs j = true → mu j = true) → chkCs k ow cs X.env.scope sts = true → PSs X sts (TSv X.K X.w ow H0 mu (exCs pg cl ow cs))
  | .nil, X, g, mu, sts, hm, h => by
    simp only [chkCs, List.isEmpty_iff] at h
    subst h
    exact c_nil
  | .cons c cs, X, g, mu, sts, hm, h => by
    unfold chkCs at h
    split at h
    · rw [Bool.and_eq_true] at h
      exact c_cons (snd_C c X g mu _ (fun j z => hm j (by simp [mutCs, z])) h.1) (snd_Cs cs X g mu _ (fun j z => hm j (by simp [mutCs, z])) h.2)
    · cases h
end
end
end Ev

/-! SndHot: any() of a list while an exception is handled. -/
namespace Ev
open PySem PySem.Spec PyProof.Rows L2 HotX

section
variable {prog : Program} {w : World} {A : Around} {E : Value → Shared → Prop} {s : Shared}
theorem hot_ne {it l x1 : Addr} {i : Nat} {h : Heap} (hot : HotAt A x1 h) (hit : h.IsListIter it l i) : x1 ≠ it := fun z => by
  subst z
  obtain ⟨_, o1, vs1, h1, d1, c1⟩ := hot
  obtain ⟨o, ho, _, hd⟩ := hit
  rw [h1] at ho
  cases ho
  rw [d1] at hd
  cases hd
  cases c1
theorem hot_in1 {x1 : Addr} {h : Heap} : HotAt A.in1 x1 h ↔ HotAt A x1 h := Iff.rfl
theorem hot_kept {x1 : Addr} {h h' : Heap} (hot : HotAt A x1 h) (k : ∀ o, h.get? x1 = some o → h'.get? x1 = some o) : HotAt A x1 h' := by
  obtain ⟨hh, o1, vs1, h1, d1, c1⟩ := hot
  exact ⟨hh, o1, vs1, k _ h1, d1, c1⟩
theorem next_list_end_hot {it l x1 : Addr} {i : Nat} {items : Array Value} {Q : Option Value → Shared → Prop} (hot : HotAt A x1 s.heap) (hit : s.heap.IsListIter it l i) (hl : s.heap.IsList l items) (hx : items[i]? = none)
    (hQ : ∀ h', (∀ b o, b ≠ it → s.heap.get? b = some o → h'.get? b = some o) → Q none { s with heap := h' }) : wpAny (model prog w) A (pyNext (.ref it)) Q E s := by
  have hne := hot_ne hot hit
  obtain ⟨hh, o1, vs1, h1, d1, c1⟩ := hot
  obtain ⟨o, ho, hc, hd⟩ := id hit
  obtain ⟨ol, hol, _, nl, hdl⟩ := hl
  unfold pyNext
  refine wpAny_bind (wpAny_attempt (wpAny_callSpecial?_slot (name := Str.ofString "__next__") hit.typeIs slot_listiter_next
    (wpAny_call_entry slot_listiter_next hit.typeIs entry_listiter_next ?_ (args_listiter_next _))))
  show wpAny _ _ (field (.ref it) 0 >>= _) _ _ s
  refine wpAny_bind (wpAny_field ho hd (x := .ref l) rfl ?_)
  show wpAny _ _ (if (Value.ref l == Value.none) = true then _ else _) _ _ s
  rw [if_neg (show ¬ ((Value.ref l == Value.none) = true) from Bool.false_ne_true)]
  show wpAny _ _ (field (.ref it) 1 >>= _) _ _ s
  refine wpAny_bind (wpAny_field ho hd (x := .int i 0) rfl ?_)
  show wpAny _ _ (seqItems? (.ref l) >>= _) _ _ s
  refine wpAny_bind (wpAny_seqItems hol hdl ?_)
  simp only [Int.toNat_natCast, hx]
  refine wpAny_bind (wpAny_rule (wpAny_bind (wpAny_setField ho hd (by simp) ?_)))
  show wpAny _ _ (newExc (.type "StopIteration") [] >>= _) _ _ _
  refine wpAny_bind ?_
  simp only [newExc, newTuple]
  refine wpAny_bind (wpAny_newObj_type ?_ (by size_fits))
  refine wpAny_bind (m := firstArgMember _ _) (wpAny_of_eq (a := Value.none) (by first | rfl | (simp only [firstArgMember]; rfl)) ?_)
  refine wpAny_newObj_type ?_ (by size_fits)
  have up : ∀ b o', b ≠ it → s.heap.get? b = some o' → (s.heap.update it (Obj.mapFields fun vs => vs.setIfInBounds 0 .none)).get? b = some o' := fun b o' hb e => by
    rw [Heap.get?_update_other _ _ (Ne.symm hb)]; exact e
  have u1 := up x1 o1 hne h1
  refine raiseNew_hot ⟨hh, o1, vs1, Heap.get?_push_of_some _ (Heap.get?_push_of_some _ u1), d1, c1⟩ (Nat.ne_of_lt (Heap.lt_size (Heap.get?_push_of_some _ u1))) (Heap.get?_push_size _ rfl) rfl (by first | (simp; done) | (simp; omega) | (simp only [Array.size_append]; simp; omega)) ?_
  refine wpAny_bind (wpAny_isInstance (T := "StopIteration") (b := true) ⟨_, Heap.get?_update_self _ (Heap.get?_push_size _ rfl) rfl, rfl⟩ isSubtype_stop ?_)
  refine wpAny_pure (hQ _ fun b o' hb e => ?_)
  have e2 := up b o' hb e
  rw [Heap.get?_update_other _ _ (Nat.ne_of_gt (Heap.lt_size (Heap.get?_push_of_some _ e2)))]
  exact Heap.get?_push_of_some _ (Heap.get?_push_of_some _ e2)
theorem walks_listH {x1 : Addr} (I ax : Addr) (hne : ax ≠ I) (items : Array Value) :
    Walks prog w A I [I, ax, x1] [I] items.size (fun i v => items[i]? = some v) (fun i h => (h.IsListIter I ax i ∧ h.IsList ax items) ∧ HotAt A x1 h) where
  sub := fun b hb => by simp at hb; simp [hb]
  frame := fun _ _ _ st hk => ⟨⟨st.1.1.at fun o e => hk I (by simp) o e, st.1.2.at fun o e => hk ax (by simp) o e⟩, hot_kept st.2 fun o e => hk x1 (by simp) o e⟩
  item := fun i s Q E hi st hQ => by
    refine wpAny_pyNext_list_item st.1.1 st.1.2 (x := items[i]) (by simp [hi]) fun h' hit' hs' => ?_
    exact hQ _ h' s.toks (by simp [hi]) ⟨⟨hit', st.1.2.extBut hs'.extBut hne⟩, hot_kept st.2 fun o e => hs'.extBut _ o (hot_ne st.2 st.1.1) e⟩ fun b o hb e => hs'.extBut b o (fun h => hb (by simp [h])) e
  done := fun s Q E st hQ => next_list_end_hot st.2 st.1.1 st.1.2 (by simp) fun h' he' => hQ h' s.toks fun b o hb e => he' b o (fun h => hb (by simp [h])) e
  self := fun _ _ _ _ st hQ => wpAny_pyIter_listiter st.1.1 hQ
end
/-- the exception that is handled is tracked at a -/
structure HotT (X : Cx) (a : Addr) : Prop where
  hd : X.A.handled = some (.ref a)
theorem HotT.at {X : Cx} {a : Addr} {c : Nat} {pins : List (Addr × Obj)} {σ : L2.St} {H : Hp} {s : Shared} (t : HotT X a) (I : Inv X pins σ H s) (h : H a = some (ExO X.K c a)) : HotAt X.A a s.heap := by
  obtain ⟨⟨oe, h1, _, _, vs, h4, h5⟩, _, _⟩ := I.hok a _ h
  exact ⟨t.hd, oe, vs, h1, h4, h5⟩
theorem cr_anyH {X : Cx} {a : Addr} {c : Nat} (t : HotT X a) : CallR X (.builtin "any") (fun vs H Q => H a = some (ExO X.K c a) ∧ rAny X.K vs H Q) := by
  intro pins s σ H vs us Q I r h
  obtain ⟨hx, b, bs, rfl, hs, q⟩ := h
  obtain ⟨its, rv, hl, _⟩ := I.list hs
  rw [Vals.ref1 r]
  have hb := rv.bls
  have hot := t.at I hx
  refine call_any_walk (iter_any hl.isList fun s₂ e2 st hne => ?_)
  subst e2
  refine ⟨_, _, _, _, _, _, _, rfl, walks_listH (A := X.A.in1) (x1 := a) _ b hne its.toArray, ⟨st, hot_kept hot fun o e => Heap.get?_push_of_some _ e⟩, truth_bools hb, fun h' tk hk => ?_⟩
  refine ⟨.bl _, H, I.kept fun b o eo => hk b o (fun hmem => ?_) (Heap.get?_push_of_some _ eo), ?_, q⟩
  · rcases List.mem_cons.mp hmem with e1 | hmem
    · exact absurd (e1 ▸ Heap.lt_size eo) (Nat.lt_irrefl _)
    · cases hmem
  · show Value.bool _ = Value.bool _
    rw [← L2.any_range, hb, List.size_toArray, List.length_map]
end Ev

/-! SndHS: an except suite that asks any() of lists of truths. -/
namespace Ev
open PySem PySem.Spec PyProof.Rows L2 HotX

/-- the store bears an exception at a -/
def HotS (S : Sto) (r : List Addr) (a : Addr) : Prop := ∃ (n c : Nat), S[n]? = some (.xo c) ∧ r[n]? = some a
theorem HotS.ext {S : Sto} {r r1 : List Addr} {a : Addr} {P : Addr → Prop} (h : HotS S r a) (e : ∃ more, r1 = r ++ more ∧ ∀ b, b ∈ more → P b) : HotS S r1 a := by
  obtain ⟨n, c, h1, h2⟩ := h
  obtain ⟨more, rfl, _⟩ := e
  exact ⟨n, c, h1, by rw [List.getElem?_append_left (List.getElem?_eq_some_iff.mp h2).1]; exact h2⟩
theorem HotS.at {K : PySem.W.Frag} {w : World} {H : Hp} {S : Sto} {r : List Addr} {a : Addr} (h : HotS S r a) (s : RSto K w H r S) : ∃ c, H a = some (ExO K c a) := by
  obtain ⟨n, c, h1, h2⟩ := h
  exact ⟨c, s.get h2 h1⟩
def TEh (a : Addr) (K : PySem.W.Frag) (w : World) (f : Env → Sto → Res (Val × Sto)) (fr : Bool) : TE := fun σ H Q =>
  ∃ env S r x S', HotS S r a ∧ REnv K w H r env σ ∧ RSto K w H r S ∧ f env S = .ok (x, S') ∧ Pst K w H r x S' fr Q
def TAh (a : Addr) (K : PySem.W.Frag) (w : World) (f : Env → Sto → Res (List Val × Sto)) (fr : Bool) : TA := fun σ H Q =>
  ∃ env S r xs S', HotS S r a ∧ REnv K w H r env σ ∧ RSto K w H r S ∧ f env S = .ok (xs, S') ∧
    ∀ vs H' r' F, RepL K w H' r' xs vs F → (∀ a, a ∈ F → a ∉ r') → RSto K w H' r' S' → Stp H H' r r' → (fr = true → F.Nodup ∧ ∀ a, a ∈ F → H a = none) → Q vs H'
def TSh (a : Addr) (K : PySem.W.Frag) (w : World) (ow : List Bool) (H0 : Hp) (mu : Nat → Bool) (f : Env → Sto → Out) : TS := fun D σ H =>
  ∃ env S r lab, HotS S r a ∧ RelS K w ow H0 r lab env σ H ∧ RSto K w H r S ∧ Fin K w ow H0 mu lab H r (f env S) D
def anyV : E → Option Nat
  | .blt .any (.cons (.var v) .nil) => some v
  | _ => none
theorem anyV_ok {e : E} {v : Nat} (h : anyV e = some v) : e = .blt .any (.cons (.var v) .nil) := by
  unfold anyV at h
  split at h
  · cases h; rfl
  · cases h
def setL : C → Option (Nat × Es)
  | .set i (.lst es) => some (i, es)
  | _ => none
theorem setL_ok {c : C} {p : Nat × Es} (h : setL c = some p) : c = .set p.1 (.lst p.2) := by
  unfold setL at h
  split at h
  · cases h; rfl
  · cases h
mutual
def pureE : E → Bool
  | .isx _ _ => true
  | .blt b es => (anyV (.blt b es)).isSome
  | .orE es => pureO es
  | _ => false
def pureO : Es → Bool
  | .nil => true
  | .cons e es => pureE e && pureO es
end
section
variable {pg : Pg} {cl : CallT}
theorem any_st {v : Nat} {env : Env} {S S' : Sto} {xs : List Val} (h : evS pg cl (.cons (.var v) .nil) env S = .ok (xs, S')) : S' = S := by
  simp only [evS, evE] at h
  obtain ⟨p, e1, h⟩ := bind_ok' h
  obtain ⟨q, e2, h⟩ := bind_ok' h
  cases h
  cases e2
  split at e1
  · cases e1; rfl
  · cases e1
mutual
theorem pure_E : ∀ (e : E) {env : Env} {S S' : Sto} {x : Val}, pureE e = true → evE pg cl e env S = .ok (x, S') → S' = S
  | .isx i c, env, S, S', x, _, h => by
    simp only [evE] at h
    obtain ⟨b, e1, h⟩ := bind_ok' h
    obtain ⟨g, h⟩ := guard_ok h
    cases h; rfl
  | .blt b es, env, S, S', x, hp, h => by
    simp only [pureE, Option.isSome_iff_exists] at hp
    obtain ⟨v, hv⟩ := hp
    rw [anyV_ok hv, evE] at h
    obtain ⟨p, e1, h⟩ := bind_ok' h
    obtain ⟨q, e2, h⟩ := bind_ok' h
    cases h
    exact any_st (xs := p.1) e1
  | .orE es, env, S, S', x, hp, h => by
    rw [or_def] at h
    exact pure_O es (by simpa only [pureE] using hp) h
  | .var _, env, S, S', x, hp, h => by simp [pureE] at hp
  | .int _, env, S, S', x, hp, h => by simp [pureE] at hp
  | .str _, env, S, S', x, hp, h => by simp [pureE] at hp
  | .bl _, env, S, S', x, hp, h => by simp [pureE] at hp
  | .non, env, S, S', x, hp, h => by simp [pureE] at hp
  | .glob _, env, S, S', x, hp, h => by simp [pureE] at hp
  | .bin _ _ _, env, S, S', x, hp, h => by simp [pureE] at hp
  | .neg _, env, S, S', x, hp, h => by simp [pureE] at hp
  | .cmp _ _ _, env, S, S', x, hp, h => by simp [pureE] at hp
  | .chain _ _ _ _ _, env, S, S', x, hp, h => by simp [pureE] at hp
  | .andE _, env, S, S', x, hp, h => by simp [pureE] at hp
  | .not _, env, S, S', x, hp, h => by simp [pureE] at hp
  | .ifx _ _ _, env, S, S', x, hp, h => by simp [pureE] at hp
  | .tup _, env, S, S', x, hp, h => by simp [pureE] at hp
  | .lst _, env, S, S', x, hp, h => by simp [pureE] at hp
  | .dic _ _, env, S, S', x, hp, h => by simp [pureE] at hp
  | .ix _ _, env, S, S', x, hp, h => by simp [pureE] at hp
  | .sl _ _ _, env, S, S', x, hp, h => by simp [pureE] at hp
  | .comp _ _ _ _, env, S, S', x, hp, h => by simp [pureE] at hp
  | .call _ _, env, S, S', x, hp, h => by simp [pureE] at hp
  | .bltI _ _, env, S, S', x, hp, h => by simp [pureE] at hp
  | .isi _ _, env, S, S', x, hp, h => by simp [pureE] at hp
  | .mt _ _ _, env, S, S', x, hp, h => by simp [pureE] at hp
  | .mu _ _ _, env, S, S', x, hp, h => by simp [pureE] at hp
  | .box _, env, S, S', x, hp, h => by simp [pureE] at hp
  | .fld _ _, env, S, S', x, hp, h => by simp [pureE] at hp
  | .meth _ _ _, env, S, S', x, hp, h => by simp [pureE] at hp
  | .make _ _ _, env, S, S', x, hp, h => by simp [pureE] at hp
  | .newN, env, S, S', x, hp, h => by simp [pureE] at hp
  | .srt _, env, S, S', x, hp, h => by simp [pureE] at hp
  | .nget _ _, env, S, S', x, hp, h => by simp [pureE] at hp
  | .nhas _ _ _, env, S, S', x, hp, h => by simp [pureE] at hp
  | .cmpD _ _ _, env, S, S', x, hp, h => by simp [pureE] at hp
  | .compR _ _ _ _, env, S, S', x, hp, h => by simp [pureE] at hp
  | .callM _ _ _, env, S, S', x, hp, h => by simp [pureE] at hp
  | .tupN _, env, S, S', x, hp, h => by simp [pureE] at hp
  | .nx _, env, S, S', x, hp, h => by simp [pureE] at hp
theorem pure_O : ∀ (es : Es) {env : Env} {S S' : Sto} {x : Val}, pureO es = true → evOr pg cl es env S = .ok (x, S') → S' = S
  | .nil, env, S, S', x, _, h => by simp only [evOr] at h; cases h
  | .cons e .nil, env, S, S', x, hp, h => by
    simp only [evOr] at h
    obtain ⟨p, e1, h⟩ := bind_ok' h
    obtain ⟨k, e2, h⟩ := bind_ok' h
    cases h
    rw [pureO, Bool.and_eq_true] at hp
    exact pure_E e hp.1 e1
  | .cons e (.cons e2 es), env, S, S', x, hp, h => by
    rw [evOr.eq_3 (x_3 := by intro h; cases h)] at h
    rw [pureO, Bool.and_eq_true] at hp
    obtain ⟨p, e1, h⟩ := bind_ok' h
    obtain ⟨k, e4, h⟩ := bind_ok' h
    have q := pure_E e hp.1 e1
    split at h
    · cases h; exact q
    · rw [q] at h
      exact pure_O (.cons e2 es) hp.2 h
end
theorem pure_K : ∀ (es : Es) {env : Env} {S S' : Sto} {xs : List Val}, pureO es = true → evK pg cl es env S = .ok (xs, S') → S' = S
  | .nil, env, S, S', x, _, h => by simp only [evK] at h; cases h; rfl
  | .cons e es, env, S, S', x, hp, h => by
    simp only [evK] at h
    rw [pureO, Bool.and_eq_true] at hp
    obtain ⟨p, e1, h⟩ := bind_ok' h
    obtain ⟨g, h⟩ := guard_ok h
    obtain ⟨q, e2, h⟩ := bind_ok' h
    cases h
    have q1 := pure_E e hp.1 e1
    rw [q1] at e2
    exact pure_K es hp.2 e2
end
section
variable {X : Cx} {a : Addr} {pos : Pos} {pg : Pg} {cl : CallT} {e b : Expr} {es : List Expr} {ca : E} {cs : Es} {fa fb : Bool}
theorem h_of {f : Env → Sto → Res (Val × Sto)} (h : PE X e (TEv X.K X.w f fa)) : PE X e (TEh a X.K X.w f fa) := pe_w h fun _ _ _ ⟨env, S, r, x, S', _, RE, RS, ev, k⟩ => ⟨env, S, r, x, S', RE, RS, ev, k⟩
theorem cr_anyV (t : HotT X a) : CallR X (.builtin "any") (fun vs H Q => (∃ c, H a = some (ExO X.K c a)) ∧ rBV X.K X.w (bltV .any) vs H Q) := by
  intro pins s σ H vs us Q I rv h
  obtain ⟨⟨c, hx⟩, r, ts, p, F, l, hb, k⟩ := h
  rcases ts with _ | ⟨t1, _ | ⟨u, _ | ⟨x, ts⟩⟩⟩
  · cases hb
  · obtain ⟨v, G, rfl, h1⟩ := one_arg l
    cases t1 <;> try (cases hb; done)
    obtain ⟨is, e1, e2⟩ := bind_ok' hb
    obtain rfl := asB_some (of_ok e1)
    obtain ⟨a', ys, G', rfl, qa, la⟩ := vlst h1
    exact cr_anyH t pins s σ H _ us Q I rv ⟨hx, _, is, rfl, repL_bl la ▸ .of qa, k _ _ ((ok_inj e2) ▸ New.bl _)⟩
  · first | (cases hb; done) | (simp [bltV] at hb; done) | (cases t1 <;> cases u <;> cases hb)
  · first | (cases hb; done) | (simp [bltV] at hb; done) | (cases t1 <;> cases u <;> cases hb)
theorem h_any {p : Pos} {v : Nat} (t : HotT X a) (hg : Gl X "any") (hm : X.mg "any" = none) (ha : PA X [b] (TAv X.K X.w (evS pg cl (.cons (.var v) .nil)) false))
    (he : starEach [b] X.env = (false, eval b X.env) :: starEach [] X.env) : PE X (.Call (.Name "any" p) [b] [] pos) (TEh a X.K X.w (evE pg cl (.blt .any (.cons (.var v) .nil))) true) := by
  have key : PE X (.Call (.Name "any" p) [b] [] pos) (tCB (fun vs H Q => (∃ c, H a = some (ExO X.K c a)) ∧ rBV X.K X.w (bltV .any) vs H Q) (TAv X.K X.w (evS pg cl (.cons (.var v) .nil)) false)) :=
    pe_callB (cr_anyV t) hg hm (boot_bt .any) ha (bt_ne .any).1 (bt_ne .any).2 he rfl
  refine pe_w key fun σ H Q ⟨env, S, r, x, S', hS, RE, RS, ev, k⟩ => ?_
  rw [evE] at ev
  obtain ⟨p, e1, ev⟩ := bind_ok' ev
  obtain ⟨q, e2, ev⟩ := bind_ok' ev
  cases ev
  refine ⟨env, S, r, p.1, p.2, RE, RS, e1, fun vs H1 r1 F1 p1 o1 s1 t1 f1 => ?_⟩
  obtain ⟨G, l⟩ := p1.dr s1
  have hp : p.2 = S := any_st (xs := p.1) e1
  refine ⟨HotS.at (hS.ext t1.ext) (hp ▸ s1), r1, _, _, G, l, e2, fun v H' n => k.new n s1 t1⟩
theorem h_or1 (ha : PE X e (TEh a X.K X.w (evE pg cl ca) fa)) : PE X (.BoolOp .Or [e] pos) (TEh a X.K X.w (evOr pg cl (.cons ca .nil)) true) :=
  pe_w (pe_one ha) fun σ H Q ⟨env, S, r, x, S', hS, RE, RS, ev, k⟩ => by
    simp only [evOr] at ev
    obtain ⟨p, e1, ev⟩ := bind_ok' ev
    obtain ⟨kb, e4, ev⟩ := bind_ok' ev
    cases ev
    refine ⟨env, S, r, p.1, p.2, hS, RE, RS, e1, fun v1 H1 r1 F1 p1 o1 s1 t1 _ => ?_⟩
    rw [isB_ok e4] at p1
    rw [vbl p1]
    exact k.new (.bl _) s1 t1
theorem h_or {cc : E} (pa : pureE ca = true) (ha : PE X e (TEh a X.K X.w (evE pg cl ca) fa)) (hb : PE X (.BoolOp .Or (b :: es) pos) (TEh a X.K X.w (evOr pg cl (.cons cc cs)) true)) : PE X (.BoolOp .Or (e :: b :: es) pos) (TEh a X.K X.w (evOr pg cl (.cons ca (.cons cc cs))) true) :=
  pe_w (pe_or ha hb) fun σ H Q ⟨env, S, r, x, S', hS, RE, RS, ev, k⟩ => by
    rw [evOr.eq_3 (x_3 := by intro h; cases h)] at ev
    obtain ⟨p, e1, ev⟩ := bind_ok' ev
    obtain ⟨kb, e4, ev⟩ := bind_ok' ev
    have hp := pure_E ca pa e1
    refine ⟨env, S, r, p.1, p.2, hS, RE, RS, e1, fun v1 H1 r1 F1 p1 o1 s1 t1 _ => ?_⟩
    rw [isB_ok e4] at p1
    refine ⟨kb, vbl p1, ?_⟩
    cases kb with
    | true =>
      rw [if_pos rfl] at ev ⊢
      cases ev
      exact k.new (.bl _) s1 t1
    | false =>
      rw [if_neg (by exact fun z => nomatch z)] at ev ⊢
      exact ⟨env, p.2, r1, x, S', hp ▸ hS.ext t1.ext, RE.step t1, s1, ev, fun v2 H2 r2 F2 p2 o2 s2 t2 f2 => k _ _ _ _ p2 o2 s2 (t1.trans t2) fun q => ⟨(f2 q).1, fun a m => t1.none ((f2 q).2 a m)⟩⟩
theorem hk_nil : PA X [] (TAh a X.K X.w (evK pg cl .nil) true) :=
  pa_w pa_nil fun σ H Q ⟨env, S, r, x, S', _, RE, RS, ev, k⟩ => by
    simp only [evK] at ev; cases ev
    exact k [] H r [] .nil (by simp) RS .refl (fun _ => ⟨List.nodup_nil, by simp⟩)
theorem hk_cons (pa : pureE ca = true) (ha : PE X e (TEh a X.K X.w (evE pg cl ca) (fresh ca))) (hb : PA X es (TAh a X.K X.w (evK pg cl cs) true)) (hs : starEach (e :: es) X.env = (false, eval e X.env) :: starEach es X.env) : PA X (e :: es) (TAh a X.K X.w (evK pg cl (.cons ca cs)) true) :=
  pa_w (pa_cons ha hb hs) fun σ H Q ⟨env, S, r, x, S', hS, RE, RS, ev, k⟩ => by
    simp only [evK] at ev
    obtain ⟨p, e1, ev⟩ := bind_ok' ev
    obtain ⟨g, ev⟩ := guard_ok ev
    obtain ⟨q, e2, ev⟩ := bind_ok' ev
    cases ev
    have hp := pure_E ca pa e1
    refine ⟨env, S, r, p.1, p.2, hS, RE, RS, e1, fun v1 H1 r1 F1 p1 o1 s1 t1 f1 => ⟨env, p.2, r1, q.1, q.2, hp ▸ hS.ext t1.ext, RE.step t1, s1, e2, fun v2 H2 r2 F2 p2 o2 s2 t2 f2 => ?_⟩⟩
    obtain ⟨n1, g1⟩ := keep_new g p1 f1
    obtain ⟨n2, g2⟩ := f2 rfl
    refine k _ _ r2 (F1 ++ F2) (.cons (p1.step o1 t2) p2) (fun a m => (List.mem_append.mp m).elim (fun m => t2.off p1.there o1 a m) (o2 a)) s2 (t1.trans t2) fun _ => ⟨?_, fun a m => (List.mem_append.mp m).elim (g1 a) fun m => t1.none (g2 a m)⟩
    exact List.nodup_append.mpr ⟨n1, n2, fun a m b m' e => p1.there a m (by rw [e]; exact g2 b m')⟩
theorem h_lst (h : PA X es (TAh a X.K X.w (evK pg cl cs) true)) (hl : esLen cs ≤ 1000) : PE X (.List es pos) (TEh a X.K X.w (evE pg cl (.lst cs)) true) :=
  pe_w (pe_lst h) fun σ H Q ⟨env, S, r, x, S', hS, RE, RS, ev, k⟩ => by
    simp only [evE] at ev
    obtain ⟨p, e1, ev⟩ := bind_ok' ev
    cases ev
    refine ⟨env, S, r, p.1, p.2, hS, RE, RS, e1, fun vs H1 r1 F1 p1 o1 s1 t1 f1 => ⟨lim_of p1 (by rw [evK_len (xs := p.1) e1]; exact hl), fun q hq => ?_⟩⟩
    have st : Stp H1 (upd H1 q (.lst vs)) r1 r1 := .upd hq
    refine k _ _ r1 (q :: F1) (.lst upd_same (p1.step o1 st)) (fun a m => ?_) (s1.same (same_upd hq)) (t1.trans st) fun _ => ⟨?_, fun a m => ?_⟩
    · rcases List.mem_cons.mp m with rfl | m
      · exact s1.nmem hq
      · exact o1 a m
    · exact List.nodup_cons.mpr ⟨fun m => p1.there q m hq, (f1 rfl).1⟩
    · rcases List.mem_cons.mp m with rfl | m
      · exact t1.none hq
      · exact (f1 rfl).2 a m
end
/-! ### the look at such a suite -/
mutual
def hotE (k : Ck) (sc : Scope) : E → Expr → Bool
  | .isx i c, e => chkE k (.isx i c) sc e
  | .blt b es, e => match anyV (.blt b es), e with
    | some v, .Call (.Name x _) [b] [] _ => decide (x = "any") && glC sc x && chkS k (.cons (.var v) .nil) sc [b]
    | _, _ => false
  | .orE es, e => match e with
    | .BoolOp .Or l _ => hotO k sc es l
    | _ => false
  | _, _ => false
def hotO (k : Ck) (sc : Scope) : Es → List Expr → Bool
  | .cons c .nil, [x] => hotE k sc c x
  | .cons c (.cons c2 cs), x :: y :: l => hotE k sc c x && hotO k sc (.cons c2 cs) (y :: l)
  | _, _ => false
end
def hotK (k : Ck) (sc : Scope) : Es → List Expr → Bool
  | .nil, l => l.isEmpty
  | .cons c cs, l => match l with
    | x :: xs => noStar x && hotE k sc c x && hotK k sc cs xs
    | [] => false
def hotCs (k : Ck) (sc : Scope) : Cs → List Stmt → Bool
  | .nil, l => l.isEmpty
  | .cons c cs, l => match setL c, l with
    | some (i, es), .Assign [.Name x _] v _ :: sts => decide (k.N[i]? = some x) && locF sc x && noComp v && decide (esLen es ≤ 1000) && (match v with
      | .List els _ => hotK k sc es els
      | _ => false) && hotCs k sc cs sts
    | _, _ => false
section
variable {X : Cx} {a : Addr} {pg : Pg} {cl : CallT} {k : Ck} {ow : List Bool} {H0 : Hp} {mu : Nat → Bool}
mutual
theorem hot_E (t : HotT X a) (g : Gv X pg cl k) : ∀ (c : E) (e : Expr), hotE k X.env.scope c e = true → PE X e (TEh a X.K X.w (evE pg cl c) (fresh c)) ∧ pureE c = true
  | .isx i c, e, h => by
    simp only [hotE] at h
    exact ⟨h_of (snd_E _ X g e h).1, by rw [pureE]⟩
  | .blt b es, e, h => by
    simp only [hotE] at h
    split at h
    · rename_i v x p1 b' p2 hv
      rw [Bool.and_eq_true, Bool.and_eq_true, decide_eq_true_eq] at h
      obtain ⟨⟨rfl, h1⟩, h2⟩ := h
      have st := chkS_stars h2
      rw [List.all_cons, Bool.and_eq_true] at st
      have hp : pureE (.blt b es) = true := by simp only [pureE, hv, Option.isSome_some]
      refine ⟨?_, hp⟩
      rw [anyV_ok hv]
      exact h_any t (gl_of h1) (g.bt _ (by decide +kernel)) (snd_S _ X g _ h2) (star_one st.1 _ _)
    · cases h
  | .orE es, e, h => by
    simp only [hotE] at h
    split at h
    · have q := hot_O t g es _ (by assumption) h
      rw [or_def]
      exact ⟨q.1, by rw [pureE]; exact q.2⟩
    · cases h
  | .var _, e, h => by simp [hotE] at h
  | .int _, e, h => by simp [hotE] at h
  | .str _, e, h => by simp [hotE] at h
  | .bl _, e, h => by simp [hotE] at h
  | .non, e, h => by simp [hotE] at h
  | .glob _, e, h => by simp [hotE] at h
  | .bin _ _ _, e, h => by simp [hotE] at h
  | .neg _, e, h => by simp [hotE] at h
  | .cmp _ _ _, e, h => by simp [hotE] at h
  | .chain _ _ _ _ _, e, h => by simp [hotE] at h
  | .andE _, e, h => by simp [hotE] at h
  | .not _, e, h => by simp [hotE] at h
  | .ifx _ _ _, e, h => by simp [hotE] at h
  | .tup _, e, h => by simp [hotE] at h
  | .lst _, e, h => by simp [hotE] at h
  | .dic _ _, e, h => by simp [hotE] at h
  | .ix _ _, e, h => by simp [hotE] at h
  | .sl _ _ _, e, h => by simp [hotE] at h
  | .comp _ _ _ _, e, h => by simp [hotE] at h
  | .call _ _, e, h => by simp [hotE] at h
  | .bltI _ _, e, h => by simp [hotE] at h
  | .isi _ _, e, h => by simp [hotE] at h
  | .mt _ _ _, e, h => by simp [hotE] at h
  | .mu _ _ _, e, h => by simp [hotE] at h
  | .box _, e, h => by simp [hotE] at h
  | .fld _ _, e, h => by simp [hotE] at h
  | .meth _ _ _, e, h => by simp [hotE] at h
  | .make _ _ _, e, h => by simp [hotE] at h
  | .newN, e, h => by simp [hotE] at h
  | .srt _, e, h => by simp [hotE] at h
  | .nget _ _, e, h => by simp [hotE] at h
  | .nhas _ _ _, e, h => by simp [hotE] at h
  | .cmpD _ _ _, e, h => by simp [hotE] at h
  | .compR _ _ _ _, e, h => by simp [hotE] at h
  | .callM _ _ _, e, h => by simp [hotE] at h
  | .tupN _, e, h => by simp [hotE] at h
  | .nx _, e, h => by simp [hotE] at h
theorem hot_O (t : HotT X a) (g : Gv X pg cl k) : ∀ (cs : Es) (es : List Expr) (pos : Pos), hotO k X.env.scope cs es = true → PE X (.BoolOp .Or es pos) (TEh a X.K X.w (evOr pg cl cs) true) ∧ pureO cs = true
  | .cons c .nil, [x], pos, h => by
    rw [hotO] at h
    have q := hot_E t g c x h
    exact ⟨h_or1 q.1, by rw [pureO, q.2, pureO]; rfl⟩
  | .cons c (.cons c2 cs), x :: y :: l, pos, h => by
    rw [hotO, Bool.and_eq_true] at h
    have q := hot_E t g c x h.1
    have q2 := hot_O t g (.cons c2 cs) (y :: l) pos h.2
    exact ⟨h_or q.2 q.1 q2.1, by rw [pureO, q.2, q2.2]; rfl⟩
  | .nil, _, _, h => by unfold hotO at h; cases h
  | .cons c .nil, [], _, h => by unfold hotO at h; cases h
  | .cons c .nil, _ :: _ :: _, _, h => by unfold hotO at h; cases h
  | .cons c (.cons c2 cs), [], _, h => by unfold hotO at h; cases h
  | .cons c (.cons c2 cs), [_], _, h => by unfold hotO at h; cases h
end
theorem hot_K (t : HotT X a) (g : Gv X pg cl k) : ∀ (cs : Es) (es : List Expr), hotK k X.env.scope cs es = true → PA X es (TAh a X.K X.w (evK pg cl cs) true) ∧ pureO cs = true
  | .nil, es, h => by
    simp only [hotK, List.isEmpty_iff] at h
    subst h
    exact ⟨hk_nil, by rw [pureO]⟩
  | .cons c cs, es, h => by
    unfold hotK at h
    split at h
    · rw [Bool.and_eq_true, Bool.and_eq_true] at h
      have q := hot_E t g c _ h.1.2
      have q2 := hot_K t g cs _ h.2
      exact ⟨hk_cons q.2 q.1 q2.1 (star_one h.1.1 _ _), by rw [pureO, q.2, q2.2]; rfl⟩
    · cases h
theorem h_set {i : Nat} {st : Stmt} {x : Str} {es : Es} (hi : X.N[i]? = some x) (h : PS X st (tAsg (TEh a X.K X.w (evE pg cl (.lst es)) true) (gName i))) : PS X st (TSh a X.K X.w ow H0 mu (exC pg cl ow (.set i (.lst es)))) := by
  refine ⟨fun pins s σ H D I ⟨env, S, r, lab, hS, R, RS, fin⟩ => ?_⟩
  have hj : i < σ.length := by rw [I.len]; exact (List.getElem?_eq_some_iff.mp hi).1
  simp only [exC] at fin
  obtain ⟨p, ev, fin⟩ := fin_then fin
  have hk : keepV (.lst es) p.1 = true := by unfold keepV fresh; rfl
  rw [if_pos hk] at fin
  refine h.run pins s σ H D I ⟨env, S, r, p.1, p.2, hS, R.toE, RS, ev, fun v H1 r1 F p1 o1 s1 t1 f1 => ?_⟩
  obtain ⟨n, g⟩ := keep_new hk p1 f1
  obtain ⟨R2, st⟩ := R.put t1 hj p1 o1 n g
  exact fin _ _ _ _ R2 s1 st
theorem set_st {i : Nat} {es : Es} {env e2 : Env} {S S2 : Sto} {f : Fl} (hp : pureO es = true) (h : exC pg cl ow (.set i (.lst es)) env S = .ok f e2 S2) : S2 = S := by
  simp only [exC] at h
  cases e : evE pg cl (.lst es) env S with
  | ok p =>
    rw [e] at h
    have hk : keepV (.lst es) p.1 = true := by unfold keepV fresh; rfl
    simp only [Res.then, hk, if_true] at h
    cases h
    simp only [evE] at e
    obtain ⟨q, e1, e⟩ := bind_ok' e
    cases e
    exact pure_K es hp e1
  | exc c S => rw [e] at h; cases h
  | stuck => rw [e] at h; cases h
theorem h_cons {i : Nat} {es : Es} {st : Stmt} {sts : List Stmt} {as : Cs} (hp : pureO es = true) (h : PS X st (TSh a X.K X.w ow H0 mu (exC pg cl ow (.set i (.lst es))))) (hs : PSs X sts (TSh a X.K X.w ow H0 mu (exCs pg cl ow as))) :
    PSs X (st :: sts) (TSh a X.K X.w ow H0 mu (exCs pg cl ow (.cons (.set i (.lst es)) as))) :=
  pss_w (pss_cons h hs) fun D σ H ⟨env, S, r, lab, hS, R, RS, fin⟩ => by
    simp only [exCs] at fin
    refine ⟨env, S, r, lab, hS, R, RS, ?_⟩
    cases o : exC pg cl ow (.set i (.lst es)) env S with
    | ok f e2 S2 =>
      rw [o] at fin
      have q := set_st hp o
      subst q
      cases f with
      | nx => exact fun σ' H' r' lab' R s st => ⟨e2, S2, r', lab', hS.ext st.ext, R, s, Fin.pre (show Fin X.K X.w ow H0 mu _ H r (exCs pg cl ow as e2 S2) D from fin) st⟩
      | rt v => exact fin
    | exc c e2 S2 => rw [o] at fin; exact False.elim fin
    | stuck => rw [o] at fin; exact False.elim fin
theorem h_nil : PSs X [] (TSh a X.K X.w ow H0 mu (exCs pg cl ow .nil)) :=
  pss_w (c_nil (mu := mu) (H0 := H0) (ow := ow) (pg := pg) (cl := cl)) fun D σ H ⟨env, S, r, lab, _, R, RS, fin⟩ => ⟨env, S, r, lab, R, RS, fin⟩
theorem hot_Cs (t : HotT X a) (g : Gs X pg cl k) : ∀ (cs : Cs) (sts : List Stmt), hotCs k X.env.scope cs sts = true → PSs X sts (TSh a X.K X.w ow H0 mu (exCs pg cl ow cs))
  | .nil, sts, h => by
    simp only [hotCs, List.isEmpty_iff] at h
    subst h
    exact h_nil
  | .cons c cs, sts, h => by
    simp only [hotCs] at h
    split at h
    · rename_i i es x px v pv sts' hv
      simp only [Bool.and_eq_true, decide_eq_true_eq] at h
      obtain ⟨⟨⟨⟨⟨h1, h2⟩, h3⟩, h4⟩, h5⟩, h6⟩ := h
      rw [setL_ok hv]
      split at h5
      · have q := hot_K t g.toGv es _ h5
        have hi := g.N ▸ h1
        exact h_cons q.2 (h_set hi (ps_set g.nd hi (loc_of h2) (h_lst q.1 h4) (sw_plain h3) (.inl (g.fn _)))) (hot_Cs t g cs _ h6)
      · cases h5
    · cases h
end
end Ev

/-! SndQS: statements that may raise. -/
namespace Ev
open PySem PySem.Spec PyProof.Rows L2

def FinX (K : PySem.W.Frag) (w : World) (W : WX) (ow : List Bool) (H0 : Hp) (mu : Nat → Bool) (lab : Addr → Option Nat) (H : Hp) (r : List Addr) (out : Out) (D : Ends) : Prop :=
  match out with
  | .exc c env' S' => ∀ σ' H' r' lab', RelS K w ow H0 r' lab' env' σ' H' → RSto K w H' r' S' → StS mu lab lab' H H' r r' → W (.ref (clsA K c)) none σ' H'
  | o => Fin K w ow H0 mu lab H r o D
def TSx (K : PySem.W.Frag) (w : World) (W : WX) (ow : List Bool) (H0 : Hp) (mu : Nat → Bool) (f : Env → Sto → Out) : TS := fun D σ H =>
  ∃ env S r lab, RelS K w ow H0 r lab env σ H ∧ RSto K w H r S ∧ FinX K w W ow H0 mu lab H r (f env S) D
section
variable {K : PySem.W.Frag} {w : World} {W : WX} {ow : List Bool} {H0 H H1 : Hp} {mu mu' : Nat → Bool} {lab lab1 : Addr → Option Nat} {r r1 : List Addr} {D : Ends} {env : Env} {σ : L2.St}
theorem FinX.pre {out : Out} (h : FinX K w W ow H0 mu lab H r out D) (s : StS mu lab lab1 H H1 r r1) : FinX K w W ow H0 mu lab1 H1 r1 out D := by
  cases out with
  | ok f e S => exact Fin.pre (out := .ok f e S) h s
  | exc c e S => exact fun σ' H' r' lab' a b c => h σ' H' r' lab' a b (s.trans c)
  | stuck => exact h
theorem FinX.toFin {out : Out} (h : FinX K w W ow H0 mu lab H r out D) (n : NXO out) : Fin K w ow H0 mu lab H r out D := by
  cases out with
  | ok f e S => exact h
  | exc c e S => exact absurd rfl (n.ne c e S)
  | stuck => exact h
theorem FinX.mono {out : Out} (h : FinX K w W ow H0 mu' lab H r out D) (m : ∀ j, mu j = true → mu' j = true) : FinX K w W ow H0 mu lab H r out D := by
  cases out with
  | ok f e S =>
    cases f with
    | nx => exact fun σ' H' r' lab' a b c => h σ' H' r' lab' a b (c.mono m)
    | rt v => exact fun v' H' r' F lab' a b c d => h v' H' r' F lab' a b c (d.mono m)
  | exc c e S => exact fun σ' H' r' lab' a b c => h σ' H' r' lab' a b (c.mono m)
  | stuck => exact h
theorem finx_seq {o : Out} {k : Env → Sto → Out} (h : FinX K w W ow H0 mu lab H r (o.seq k) D) : FinX K w W ow H0 mu lab H r o { D with nx := TSx K w W ow H0 mu k D } := by
  cases o with
  | ok f env S =>
    cases f with
    | nx => exact fun σ' H' r' lab' R s st => ⟨env, S, r', lab', R, s, FinX.pre (show FinX K w W ow H0 mu lab H r (k env S) D from h) st⟩
    | rt v => exact h
  | exc c env S => exact h
  | stuck => exact False.elim h
/-- an expression's exception -/
theorem FinX.excP {c : Nat} {S' : Sto} (h : FinX K w W ow H0 mu lab H r (.exc c env S') D) (R : RelS K w ow H0 r lab env σ H) : ExcP K w W σ H r c S' := fun H' r' s t => h σ H' r' lab (R.step t) s (.stp t)
theorem finx_then {α : Type} {q : Res α} {k : α → Out} (h : FinX K w W ow H0 mu lab H r (q.then env k) D) : (∃ a, q = .ok a ∧ FinX K w W ow H0 mu lab H r (k a) D) ∨ ∃ c S', q = .exc c S' ∧ FinX K w W ow H0 mu lab H r (.exc c env S') D := by
  cases q with
  | ok a => exact .inl ⟨a, rfl, h⟩
  | exc c S => exact .inr ⟨c, S, rfl, h⟩
  | stuck => exact False.elim h
theorem finx_thenN {α : Type} {q : Res α} {k : α → Out} (h : FinX K w W ow H0 mu lab H r (q.then env k) D) (n : NX q) : ∃ a, q = .ok a ∧ FinX K w W ow H0 mu lab H r (k a) D := by
  rcases finx_then h with h | ⟨c, S', e, _⟩
  · exact h
  · exact absurd e (n.ne c S')
theorem finx_if {b : Prop} [Decidable b] {o : Out} (h : FinX K w W ow H0 mu lab H r (if b then o else .stuck) D) : b ∧ FinX K w W ow H0 mu lab H r o D := by
  split at h
  · exact ⟨by assumption, h⟩
  · exact False.elim h
end
section
variable {X : Cx} {W : WX} {pos : Pos} {pg : Pg} {cl : CallT} {ow : List Bool} {H0 : Hp} {mu : Nat → Bool} {e : Expr} {c : E}
abbrev PEx (X : Cx) (W : WX) (pg : Pg) (cl : CallT) (c : E) (e : Expr) : Prop := PE X e (TEvX X.K X.w W (evE pg cl c) (fresh c))
/-- what never raises -/
theorem y_lift {st : Stmt} {f : Env → Sto → Out} (h : PS X st (TSv X.K X.w ow H0 mu f)) (n : ∀ env S, NXO (f env S)) : PS X st (TSx X.K X.w W ow H0 mu f) :=
  ps_w h fun D σ H ⟨env, S, r, lab, R, RS, fin⟩ => ⟨env, S, r, lab, R, RS, fin.toFin (n env S)⟩
theorem y_nil : PSs X [] (TSx X.K X.w W ow H0 mu (exCs pg cl ow .nil)) :=
  pss_w pss_nil fun D σ H ⟨env, S, r, lab, R, RS, fin⟩ => by
    simp only [exCs] at fin
    exact fin σ H r lab R RS .refl
theorem y_cons {st : Stmt} {sts : List Stmt} {a : C} {as : Cs} (h : PS X st (TSx X.K X.w W ow H0 mu (exC pg cl ow a))) (hs : PSs X sts (TSx X.K X.w W ow H0 mu (exCs pg cl ow as))) : PSs X (st :: sts) (TSx X.K X.w W ow H0 mu (exCs pg cl ow (.cons a as))) :=
  pss_w (pss_cons h hs) fun D σ H ⟨env, S, r, lab, R, RS, fin⟩ => by
    simp only [exCs] at fin
    exact ⟨env, S, r, lab, R, RS, finx_seq fin⟩
theorem y_exp (hn : noComp e = true) {fe : Bool} (h : PE X e (TEvX X.K X.w W (evE pg cl c) fe)) : PS X (.Expr e pos) (TSx X.K X.w W ow H0 mu (exC pg cl ow (.exp c))) :=
  ps_w (ps_expr h (sw_plain hn)) fun D σ H ⟨env, S, r, lab, R, RS, fin⟩ => by
    simp only [exC] at fin
    rcases finx_then fin with ⟨p, ev, fin⟩ | ⟨cc, S', ev, fin⟩
    · exact ⟨env, S, r, R.toE, RS, .inl ⟨p.1, p.2, ev, fun v H1 r1 F p1 o1 s1 t1 f1 => fin σ H1 r1 lab (R.step t1) s1 (.stp t1)⟩⟩
    · exact ⟨env, S, r, R.toE, RS, .inr ⟨cc, S', ev, fin.excP R⟩⟩
theorem setx_mv {K : PySem.W.Frag} {w : World} {H : Hp} {lab : Addr → Option Nat} {r : List Addr} {D : Ends} {i : Nat} {o : Nat → Out} {o2 : Out} (h : FinX K w W ow H0 mu lab H r (match (motive := E → Out) c with
      | .var j => if ow[j]?.getD false = true ∧ i ≠ j then o j else if ow[j]?.getD false = false ∧ ow[i]?.getD false = false then o2 else .stuck
      | _ => .stuck) D) : ∃ j, c = .var j ∧ ((own ow j = true ∧ i ≠ j ∧ FinX K w W ow H0 mu lab H r (o j) D) ∨ (own ow j = false ∧ own ow i = false ∧ FinX K w W ow H0 mu lab H r o2 D)) := by
  cases c with
  | var j =>
    simp only at h
    by_cases q : ow[j]?.getD false = true ∧ i ≠ j
    · rw [if_pos q] at h
      exact ⟨j, rfl, .inl ⟨q.1, q.2, h⟩⟩
    · rw [if_neg q] at h
      obtain ⟨h1, h2⟩ := finx_if h
      exact ⟨j, rfl, .inr ⟨h1.1, h1.2, h2⟩⟩
  | _ => exact False.elim h
theorem y_set {i : Nat} {st : Stmt} {x : Str} {fr : Bool} (hfr : fr = fresh c) (hi : X.N[i]? = some x) (h : PS X st (tAsg (TEvX X.K X.w W (evE pg cl c) fr) (gName i))) (hmv : ∀ j, c = .var j → PS X st (tAsg (tVar j) (gName i)) ∧ mu j = true) : PS X st (TSx X.K X.w W ow H0 mu (exC pg cl ow (.set i c))) := by
  subst hfr
  refine ⟨fun pins s σ H D I ⟨env, S, r, lab, R, RS, fin⟩ => ?_⟩
  have hj : i < σ.length := by rw [I.len]; exact (List.getElem?_eq_some_iff.mp hi).1
  simp only [exC] at fin
  rcases finx_then fin with ⟨p, ev, fin⟩ | ⟨cc, S', ev, fin⟩
  · by_cases hk : keepV c p.1 = true
    · rw [if_pos hk] at fin
      refine h.run pins s σ H D I ⟨env, S, r, R.toE, RS, .inl ⟨p.1, p.2, ev, fun v H1 r1 F p1 o1 s1 t1 f1 => ?_⟩⟩
      obtain ⟨n, g⟩ := keep_new hk p1 f1
      obtain ⟨R2, st⟩ := R.put t1 hj p1 o1 n g
      exact fin _ _ _ _ R2 s1 st
    · rw [if_neg hk] at fin
      obtain ⟨j, rfl, hc⟩ := setx_mv (o := fun j => Out.ok Fl.nx ((List.set env i (some p.1)).set j none) p.2) (o2 := Out.ok Fl.nx (List.set env i (some p.1)) p.2) fin
      obtain ⟨h1, h2⟩ := hmv j rfl
      simp only [evE] at ev
      split at ev
      · rename_i x ex
        obtain rfl := ok_inj ev
        rcases hc with ⟨c1, c2, fin⟩ | ⟨c1, c2, fin⟩
        · obtain ⟨v, lab', g1, g2, g3⟩ := R.move c2 hj c1 ex h2
          exact h1.run pins s σ H D I ⟨v, g1, fin _ _ _ _ g2 RS g3⟩
        · obtain ⟨v, F, g1, g2, g3, g4, g5⟩ := R.at_ j _ ex
          exact h1.run pins s σ H D I ⟨v, g1, fin _ _ _ _ (R.bind hj c2 g2 g3 fun a m => by rw [g5 a m, c1]; rfl) RS ⟨fun b u e n _ => ⟨e, rfl⟩, fun b e => e, fun a o e _ => e, ⟨[], by simp, by simp⟩⟩⟩
      · cases ev
  · exact h.run pins s σ H D I ⟨env, S, r, R.toE, RS, .inr ⟨cc, S', ev, fin.excP R⟩⟩
theorem y_ret (hc : ∀ es, c ≠ .tup es) (h : PEx X W pg cl c e) (hv : ∀ i, c = .var i → PE X e (tVar i)) : PS X (.Return (some e) pos) (TSx X.K X.w W ow H0 mu (exC pg cl ow (.ret c))) := by
  refine ⟨fun pins s σ H D I ⟨env, S, r, lab, R, RS, fin⟩ => ?_⟩
  rw [ret_def hc] at fin
  rcases finx_then fin with ⟨p, ev, fin⟩ | ⟨cc, S', ev, fin⟩
  · have hk := (finx_if fin).1
    by_cases kk : keepV c p.1 = true
    · refine (ps_ret h).run pins s σ H D I ⟨env, S, r, R.toE, RS, .inl ⟨p.1, p.2, ev, fun v H1 r1 F p1 o1 s1 t1 f1 => ?_⟩⟩
      obtain ⟨n, g⟩ := keep_new kk p1 f1
      exact (finx_if fin).2 v H1 r1 F lab p1 o1 s1 (.stp t1) n fun a m => R.base (g a m)
    · obtain ⟨i, rfl, ho⟩ := ret_own kk hk
      simp only [evE] at ev
      split at ev
      · rename_i x ex
        cases ev
        obtain ⟨v, F, h1, h2, h3, h4, h5⟩ := R.at_ i _ ex
        have fin' : ∀ v H' r' F lab', Rep X.K X.w H' r' x v F → (∀ a, a ∈ F → a ∉ r') → RSto X.K X.w H' r' S → StS mu lab lab' H H' r r' → F.Nodup → (∀ a, a ∈ F → H0 a = none) → D.rt v H' := (finx_if fin).2
        refine (ps_ret (hv i rfl)).run pins s σ H D I ⟨v, h1, fin' v H r F lab h2 h3 RS .refl (h4 ho) fun a m => (R.new a i ?_).1⟩
        rw [h5 a m, if_pos ho]
      · cases ev
  · exact (ps_ret h).run pins s σ H D I ⟨env, S, r, R.toE, RS, .inr ⟨cc, S', ev, fin.excP R⟩⟩
theorem y_ite {sa sb : List Stmt} {a b : Cs} (hc : PTv X pg cl c e) (nc : ∀ env S, NX (evE pg cl c env S)) (ha : PSs X sa (TSx X.K X.w W ow H0 mu (exCs pg cl ow a))) (hb : PSs X sb (TSx X.K X.w W ow H0 mu (exCs pg cl ow b))) : PS X (.If e sa sb pos) (TSx X.K X.w W ow H0 mu (exC pg cl ow (.ite c a b))) :=
  ps_w (ps_if hc ha hb) fun D σ H ⟨env, S, r, lab, R, RS, fin⟩ => by
    simp only [exC] at fin
    obtain ⟨p, ev, fin⟩ := finx_thenN fin (nc _ _)
    obtain ⟨kb, e4, fin⟩ := finx_thenN fin (.isB _)
    refine ⟨env, S, r, kb, p.2, R.toE, RS, by rw [ev, ← isB_ok e4], fun H1 r1 s1 t1 => ?_⟩
    cases kb with
    | true =>
      rw [if_pos rfl] at fin ⊢
      exact ⟨env, p.2, r1, lab, R.step t1, s1, fin.pre (.stp t1)⟩
    | false =>
      rw [if_neg (by exact fun z => nomatch z)] at fin ⊢
      exact ⟨env, p.2, r1, lab, R.step t1, s1, fin.pre (.stp t1)⟩
/-! ### raise -/
def raiseC (k : Ck) (n : Nat) (sc : Scope) : Stmt → Bool
  | .Raise (some (.Call (.Name x _) [.Constant (.str _) _ _] [] _)) none _ => decide (x = clsS n) && k.xs.contains n && glC sc x && noDbg x
  | _ => false
theorem y_raise {k : Ck} {n : Nat} {st : Stmt} (hc : X.calm = true) (tk : L2N.Takes X W) (xc : XcOk X.K X.mg k.xs) (F : ExcBaseFacts "ValueError" "ValueError.__new__" "ValueError.__init__" He.veBase) (h : raiseC k n X.env.scope st = true) : PS X st (TSx X.K X.w W ow H0 mu (exC pg cl ow (.raise n))) := by
  unfold raiseC at h
  split at h
  · rw [Bool.and_eq_true, Bool.and_eq_true, Bool.and_eq_true, decide_eq_true_eq] at h
    obtain ⟨⟨⟨rfl, h1⟩, h2⟩, h3⟩ := h
    have hm : n ∈ k.xs := by simpa using h1
    obtain ⟨g1, g2, g3, g4⟩ := xc.cl n hm
    refine ps_w (L2N.ps_raise hc tk (L2N.pmk_own F g2 (xc.nm n hm).1 g3 (raises_own g1.hs g4) (gl_of h2) (dbg_of h3).1)) fun D σ H ⟨env, S, r, lab, R, RS, fin⟩ => ?_
    simp only [exC] at fin
    exact fin σ H r lab R RS .refl
  · cases h
end
end Ev

/-! SndQT: walks whose turns may raise. -/
namespace Ev
open PySem PySem.Spec PyProof.Rows L2

def forWX (K : PySem.W.Frag) (w : World) (W : WX) (ow : List Bool) (H0 : Hp) (mu : Nat → Bool) (f : Val → Env → Sto → Out) (items : List Val) (D : Ends) (H1 : Hp) (r1 G : List Addr) (mb : Nat → Bool) (i m : Nat) (σ : L2.St) (H : Hp) : Prop :=
  m = items.length - i ∧ i ≤ items.length ∧ ∃ env S r lab, RelS K w ow H0 r lab env σ H ∧ RSto K w H r S ∧ FinX K w W ow H0 mu lab H r (forL f (items.drop i) env S) D ∧ Kp H1 H G ∧ (∀ (n : Nat) (a : Addr), r1[n]? = some a → r[n]? = some a) ∧
    ∀ a, a ∈ G → a ∉ r ∧ H a ≠ none ∧ (lab a = none ∨ (purs items = true ∧ ∃ j, lab a = some j ∧ mb j = false))
section
variable {X : Cx} {W : WX} {pos : Pos} {pg : Pg} {cl : CallT} {ow : List Bool} {H0 : Hp} {mu : Nat → Bool} {tg e : Expr}
theorem y_for {iter : Expr} {it : It} {sb : List Stmt} {b : Cs} {t : Tg} {vr : Option Nat} (hp : PassesOwn (model X.prog X.w) X.A X.env X.xe) (hc : X.calm = true) (hi : PI X tg iter (TIs X.K X.w ow H0 (evF pg cl it) vr)) (hvr : vr = itVar it) (hg : PG X tg (gTg X.K t)) (ht : tgOk ow ow.length t = true)
    (hmu : ∀ j, mutCs b j = true → mu j = true) (hv : ∀ i, itVar it = some i → mutCs b i = false) (hb : PSs X sb (TSx X.K X.w W ow H0 (mutCs b) (exCs pg cl ow b))) (hs : noSet iter = true) (ns : ∀ env S, NX (evF pg cl it env S)) : PS X (.For tg iter sb [] pos) (TSx X.K X.w W ow H0 mu (exC pg cl ow (.forS t it b))) := by
  subst hvr
  refine ⟨fun pins s σ H D I ⟨env, S, r, lab, R, RS, fin⟩ => (ps_for hp hc hi hg hb (fold_it hs)).run pins s σ H D I ?_⟩
  simp only [exC] at fin
  obtain ⟨⟨items, S1⟩, e1, fin⟩ := finx_thenN fin (ns _ _)
  obtain ⟨hfr, fin⟩ := finx_if fin
  refine ⟨env, S, r, lab, items, S1, R, RS, e1, fun J H1 r1 G iok og s1 t1 lb => ?_⟩
  refine ⟨forWX X.K X.w W ow H0 mu (stepF pg cl ow t b) items D H1 r1 G (mutCs b), ⟨items.length - 0, rfl, Nat.zero_le _, env, S1, r1, lab, R.step t1, s1, ?_, ⟨fun a o _ e => e, fun a o e _ => e⟩, ids, fun a m => ⟨(og a m).1, (og a m).2, ?_⟩⟩, ?_⟩
  · rw [List.drop_zero]
    exact fin.pre (.stp t1)
  · rcases lb a m with z | ⟨i, hi, ho, z⟩
    · exact .inl z
    · right
      refine ⟨?_, i, z, hv i hi⟩
      rcases (Bool.or_eq_true _ _).mp hfr with q | q
      · rcases (Bool.or_eq_true _ _).mp q with q | q
        · rw [dyn_var hi] at q; cases q
        · rw [fr_own hi q] at ho; cases ho
      · exact q
  · intro i m σ2 H2 ⟨hm, hi2, env2, S2, r2, lab2, R2, RS2, fin2, kG, sub2, og2⟩
    rcases Nat.lt_or_eq_of_le hi2 with hlt | rfl
    · refine .inr ⟨iok.go i H2 kG hlt, forWX X.K X.w W ow H0 mu (stepF pg cl ow t b) items D H1 r1 G (mutCs b) (i + 1) (items.length - (i + 1)), fun σ' H' h => ⟨_, by omega, h⟩, fun v H3 hy => ?_⟩
      obtain ⟨sm, F, rp, sf⟩ := iok.yld i items[i] H2 r2 v H3 kG sub2 (List.getElem?_eq_getElem hlt) hy
      have t3 : Stp H2 H3 r2 r2 := .same sm
      rw [List.drop_eq_getElem_cons hlt] at fin2
      simp only [forL] at fin2
      have nl : ∀ a, a ∈ F → lab2 a = none := fun a m => by
        rcases (og2 a (sf a m)).2.2 with z | ⟨z, _⟩
        · exact z
        · rw [rp.pur (purs_get z (List.getElem?_eq_getElem hlt))] at m
          cases m
      unfold stepF at fin2
      split at fin2
      · rename_i env3 he
        refine tg_bind (R2.step t3) rp (fun a m => (og2 a (sf a m)).1) nl ht he fun σ3 R3 => ?_
        refine ⟨env3, S2, r2, lab2, R3, RS2.same sm, ?_⟩
        have f3 := fin2.pre (.stp t3)
        show FinX X.K X.w W ow H0 (mutCs b) lab2 H3 r2 (exCs pg cl ow b env3 S2) _
        cases ho : exCs pg cl ow b env3 S2 with
        | ok f env4 S4 =>
          rw [ho] at f3
          cases f with
          | nx =>
            intro σ' H' r' lab' R' RS' st
            have kk : ∀ a, a ∈ G → ∀ o, H3 a = some o → H' a = some o ∧ lab' a = lab2 a := fun a m o e => st.keep a o e (og2 a m).1 fun j z => by
              rcases (og2 a m).2.2 with q | ⟨_, j', q, q2⟩
              · rw [q] at z; cases z
              · rw [q] at z; cases z; exact q2
            have h3 : ∀ a, a ∈ G → H3 a ≠ none := fun a m => t3.there a (og2 a m).2.1
            refine ⟨rfl, hlt, env4, S4, r', lab', R', RS', FinX.pre (show FinX X.K X.w W ow H0 mu lab2 H3 r2 (forL (stepF pg cl ow t b) (items.drop (i + 1)) env4 S4) D from f3) (st.mono hmu), ⟨fun a o m e => (kk a m o (sm _ _ (kG.at_ a o m e))).1, fun a o e i' => st.im a o (sm _ _ (kG.im a o e i')) i'⟩, fun n a q => st.sub n a (sub2 n a q), fun a m => ⟨fun z => (og2 a m).1 (st.back z (h3 a m)), st.there a (h3 a m), ?_⟩⟩
            cases q : H3 a with
            | none => exact absurd q (h3 a m)
            | some o =>
              rw [(kk a m o q).2]
              exact (og2 a m).2.2
          | rt v =>
            exact fun v' H' r' F' lab' a b' c d => f3 v' H' r' F' lab' a b' c (d.mono hmu)
        | exc c env4 S => rw [ho] at f3; exact fun σ' H' r' lab' a b' c' => f3 σ' H' r' lab' a b' (c'.mono hmu)
        | stuck => rw [ho] at f3; exact False.elim f3
      · exact False.elim fin2
    · refine .inl ⟨iok.stop H2 kG, ?_⟩
      rw [List.drop_length] at fin2
      exact fin2 σ2 H2 r2 lab2 R2 RS2 .refl
end
section
variable {X : Cx} {W : WX} {pos : Pos} {pg : Pg} {cl : CallT} {ow : List Bool} {H0 : Hp} {mu : Nat → Bool} {a e : Expr} {ca : E} {fa : Bool}
theorem finx_ifc {K : PySem.W.Frag} {w : World} {H : Hp} {lab : Addr → Option Nat} {r : List Addr} {D : Ends} {b : Prop} {inst : Decidable b} {o : Out} (h : FinX K w W ow H0 mu lab H r (@ite _ b inst o .stuck) D) : b ∧ FinX K w W ow H0 mu lab H r o D := by
  split at h
  · exact ⟨by assumption, h⟩
  · exact False.elim h
def forWRX (K : PySem.W.Frag) (w : World) (W : WX) (ow : List Bool) (H0 : Hp) (mu : Nat → Bool) (f : Val → Env → Sto → Out) (o : Nat × List Val) (l : Addr) (D : Ends) (i m : Nat) (σ : L2.St) (H : Hp) : Prop :=
  m = o.2.length - i ∧ i ≤ o.2.length ∧ ∃ env S r lab, RelS K w ow H0 r lab env σ H ∧ RSto K w H r S ∧ FinX K w W ow H0 mu lab H r (forRL f o (o.2.drop i) env S) D ∧ r[o.1]? = some l
theorem y_forR {sb : List Stmt} {bc : Cs} {t : Tg} {tg : Expr} (hp : PassesOwn (model X.prog X.w) X.A X.env X.xe) (hc : X.calm = true) (ha : PE X a (TEv X.K X.w (evE pg cl ca) fa)) (hg : PG X tg (gTg X.K t)) (ht : tgOk ow ow.length t = true)
    (hb : PSs X sb (TSx X.K X.w W ow H0 mu (exCs pg cl ow bc))) (hs : noSet a = true) (na : ∀ env S, NX (evE pg cl ca env S)) : PS X (.For tg a sb [] pos) (TSx X.K X.w W ow H0 mu (exC pg cl ow (.forR t ca bc))) := by
  refine ⟨fun pins s σ H D I ⟨env, S, r, lab, R, RS, fin⟩ => (ps_for hp hc (i_ref (tg := tg) ha) hg hb (fold_it hs)).run pins s σ H D I ?_⟩
  simp only [exC] at fin
  obtain ⟨p, ev, fin⟩ := finx_thenN fin (na _ _)
  obtain ⟨o, e1, fin⟩ := finx_thenN fin (nx_lstR _ _)
  obtain ⟨e2, es⟩ := lstR_ok e1
  refine ⟨env, S, r, o.1, o.2, p.2, R.toE, RS, by rw [← e2]; exact ev, es, fun l H1 r1 hl s1 t1 _ => ?_⟩
  refine ⟨forWRX X.K X.w W ow H0 mu (stepR pg cl ow t bc) o l D, ⟨o.2.length - 0, rfl, Nat.zero_le _, env, p.2, r1, lab, R.step t1, s1, ?_, hl⟩, ?_⟩
  · rw [List.drop_zero]
    exact fin.pre (.stp t1)
  · intro i m σ2 H2 ⟨hm, hi, env2, S2, r2, lab2, R2, RS2, fin2, hl2⟩
    rcases Nat.lt_or_eq_of_le hi with hlt | rfl
    · rw [List.drop_eq_getElem_cons hlt] at fin2
      unfold forRL at fin2
      obtain ⟨eg, fin2⟩ := finx_ifc fin2
      obtain ⟨go, yl⟩ := ref_go RS2 hl2 eg (List.getElem?_eq_getElem hlt)
      refine .inr ⟨go, forWRX X.K X.w W ow H0 mu (stepR pg cl ow t bc) o l D (i + 1) (o.2.length - (i + 1)), fun σ' H' h => ⟨_, by omega, h⟩, fun v H3 hy => ?_⟩
      obtain ⟨rfl, rp⟩ := yl v H3 hy
      unfold stepR at fin2
      split at fin2
      · rename_i env3 he
        refine tg_bind R2 rp (by simp) (by simp) ht he fun σ3 R3 => ?_
        refine ⟨env3, S2, r2, lab2, R3, RS2, ?_⟩
        show FinX X.K X.w W ow H0 mu lab2 H3 r2 (exCs pg cl ow bc env3 S2) _
        cases ho : exCs pg cl ow bc env3 S2 with
        | ok f env4 S4 =>
          rw [ho] at fin2
          cases f with
          | nx => exact fun σ' H' r' lab' R' RS' st => ⟨rfl, hlt, env4, S4, r', lab', R', RS', FinX.pre (show FinX X.K X.w W ow H0 mu lab2 H3 r2 (forRL (stepR pg cl ow t bc) o (o.2.drop (i + 1)) env4 S4) D from fin2) st, st.sub _ _ hl2⟩
          | rt v => exact fin2
        | exc c env4 S => rw [ho] at fin2; exact fin2
        | stuck => rw [ho] at fin2; exact False.elim fin2
      · exact False.elim fin2
    · rw [List.drop_length] at fin2
      unfold forRL at fin2
      obtain ⟨eg, fin2⟩ := finx_ifc fin2
      exact .inl ⟨ref_stop RS2 hl2 eg, fin2 σ2 H2 r2 lab2 R2 RS2 .refl⟩
theorem y_forX {i : Nat} {bc : Cs} {t : Tg} {st : Stmt} (h1 : PS X st (TSx X.K X.w W ow H0 mu (exC pg cl ow (.forR t (.var i) bc)))) (h2 : PS X st (TSx X.K X.w W ow H0 mu (exC pg cl ow (.forS t (.seq (.var i)) bc)))) : PS X st (TSx X.K X.w W ow H0 mu (exC pg cl ow (.forX t i bc))) := by
  refine ⟨fun pins s σ H D I ⟨env, S, r, lab, R, RS, fin⟩ => ?_⟩
  rw [exC] at fin
  split at fin
  · rename_i n e
    refine h1.run pins s σ H D I ⟨env, S, r, lab, R, RS, ?_⟩
    rw [exC]
    simp only [evE, e, then_ok]
    exact fin
  · rename_i v hv e
    refine h2.run pins s σ H D I ⟨env, S, r, lab, R, RS, ?_⟩
    rw [exC]
    have hd : itDyn (.seq (.var i)) = false := rfl
    simp only [evI, evE, e, hd, bind_ok]
    rw [if_neg (by exact fun z => nomatch z)]
    cases hq : seqV v with
    | ok l =>
      rw [hq] at fin
      simp only [bind_ok, then_ok] at fin ⊢
      exact fin
    | exc c S => exact absurd hq ((nx_seq v).ne c S)
    | stuck => rw [hq] at fin; exact fin
  · exact False.elim fin
theorem y_whl {sb : List Stmt} {b : Cs} {c : E} (hp : PassesOwn (model X.prog X.w) X.A X.env X.xe) (hc : PTv X pg cl c e) (nc : ∀ env S, NX (evE pg cl c env S)) (hb : PSs X sb (TSx X.K X.w W ow H0 mu (exCs pg cl ow b))) : PS X (.While e sb [] pos) (TSx X.K X.w W ow H0 mu (exC pg cl ow (.whl c b))) :=
  ps_w (ps_while hp hc hb) fun D σ H ⟨env, S, r, lab, R, RS, fin⟩ => by
    simp only [exC] at fin
    refine ⟨fun m σ' H' => TSx X.K X.w W ow H0 mu (whlL (fun env S => (evE pg cl c env S).bind fun p => (isB p.1).bind fun k => .ok (k, p.2)) (fun env S => exCs pg cl ow b env S) m) D σ' H', ⟨_, env, S, r, lab, R, RS, fin⟩, ?_⟩
    intro m σ1 H1 ⟨env1, S1, r1, lab1, R1, RS1, fin1⟩
    cases m with
    | zero => exact False.elim fin1
    | succ m =>
      unfold whlL at fin1
      obtain ⟨p, ev, fin1⟩ := finx_thenN fin1 (NX.bind (nc _ _) fun p => NX.bind (.isB _) fun k => .ok _)
      obtain ⟨q, ev0, e2⟩ := bind_ok' ev
      obtain ⟨kb, e4, e2⟩ := bind_ok' e2
      cases e2
      refine ⟨env1, S1, r1, kb, q.2, R1.toE, RS1, by rw [ev0, ← isB_ok e4], fun H2 r2 s2 t2 => ?_⟩
      cases kb with
      | true =>
        rw [if_pos rfl] at fin1 ⊢
        refine ⟨_, fun σ' H' h => ⟨m, Nat.lt_succ_self m, h⟩, env1, q.2, r2, lab1, R1.step t2, s2, ?_⟩
        exact finx_seq (fin1.pre (.stp t2))
      | false =>
        rw [if_neg (by exact fun z => nomatch z)] at fin1 ⊢
        exact fin1 σ1 H2 r2 lab1 (R1.step t2) s2 (.stp t2)
end
end Ev

/-! SndQU: try. -/
namespace L2
open PySem PySem.Spec PyProof.Rows

/-- a clause: its class, its name's slot, what its suite does -/
structure Hd where
  c : Value
  o : Option Nat
  t : Addr → TS
def wipeD (D : Ends) (i : Nat) : Ends := { nx := fun σ' H' => D.nx (σ'.set i none) H', rt := D.rt, bk := fun σ' H' => D.bk (σ'.set i none) H', ct := fun σ' H' => D.ct (σ'.set i none) H' }
def wGo (K : PySem.W.Frag) (Wout : WX) (D : Ends) (n : Nat) : List Hd → St → Hp → Prop
  | [], σ, H => Wout (.ref (Ev.clsA K n)) none σ H
  | h :: r, σ, H => ∃ b, PySem.W.exmOne K (.ref (Ev.clsA K n)) h.c = some b ∧
      (b = true → (h.o = none → ∀ a, h.t a D σ H) ∧ ∀ i, h.o = some i → ∀ a, H a = none → h.t a (wipeD D i) (σ.set i (some (.ref a))) (upd H a (Ev.ExO K n a))) ∧ (b = false → wGo K Wout D n r σ H)
def wHs (K : PySem.W.Frag) (Wout : WX) (D : Ends) (l : List Hd) : WX := fun cls d σ H => ∃ n, cls = .ref (Ev.clsA K n) ∧ d = none ∧ wGo K Wout D n l σ H
section
variable {X : Cx} {pins : List (Addr × Obj)} {σ : St} {H : Hp} {s : Shared}
theorem Inv.suite0 (I : Inv X pins σ H s) (a : Addr) : Inv (X.suite a (X.pn ++ pins)) [] σ H s :=
  ⟨I.ok.suite _ _, I.os, I.bare, I.base, I.loc, I.cell, I.free, I.freeC, fun p hp => I.pin p (by rw [List.append_nil] at hp; exact hp), I.hok, I.len⟩
theorem Inv.unsuite0 {a : Addr} {pn' : List (Addr × Obj)} (I : Inv (X.suite a (X.pn ++ pins)) pn' σ H s) (ok : X.Ok) : Inv X pins σ H s :=
  ⟨ok, I.os, I.bare, I.base, I.loc, I.cell, I.free, I.freeC, fun p hp => I.pin p (List.mem_append_left _ hp), I.hok, I.len⟩
/-- a caught exception is tracked -/
theorem Inv.track {a : Addr} {n : Nat} {oe : Obj} {vs : Array Value} (I : Inv X pins σ H s) (na : H a = none) (h0 : ∀ o, X.s_0.heap.get? a ≠ some o) (he : s.heap.get? a = some oe) (hc : oe.cls = .ref (Ev.clsA X.K n)) (hd : oe.dict = none) (hv : oe.data = .fields vs) (hx : vs[2]? = some .none) (nL : a ≠ X.env.locals) (hp : ∀ p ∈ X.pn ++ pins, p.1 ≠ a) :
    Inv X pins σ (upd H a (Ev.ExO X.K n a)) s := by
  refine ⟨I.ok, I.os, I.bare, ⟨I.base.keep, I.base.slot, fun b o e n1 hx => ?_, I.base.there, fun b xs e => ?_, fun b o xs e => ?_, fun b ps e => ?_⟩, I.loc, I.cell, ?_, fun x c e => ?_, fun p h => ?_, fun b o e => ?_, I.len⟩
  · rw [upd_ne (fun z => by subst z; exact h0 o e)]
    exact I.base.free b o e n1 hx
  · have q := I.base.tups b xs e
    rw [upd_ne (fun z => by subst z; rw [na] at q; cases q)]; exact q
  · have q := I.base.frzs b o xs e
    rw [upd_ne (fun z => by subst z; rw [na] at q; cases q)]; exact q
  · obtain ⟨more, q⟩ := I.base.tbls b ps e
    exact ⟨more, by rw [upd_ne (fun z => by subst z; rw [na] at q; cases q)]; exact q⟩
  · rw [upd_ne nL.symm]; exact I.free
  · rw [upd_ne (fun z => ?_)]
    · exact I.freeC x c e
    · subst z
      obtain ⟨v, o, e1, e2⟩ := I.cell x c e
      rw [he] at e1
      cases e1
      rw [hv] at e2
      cases e2
  · obtain ⟨h1, h2, h3⟩ := I.pin p h
    exact ⟨h1, by rw [upd_ne (hp p h)]; exact h2, h3⟩
  · by_cases hb : b = a
    · subst hb
      rw [upd_same] at e
      cases e
      exact ⟨⟨oe, he, hc, hd, vs, hv, hx⟩, ⟨oe, he⟩, fun h1 h2 ⟨oe', q1, q2⟩ k => ⟨oe', k _ q1, q2⟩⟩
    · rw [upd_ne hb] at e
      refine (I.hok b o e).stay (fun _ _ _ q => q) (fun c q => ?_) fun c xs q => ?_
      · rw [upd_ne (fun z => by subst z; rw [na] at q; cases q)]; exact q
      · rw [upd_ne (fun z => by subst z; rw [na] at q; cases q)]; exact q
end
/-- the clauses as they stand -/
inductive HdsX (X : Cx) : List ExceptHandler → List Hd → Prop
  | nil : HdsX X [] []
  | cons {x : Str} {c : Value} {t : Addr → TS} {b₀ : Stmt} {suite : List Stmt} {np pos' : Pos} {hds : List ExceptHandler} {l : List Hd} (hc : Names X x c)
      (hsu : ∀ (a : Addr) (pn : List (Addr × Obj)), PSs (X.suite a pn) (b₀ :: suite) (t a)) (r : HdsX X hds l) :
      HdsX X (.ExceptHandler (some (.Name x np)) none (b₀ :: suite) pos' :: hds) (⟨c, none, t⟩ :: l)
  | named {x y : Str} {c : Value} {i : Nat} {t : Addr → TS} {b₀ : Stmt} {suite : List Stmt} {np pos' : Pos} {hds : List ExceptHandler} {l : List Hd} (hc : Names X x c) (hi : X.N[i]? = some y) (hln : X.env.kindOf y = some .local)
      (hsu : ∀ (a : Addr) (pn : List (Addr × Obj)), PSs (X.suite a pn) (b₀ :: suite) (t a)) (r : HdsX X hds l) :
      HdsX X (.ExceptHandler (some (.Name x np)) (some y) (b₀ :: suite) pos' :: hds) (⟨c, some i, t⟩ :: l)
section
variable {X : Cx} {body : List Stmt} {h₀ : ExceptHandler} {hds : List ExceptHandler} {l : List Hd} {pos : Pos} {tb : WX → TS} {Wout : WX}
theorem ps_tryH (hs : X.stack = X.env :: X.outer) (hf : X.env.frame = some X.env.locals) (hex : X.ex = []) (hN : X.N.Nodup) (tk : L2N.Takes X Wout)
    (hb : ∀ (W : WX) (pn : List (Addr × Obj)) (xe : Value → Shared → Prop), L2N.Takes (X.tr pn xe) W → PassesOwn (model X.prog X.w) X.A X.env xe → PSs (X.tr pn xe) body (tb W))
    (hh : HdsX X (h₀ :: hds) l) : PS X (.Try body (h₀ :: hds) [] [] pos) (fun D σ H => tb (wHs X.K Wout D l) D σ H) := by
  refine ⟨fun pins s σ H D I h => ?_⟩
  have ok := I.ok
  have hfr : X.A.frames = some (X.env :: X.outer) := by rw [ok.frames, hs]
  refine wpAny_Try_except ?_
  refine wpAny_mono ((hb (wHs X.K Wout D l) (X.pn ++ pins) (fun e s₁ => wpAny (model X.prog X.w) X.A (noteFrame e X.env) (fun _ s₂ => wpAny (model X.prog X.w) X.A (setFlight e none) (fun _ s₃ =>
    wpAny (model X.prog X.w) X.A (handleBy e X.env (h₀ :: hds)) (SP X pins D) X.xe s₃) X.xe s₂) X.xe s₁) (fun u s' xx => ?_) PassesOwn.looking).run [] s σ H D (I.toTry _) h) (fun f s1 hsp => ?_) (fun e s1 he => he)
  · obtain ⟨a, B, sI, pins', σ', H', cls, d, rfl, J', nb, up, sky, na, os, ag, w⟩ := xx
    have J : Inv X pins σ' H' sI := J'.ofTry ok
    have sky' : Sky B (X.env :: X.outer) a (L2N.Zn cls d) X.env.locals s'.heap := by rw [← hs]; exact sky
    show wpAny (model X.prog X.w) X.A (noteFrame (.ref a) X.env) _ _ _
    refine L2N.Sky.land L2N.Zn.steady hfr hf sky' fun h3 fl3 up3 => ?_
    have J3 : Inv X pins σ' H' { s' with heap := h3 } := J.landed nb fl3.1 (up.trans up3) os ag
    obtain ⟨oe3, vs3, he3, hz3, hd3⟩ := fl3.there
    have notFr : ∀ {h : Heap} {o : Obj} {vs : Array Value}, h.FunFrames B (X.env :: X.outer) → h.get? a = some o → o.data = .fields vs → a ∉ frs (X.env :: X.outer) := fun {h o vs} ff e dd hm => by
      obtain ⟨_, o', e', hnf⟩ := ff.mem hm
      rw [e] at e'; cases e'
      exact hnf _ dd
    have nfr := notFr fl3.2.2.1 he3 hd3
    have nL : a ≠ X.env.locals := fun z => nfr (List.mem_filterMap.mpr ⟨X.env, List.mem_cons_self, by rw [hf, z]⟩)
    have sa : ∀ o, sI.heap.get? a ≠ some o := fun o e => by
      have := nb a o e (by rw [hs]; exact nfr)
      rw [fl3.2.1] at this
      cases this
    have s0a : ∀ o, X.s_0.heap.get? a ≠ some o := fun o e => by
      obtain ⟨o', e1⟩ := J.base.there a o e (by rw [hex]; simp)
      exact sa o' e1
    have pna : ∀ p ∈ X.pn ++ pins, p.1 ≠ a := fun p hp z => by
      have := (J.pin p hp).1
      rw [z] at this
      exact sa _ this
    obtain ⟨n, rfl, rfl, w⟩ := w
    have go : ∀ {hds' : List ExceptHandler} {l' : List Hd}, HdsX X hds' l' → wGo X.K Wout D n l' σ' H' →
        wpAny (model X.prog X.w) X.A (handleBy (.ref a) X.env hds') (SP X pins D) X.xe { s' with heap := h3 } := by
      intro hds' l' hk
      have LT : PySem.W.Looks (model X.prog X.w) h3 (typeOf (.ref a)) (.ref (Ev.clsA X.K n)) := fun A Q E s k q => wpAny_typeOf_ref (k _ _ he3) (by rw [hz3.1]; exact q)
      have S3 := J3.suite0 a
      have test : ∀ {x : Str} {c : Value} {np : Pos} {Q : Value → Shared → Prop} {E : Value → Shared → Prop}, Names X x c → Q c { s' with heap := h3 } → wpAny (model X.prog X.w) (X.A.mark (some (.ref a))) (eval (.Name x np) X.env) Q E { s' with heap := h3 } := fun {x c np Q E} hc q => by
        obtain ⟨hg, hdbg, hm | ⟨hm, hv, hnn⟩⟩ := hc
        · exact ld_glob (X := X.suite a (X.pn ++ pins)) S3 hg hm q hdbg
        · exact ld_blt (X := X.suite a (X.pn ++ pins)) S3 hg hm hv q hnn hdbg
      induction hk with
      | nil =>
        intro w
        refine wpAny_handleBy_nil ?_
        obtain ⟨k1, k2, k3, oe, vs, T, oT, ts', he, hz, hd, h1, hr⟩ := id fl3
        unfold PySem.passOn
        refine wpAny_bind (wpAny_field he hd h1 ?_)
        rw [if_neg (show ¬ ((Value.ref T == Value.none) = true) from by simp)]
        have fin : wpAny (model X.prog X.w) X.A (setFlight (.ref a) X.env.frame) (fun _ s4 => wpAny (model X.prog X.w) X.A (throw (.ref a) : Sem Flow) (SP X pins D) X.xe s4) X.xe { s' with heap := h3 } := by
          rw [hf]
          refine HandSPX.setFlight_upZ fl3 fun h4 hh4 up4 => wpAny_throw (tk _ _ ?_)
          exact ⟨a, B, sI, pins, σ', H', _, _, rfl, J, nb, (up.trans up3).trans up4, .inr (.inr (by rw [hs]; exact hh4)), na, os, ag, w⟩
        first
          | exact wpAny_bind (wpAny_pure (wpAny_bind fin))
          | exact wpAny_bind fin
      | @cons x c t b₀ suite np pos' hds2 l2 hc hsu r ih =>
        intro w
        obtain ⟨b, hb1, hyes, hno⟩ := w
        refine wpAny_handleBy_cons (codeAny_handlers_test ?_) (by intro q; cases q)
        have LM := PySem.W.exm_one (M := model X.prog X.w) (J3.kIn) LT hb1
        refine test hc (LM.here ?_)
        cases b with
        | true =>
          refine codeAny_handlers_suite ?_
          refine HandSPX.lands_againZ fl3 fun h4 fl4 up4 => ?_
          have J4 : Inv X pins σ' H' { s' with heap := h4 } := J.landed nb fl4.1 ((up.trans up3).trans up4) os ag
          refine wpAny_mono ((hsu a (X.pn ++ pins)).run [] _ _ H' _ (J4.suite0 a) ((hyes rfl).1 rfl a)) (fun f s6 hsp => ?_) (fun _ _ z => False.elim z)
          cases f with
          | next =>
            obtain ⟨σ6, H6, S6, q6⟩ := hsp
            exact ⟨_, _, S6.unsuite0 ok, q6⟩
          | brk =>
            obtain ⟨σ6, H6, S6, q6⟩ := hsp
            exact ⟨_, _, S6.unsuite0 ok, q6⟩
          | cont =>
            obtain ⟨σ6, H6, S6, q6⟩ := hsp
            exact ⟨_, _, S6.unsuite0 ok, q6⟩
          | ret u =>
            obtain ⟨v6, σ6, H6, S6, r6, q6⟩ := hsp
            exact ⟨_, _, _, S6.unsuite0 ok, r6, q6⟩
        | false =>
          show wpAny _ X.A (handleBy (.ref a) X.env hds2) _ _ _
          exact ih (hno rfl)
      | @named x y c i t b₀ suite np pos' hds2 l2 hc hi hln hsu r ih =>
        intro w
        obtain ⟨b, hb1, hyes, hno⟩ := w
        refine wpAny_handleBy_cons (codeAny_handlers_test ?_) (by intro q; cases q)
        have LM := PySem.W.exm_one (M := model X.prog X.w) (J3.kIn) LT hb1
        refine test hc (LM.here ?_)
        cases b with
        | true =>
          refine codeAny_handlers_suite_as ?_
          refine HandSPX.lands_againZ fl3 fun h4 fl4 up4 => ?_
          have J4 : Inv X pins σ' H' { s' with heap := h4 } := J.landed nb fl4.1 ((up.trans up3).trans up4) os ag
          obtain ⟨oe4, vs4, he4, hz4, hd4⟩ := fl4.there
          have T4 := J4.track (n := n) na s0a he4 hz4.1 hz4.2.1 hd4 (hz4.2.2 _ hd4) nL pna
          have S4 := T4.suite0 a
          refine store_ok (X := X.suite a (X.pn ++ pins)) (v := .ref a) S4 hN hi (.inl hln) rfl (fun s5 S5 => ?_) (.inr hln)
          refine wpAny_mono ((hsu a (X.pn ++ pins)).run [] s5 _ _ _ S5 ((hyes rfl).2 i rfl a na)) (fun f s6 hsp => ?_) (fun _ _ z => False.elim z)
          have end_ : ∀ {σ6 : St} {H6 : Hp} {Q : Shared → Prop}, Inv (X.suite a (X.pn ++ pins)) [] σ6 H6 s6 → (∀ s7, Inv X pins (σ6.set i none) H6 s7 → Q s7) →
              wpAny (model X.prog X.w) X.A (do bindName X.env y .none; unbindBehindTheSuite X.env y pos') (fun _ s7 => Q s7) X.xe s6 := fun {σ6 H6 Q} S6 hq => gone_ok (S6.unsuite0 ok) hN hi hln hq
          cases f with
          | next =>
            obtain ⟨σ6, H6, S6, q6⟩ := hsp
            exact end_ S6 fun s7 J7 => ⟨_, _, J7, q6⟩
          | brk =>
            obtain ⟨σ6, H6, S6, q6⟩ := hsp
            exact end_ S6 fun s7 J7 => ⟨_, _, J7, q6⟩
          | cont =>
            obtain ⟨σ6, H6, S6, q6⟩ := hsp
            exact end_ S6 fun s7 J7 => ⟨_, _, J7, q6⟩
          | ret u =>
            obtain ⟨v6, σ6, H6, S6, r6, q6⟩ := hsp
            exact end_ S6 fun s7 J7 => ⟨_, _, _, J7, r6, q6⟩
        | false =>
          show wpAny _ X.A (handleBy (.ref a) X.env hds2) _ _ _
          exact ih (hno rfl)
    exact go hh w
  · cases f with
    | next =>
      obtain ⟨σ', H', J', q⟩ := hsp
      exact wpAny_execs_nil ⟨σ', H', J'.ofTry ok, q⟩
    | brk =>
      obtain ⟨σ', H', J', q⟩ := hsp
      exact ⟨σ', H', J'.ofTry ok, q⟩
    | cont =>
      obtain ⟨σ', H', J', q⟩ := hsp
      exact ⟨σ', H', J'.ofTry ok, q⟩
    | ret u =>
      obtain ⟨v, σ', H', J', r, q⟩ := hsp
      exact ⟨v, σ', H', J'.ofTry ok, r, q⟩
end
end L2

/-! SndQV: try, by the code. -/
namespace Ev
open PySem PySem.Spec PyProof.Rows L2

/-- a suite that changes no list of a slot -/
def suiteOk : Cs → Bool
  | .nil => true
  | .cons (.set _ (.var _)) _ => false
  | .cons (.set _ _) cs => suiteOk cs
  | .cons _ _ => false
theorem suite_mut : ∀ {cs : Cs}, suiteOk cs = true → ∀ j, mutCs cs j = false
  | .nil, _, j => rfl
  | .cons c cs, h, j => by
    cases c with
    | set i e =>
      cases e <;> first
        | (simp [suiteOk] at h; done)
        | (have h2 : suiteOk cs = true := by simpa [suiteOk] using h
           rw [mutCs, suite_mut h2 j]
           simp [mutC])
    | _ => simp [suiteOk] at h
/-- a suite that raises: not walked -/
def rzB : Cs → Bool
  | .cons (.raise _) .nil => true
  | _ => false
noncomputable def hdB (pg : Pg) (cl : CallT) (ow : List Bool) (b : Cs) (env : Env) (S : Sto) : Out := if rzB b = true then .stuck else exCs pg cl ow b env S
/-- what the clauses do -/
noncomputable def hdL (K : PySem.W.Frag) (w : World) (ow : List Bool) (H0 : Hp) (mu : Nat → Bool) (pg : Pg) (cl : CallT) : Hs → List Hd
  | .nil => []
  | .cons c [] b hs => ⟨.ref (clsA K c), none, fun _ => TSv K w ow H0 mu (hdB pg cl ow b)⟩ :: hdL K w ow H0 mu pg cl hs
  | .cons c (i :: _) b hs => ⟨.ref (clsA K c), some i, fun a => TSh a K w ow H0 mu (exCs pg cl ow b)⟩ :: hdL K w ow H0 mu pg cl hs
def hsOk (ow : List Bool) (xs : List Nat) : Hs → Bool
  | .nil => true
  | .cons c [] b hs => xs.contains c && (rzB b || suiteOk b) && hsOk ow xs hs
  | .cons c [i] b hs => xs.contains c && suiteOk b && !own ow i && decide (i < ow.length) && hsOk ow xs hs
  | .cons _ _ _ _ => false
section
variable {K : PySem.W.Frag} {w : World} {W : WX} {ow : List Bool} {H0 H : Hp} {mu : Nat → Bool} {lab : Addr → Option Nat} {r : List Addr} {D : Ends} {env : Env} {σ : L2.St} {pg : Pg} {cl : CallT} {S : Sto}
theorem RelS.wipe {i : Nat} (h : RelS K w ow H0 r lab env σ H) (ho : own ow i = false) : RelS K w ow H0 r lab (env.set i none) (σ.set i none) H where
  at_ := fun j x e => by
    rcases set_get e with ⟨rfl, e2⟩ | ⟨ne, e⟩
    · cases e2
    · obtain ⟨v, F, h1, h2⟩ := h.at_ j x e
      exact ⟨v, F, by rw [List.getElem?_set_ne (fun z => ne z.symm)]; exact h1, h2⟩
  new := h.new
  up := h.up
  len := by rw [List.length_set]; exact h.len
theorem suite_raise {b : Cs} (h : suiteOk b = true) {c2 : Nat} : b ≠ .cons (.raise c2) .nil := fun e => by subst e; cases h
theorem go_hs {c : Nat} {xs : List Nat} {mg : Str → Option Value} (xc : XcOk K mg xs) (hc : c ∈ xs) (R : RelS K w ow H0 r lab env σ H) (RS : RSto K w H r S) : ∀ (hs : Hs), hsOk ow xs hs = true → FinX K w W ow H0 mu lab H r (exHs pg cl ow hs c env S) D → wGo K W D c (hdL K w ow H0 mu pg cl hs) σ H
  | .nil, _, fin => by
    rw [exHs] at fin
    exact fin σ H r lab R RS .refl
  | .cons c' [] b hs, h, fin => by
    rw [hsOk, Bool.and_eq_true, Bool.and_eq_true] at h
    obtain ⟨⟨h1, h2⟩, h3⟩ := h
    have hm : c' ∈ xs := by simpa using h1
    rw [hdL]
    refine ⟨subc c c', xc.exm c hc c' hm, fun q => ⟨fun _ _ => ⟨env, S, r, lab, R, RS, ?_⟩, fun i e => (by cases e)⟩, fun q => ?_⟩
    · rw [exHs.eq_def] at fin
      simp only [q, if_true] at fin
      split at fin
      · exact False.elim fin
      · rename_i hnr
        have hz : rzB b = false := by
          cases b with
          | nil => rfl
          | cons c cs =>
            cases c <;> first
              | rfl
              | (cases cs with
                 | nil => exact absurd rfl (hnr _)
                 | cons _ _ => rfl)
        have hb : hdB pg cl ow b env S = exCs pg cl ow b env S := by unfold hdB; rw [hz]; rfl
        rw [hb]
        cases o : exCs pg cl ow b env S with
        | ok f e2 S2 => rw [o] at fin; exact fin
        | exc c2 e2 S2 => rw [o] at fin; exact fin
        | stuck => rw [o] at fin; exact fin
    · rw [exHs.eq_def] at fin
      simp only [q] at fin
      exact go_hs xc hc R RS hs h3 fin
  | .cons c' [i] b hs, h, fin => by
    rw [hsOk, Bool.and_eq_true, Bool.and_eq_true, Bool.and_eq_true, Bool.and_eq_true, decide_eq_true_eq, Bool.not_eq_true'] at h
    obtain ⟨⟨⟨⟨h1, h2⟩, ho⟩, hi⟩, h3⟩ := h
    have hm : c' ∈ xs := by simpa using h1
    rw [hdL]
    refine ⟨subc c c', xc.exm c hc c' hm, fun q => ⟨fun e => (by cases e), fun j e a na => ?_⟩, fun q => ?_⟩
    · cases e
      rw [exHs.eq_def] at fin
      simp only [q, if_true] at fin
      have sm : Same H (upd H a (ExO K c a)) := same_upd na
      have st : Stp H (upd H a (ExO K c a)) r (r ++ [a]) := (Stp.same sm).push na
      have R1 := R.step st
      have R2 : RelS K w ow H0 (r ++ [a]) lab (env.set i (some (.ref S.length))) (σ.set i (some (.ref a))) (upd H a (ExO K c a)) := R1.bind (by rw [R.len]; exact hi) ho (.ref (get_push r a RS.len)) (by simp) (by simp)
      refine ⟨env.set i (some (.ref S.length)), S ++ [.xo c], r ++ [a], lab, ⟨S.length, c, by simp, get_push r a RS.len⟩, R2, (RS.same sm).push (show RepOb K w (upd H a (ExO K c a)) (r ++ [a]) (.xo c) a from upd_same) (RS.nmem na), ?_⟩
      have f2 := fin.pre (StS.stp (mu := mu) (lab := lab) st)
      cases o : exCs pg cl ow b (env.set i (some (.ref S.length))) (S ++ [.xo c]) with
      | ok f e2 S2 =>
        rw [o] at f2
        cases f with
        | nx => exact fun σ' H' r' lab' a1 b1 c1 => f2 (σ'.set i none) H' r' lab' (a1.wipe ho) b1 c1
        | rt v => exact f2
      | exc c2 e2 S2 => rw [o] at f2; exact f2
      | stuck => rw [o] at f2; exact f2
    · rw [exHs.eq_def] at fin
      simp only [q] at fin
      exact go_hs xc hc R RS hs h3 fin
  | .cons c' (i :: j :: js) b hs, h, fin => by rw [hsOk] at h; cases h; all_goals simp
end
section
variable {X : Cx} {W : WX} {pos : Pos} {pg : Pg} {cl : CallT} {ow : List Bool} {H0 : Hp} {mu : Nat → Bool}
theorem y_try {k : Ck} {sb : List Stmt} {b : Cs} {hs : Hs} {h₀ : ExceptHandler} {hds : List ExceptHandler} (xc : XcOk X.K X.mg k.xs) (hxs : pg.xs = k.xs) (hstk : X.stack = X.env :: X.outer) (hf : X.env.frame = some X.env.locals) (hex : X.ex = []) (hN : X.N.Nodup) (tk : L2N.Takes X W)
    (hb : ∀ (W' : WX) (pn : List (Addr × Obj)) (xe : Value → Shared → Prop), L2N.Takes (X.tr pn xe) W' → PassesOwn (model X.prog X.w) X.A X.env xe → PSs (X.tr pn xe) sb (TSx X.K X.w W' ow H0 mu (exCs pg cl ow b)))
    (hok : hsOk ow k.xs hs = true) (hh : HdsX X (h₀ :: hds) (hdL X.K X.w ow H0 mu pg cl hs)) : PS X (.Try sb (h₀ :: hds) [] [] pos) (TSx X.K X.w W ow H0 mu (exC pg cl ow (.tryS b hs))) :=
  ps_w (ps_tryH (tb := fun W' => TSx X.K X.w W' ow H0 mu (exCs pg cl ow b)) hstk hf hex hN tk hb hh) fun D σ H ⟨env, S, r, lab, R, RS, fin⟩ => by
    refine ⟨env, S, r, lab, R, RS, ?_⟩
    rw [exC] at fin
    cases o : exCs pg cl ow b env S with
    | ok f e2 S2 => rw [o] at fin; exact fin
    | stuck => rw [o] at fin; exact fin
    | exc c e2 S2 =>
      rw [o] at fin
      obtain ⟨g, fin⟩ := finx_if fin
      have hc : c ∈ k.xs := by rw [hxs] at g; simpa using g
      exact fun σ' H' r' lab' R' RS' st => ⟨c, rfl, rfl, go_hs xc hc R' RS' hs hok (fin.pre st)⟩
end
end Ev

/-! SndQW: a block that may raise and that looks like its text. -/
namespace Ev
open PySem PySem.Spec PyProof.Rows L2

structure Gx (X : Cx) (W : WX) (pg : Pg) (cl : CallT) (k : Ck) (fo mo : Nat → Bool) : Prop extends Gs X pg cl k where
  tk : L2N.Takes X W
  stk : X.stack = X.env :: X.outer
  frm : X.env.frame = some X.env.locals
  exn : X.ex = []
  exF : ExcBaseFacts "ValueError" "ValueError.__new__" "ValueError.__init__" He.veBase
  nf : ∀ f, fo f = true → ∀ vs S, NX (cl f vs S)
  nm : ∀ m, mo m = true → ∀ c f, pg.meth c m = some f → fo f = true
/-- a block whose expressions may raise; tp: a def's own block, not a comprehension's -/
structure Gy (X : Cx) (W : WX) (pg : Pg) (cl : CallT) (k : Ck) (fo mo : Nat → Bool) (tp : Bool) : Prop extends Gv X pg cl k where
  pa : ∀ σ, PassesAt (L2N.CX X.prog X.w) X σ (WE W σ)
  nf : ∀ f, fo f = true → ∀ vs S, NX (cl f vs S)
  nm : ∀ m, mo m = true → ∀ c f, pg.meth c m = some f → fo f = true
  top : tp = true → L2N.Takes X W ∧ X.stack = X.env :: X.outer ∧ X.env.frame = some X.env.locals
theorem Gx.toGy {X : Cx} {W : WX} {pg : Pg} {cl : CallT} {k : Ck} {fo mo : Nat → Bool} (g : Gx X W pg cl k fo mo) : Gy X W pg cl k fo mo true := { toGv := g.toGv, pa := L2N.passAt g.tk, nf := g.nf, nm := g.nm, top := fun _ => ⟨g.tk, g.stk, g.frm⟩ }
theorem Gv.tr {X : Cx} {pg : Pg} {cl : CallT} {k : Ck} (g : Gv X pg cl k) (pn : List (Addr × Obj)) (xe : Value → Shared → Prop) : Gv (X.tr pn xe) pg cl k :=
  ⟨g.N, g.nd, g.calm, g.un, g.room, g.fld, g.bt, g.con, g.xc, g.xe, g.cm⟩
mutual
/-- an exception may pass here -/
def xE (fo mo : Nat → Bool) : E → Bool → Bool
  | .call _ es, tp => xS fo mo es tp
  | .meth a _ es, tp => nxE fo mo a && xS fo mo es tp
  | .tup es, tp => xS fo mo es tp
  | .lst es, tp => xS fo mo es tp
  | .ix a i, tp => xE fo mo a tp && nxE fo mo i
  | .blt _ es, tp => xS fo mo es tp
  | .box a, tp => xE fo mo a tp
  | .make _ m es, tp => mo m && xS fo mo es tp
  | .comp x _ it cs, tp => (nxE fo mo x && nxI fo mo it && nxS fo mo cs) || (tp && nxI fo mo it && nxS fo mo cs && xE fo mo x false)
  | e, _ => nxE fo mo e
def xS (fo mo : Nat → Bool) : Es → Bool → Bool
  | .nil, _ => true
  | .cons e es, tp => xE fo mo e tp && xS fo mo es tp
end
section
variable {pg : Pg} {cl : CallT} {k : Ck} {fo mo : Nat → Bool}
mutual
theorem snd_EX : ∀ (c : E) (X : Cx) (W : WX) (tp : Bool) (g : Gy X W pg cl k fo mo tp) (e : Expr), xE fo mo c tp = true → chkE k c X.env.scope e = true → PEx X W pg cl c e
  | .call f es, X, W, tp, g, e, hx, h => by
    rw [xE] at hx
    simp only [chkE] at h
    rw [Bool.and_eq_true] at h
    obtain ⟨hcal, h⟩ := h
    split at h
    · rename_i x p args pos
      rw [Bool.and_eq_true, Bool.and_eq_true, Bool.and_eq_true, decide_eq_true_eq] at h
      obtain ⟨⟨⟨h1, h2⟩, h3⟩, h4⟩ := h
      obtain ⟨j, hr1, hcl, _⟩ := g.room hcal
      have hr := hr1.mono (Nat.le_succ j)
      have st := chkS_stars h4
      have qa := snd_SX es X W tp g _ hx h4
      cases args with
      | nil =>
        cases es with
        | nil => exact x_call0 g.pa (hcl _ _ h2) hr (Nat.le_refl _) (gl_of h1) (dbg_of h3).1
        | cons c cs => simp [chkS] at h4
      | cons a args =>
        rw [List.all_cons, Bool.and_eq_true] at st
        exact x_call g.pa (hcl _ _ h2) hr (Nat.le_refl _) (gl_of h1) qa (dbg_of h3).1 (star_one st.1 _ _) (star_plain st.2)
    · cases h
  | .meth a m es, X, W, tp, g, e, hx, h => by
    rw [xE, Bool.and_eq_true] at hx
    simp only [chkE] at h
    rw [Bool.and_eq_true] at h
    obtain ⟨hcal, h⟩ := h
    split at h
    · rename_i o n apos args cpos
      rw [Bool.and_eq_true, Bool.and_eq_true, Bool.and_eq_true, Bool.and_eq_true, Bool.and_eq_true, decide_eq_true_eq, decide_eq_true_eq] at h
      obtain ⟨⟨⟨⟨⟨h1, rfl⟩, h2⟩, h3⟩, h0⟩, h4⟩ := h
      obtain ⟨j, hr1, _, hM, _⟩ := g.room hcal
      have hr := hr1.mono (Nat.le_succ j)
      have hv := (snd_E a X g.toGv _ h0).1
      have nv := nx_E g.nf g.nm a hx.1
      have qa := snd_SX es X W tp g _ hx.2 h4
      have st := chkS_stars h4
      cases args with
      | nil =>
        cases es with
        | nil => exact x_meth0 g.pa h1 hM hr hv nv h2
        | cons c cs => simp [chkS] at h4
      | cons a' args =>
        have st2 := st
        rw [List.all_cons, Bool.and_eq_true] at st
        exact x_meth g.pa h1 hM hr hv nv qa (star_one st.1 _ _) (star_plain st.2) st2 h3 h2
    · cases h
  | .tup es, X, W, tp, g, e, hx, h => by
    rw [xE] at hx
    simp only [chkE] at h
    split at h
    · rw [Bool.and_eq_true, decide_eq_true_eq] at h
      exact x_tup (snd_KX es X W tp g _ hx h.2) h.1
    · cases h
  | .lst es, X, W, tp, g, e, hx, h => by
    rw [xE] at hx
    simp only [chkE] at h
    split at h
    · rw [Bool.and_eq_true, decide_eq_true_eq] at h
      exact x_lst (snd_KX es X W tp g _ hx h.2) h.1
    · cases h
  | .ix a i, X, W, tp, g, e, hx, h => by
    rw [xE, Bool.and_eq_true] at hx
    simp only [chkE] at h
    split at h
    · rw [Bool.and_eq_true, Bool.and_eq_true] at h
      exact x_ix g.hu (snd_EX a X W tp g _ hx.1 h.1.2) (snd_E i X g.toGv _ h.2).1 (nx_E g.nf g.nm i hx.2) (plain_ix h.1.1)
    · cases h
  | .blt b es, X, W, tp, g, e, hx, h => by
    rw [xE] at hx
    simp only [chkE] at h
    split at h
    · rw [Bool.and_eq_true, Bool.and_eq_true, Bool.and_eq_true, decide_eq_true_eq] at h
      obtain ⟨hcal, ⟨rfl, h1⟩, h2⟩ := h
      have st := chkS_stars h2
      rw [List.all_cons, Bool.and_eq_true] at st
      exact x_blt g.hu (g.calm hcal) (gl_of h1) (g.bt _ (bt_free b)) (snd_SX es X W tp g _ hx h2) (star_one st.1 _ _) (star_plain st.2)
    · cases h
  | .box a, X, W, tp, g, e, hx, h => by
    rw [xE] at hx
    simp only [chkE] at h
    exact x_box (snd_EX a X W tp g e hx h)
  | .var i, X, W, tp, g, e, hx, h => x_lift (snd_E _ X g.toGv e h).1 (nx_E g.nf g.nm _ (by simpa only [xE] using hx))
  | .int i, X, W, tp, g, e, hx, h => x_lift (snd_E _ X g.toGv e h).1 (nx_E g.nf g.nm _ (by simpa only [xE] using hx))
  | .str i, X, W, tp, g, e, hx, h => x_lift (snd_E _ X g.toGv e h).1 (nx_E g.nf g.nm _ (by simpa only [xE] using hx))
  | .bl i, X, W, tp, g, e, hx, h => x_lift (snd_E _ X g.toGv e h).1 (nx_E g.nf g.nm _ (by simpa only [xE] using hx))
  | .non, X, W, tp, g, e, hx, h => x_lift (snd_E _ X g.toGv e h).1 (nx_E g.nf g.nm _ (by simpa only [xE] using hx))
  | .glob i, X, W, tp, g, e, hx, h => x_lift (snd_E _ X g.toGv e h).1 (nx_E g.nf g.nm _ (by simpa only [xE] using hx))
  | .bin _ _ _, X, W, tp, g, e, hx, h => x_lift (snd_E _ X g.toGv e h).1 (nx_E g.nf g.nm _ (by simpa only [xE] using hx))
  | .neg _, X, W, tp, g, e, hx, h => x_lift (snd_E _ X g.toGv e h).1 (nx_E g.nf g.nm _ (by simpa only [xE] using hx))
  | .cmp _ _ _, X, W, tp, g, e, hx, h => x_lift (snd_E _ X g.toGv e h).1 (nx_E g.nf g.nm _ (by simpa only [xE] using hx))
  | .chain _ _ _ _ _, X, W, tp, g, e, hx, h => x_lift (snd_E _ X g.toGv e h).1 (nx_E g.nf g.nm _ (by simpa only [xE] using hx))
  | .andE _, X, W, tp, g, e, hx, h => x_lift (snd_E _ X g.toGv e h).1 (nx_E g.nf g.nm _ (by simpa only [xE] using hx))
  | .orE _, X, W, tp, g, e, hx, h => x_lift (snd_E _ X g.toGv e h).1 (nx_E g.nf g.nm _ (by simpa only [xE] using hx))
  | .not _, X, W, tp, g, e, hx, h => x_lift (snd_E _ X g.toGv e h).1 (nx_E g.nf g.nm _ (by simpa only [xE] using hx))
  | .ifx _ _ _, X, W, tp, g, e, hx, h => x_lift (snd_E _ X g.toGv e h).1 (nx_E g.nf g.nm _ (by simpa only [xE] using hx))
  | .dic _ _, X, W, tp, g, e, hx, h => x_lift (snd_E _ X g.toGv e h).1 (nx_E g.nf g.nm _ (by simpa only [xE] using hx))
  | .sl _ _ _, X, W, tp, g, e, hx, h => x_lift (snd_E _ X g.toGv e h).1 (nx_E g.nf g.nm _ (by simpa only [xE] using hx))
  | .comp x j it cs, X, W, tp, g, e, hx, h => by
    by_cases hn : nxE fo mo (.comp x j it cs) = true
    · exact x_lift (snd_E _ X g.toGv e h).1 (nx_E g.nf g.nm _ hn)
    · rw [xE, Bool.or_eq_true] at hx
      rcases hx with hx | hx
      · exact absurd (by rw [nxE]; exact hx) hn
      · rw [Bool.and_eq_true, Bool.and_eq_true, Bool.and_eq_true] at hx
        obtain ⟨⟨⟨x1, x2⟩, x3⟩, x4⟩ := hx
        simp only [chkE] at h
        rw [Bool.and_eq_true] at h
        obtain ⟨hcal, h⟩ := h
        split at h
        · rename_i el y p iter ifs as scope pos
          rw [Bool.and_eq_true, Bool.and_eq_true, Bool.and_eq_true, Bool.and_eq_true, Bool.and_eq_true, Bool.and_eq_true, decide_eq_true_eq] at h
          obtain ⟨⟨⟨⟨⟨⟨rfl, h1⟩, h2⟩, h3⟩, h4⟩, h5⟩, h6⟩ := h
          obtain ⟨tk, st, fr⟩ := g.top x1
          exact (x_comp (p1 := p) (pos := pos) (g.calm hcal) g.nd st fr tk (snd_I it X g.toGv _ _ h4) (nx_I g.nf g.nm it x2) (nx_C g.nf g.nm cs x3) (g.N ▸ h1) h2 (fun s H C cl' fp => snd_T cs (blkX X _ s H C cl' fp) (g.toGv.blk _ s H C cl' fp) _ h5)
            (fun s H C cl' fp pn xe Wb pa => snd_EX x ((blkX X _ s H C cl' fp).tr pn xe) Wb false { toGv := (g.toGv.blk _ s H C cl' fp).tr pn xe, pa := pa, nf := g.nf, nm := g.nm, top := fun z => nomatch z } _ x4 h6) h3).1
        · cases h
  | .bltI _ _, X, W, tp, g, e, hx, h => x_lift (snd_E _ X g.toGv e h).1 (nx_E g.nf g.nm _ (by simpa only [xE] using hx))
  | .isi _ _, X, W, tp, g, e, hx, h => x_lift (snd_E _ X g.toGv e h).1 (nx_E g.nf g.nm _ (by simpa only [xE] using hx))
  | .mt _ _ _, X, W, tp, g, e, hx, h => x_lift (snd_E _ X g.toGv e h).1 (nx_E g.nf g.nm _ (by simpa only [xE] using hx))
  | .mu _ _ _, X, W, tp, g, e, hx, h => x_lift (snd_E _ X g.toGv e h).1 (nx_E g.nf g.nm _ (by simpa only [xE] using hx))
  | .fld _ _, X, W, tp, g, e, hx, h => x_lift (snd_E _ X g.toGv e h).1 (nx_E g.nf g.nm _ (by simpa only [xE] using hx))
  | .make c m es, X, W, tp, g, e, hx, h => by
    rw [xE, Bool.and_eq_true] at hx
    simp only [chkE] at h
    rw [Bool.and_eq_true] at h
    obtain ⟨hcal, h⟩ := h
    split at h
    · rename_i x p a args pos
      rw [Bool.and_eq_true, Bool.and_eq_true, Bool.and_eq_true, Bool.and_eq_true, decide_eq_true_eq, decide_eq_true_eq] at h
      obtain ⟨⟨⟨⟨rfl, hm⟩, h1⟩, h2⟩, h3⟩ := h
      obtain ⟨j, hr1, _, _, hK⟩ := g.room hcal
      have st := chkS_stars h3
      rw [List.all_cons, Bool.and_eq_true] at st
      cases hf : pg.meth c m with
      | none =>
        refine pe_w (PE.never (.Call (.Name (clsS c) p) (a :: args) [] pos)) fun σ H Q ⟨env, S, r, RE, RS, q⟩ => ?_
        rcases q with ⟨x, S', ev, k⟩ | ⟨cc, S', ev, k⟩ <;> (simp only [evE, hf, of, bind_stuck] at ev; cases ev)
      | some f =>
        obtain ⟨hg, hk⟩ := hK c m f hf hm
        exact x_make hf (g.nf f (g.nm m hx.1 c f hf)) hk hr1 (gl_of h1) hg (snd_SX es X W tp g _ hx.2 h3) (dbg_of h2).1 (star_one st.1 _ _) (star_plain st.2)
    · cases h
  | .newN, X, W, tp, g, e, hx, h => x_lift (snd_E _ X g.toGv e h).1 (nx_E g.nf g.nm _ (by simpa only [xE] using hx))
  | .nget _ _, X, W, tp, g, e, hx, h => x_lift (snd_E _ X g.toGv e h).1 (nx_E g.nf g.nm _ (by simpa only [xE] using hx))
  | .srt _, X, W, tp, g, e, hx, h => x_lift (snd_E _ X g.toGv e h).1 (nx_E g.nf g.nm _ (by simpa only [xE] using hx))
  | .nhas _ _ _, X, W, tp, g, e, hx, h => x_lift (snd_E _ X g.toGv e h).1 (nx_E g.nf g.nm _ (by simpa only [xE] using hx))
  | .cmpD _ _ _, X, W, tp, g, e, hx, h => x_lift (snd_E _ X g.toGv e h).1 (nx_E g.nf g.nm _ (by simpa only [xE] using hx))
  | .compR _ _ _ _, X, W, tp, g, e, hx, h => x_lift (snd_E _ X g.toGv e h).1 (nx_E g.nf g.nm _ (by simpa only [xE] using hx))
  | .callM _ _ _, X, W, tp, g, e, hx, h => x_lift (snd_E _ X g.toGv e h).1 (nx_E g.nf g.nm _ (by simpa only [xE] using hx))
  | .tupN _, X, W, tp, g, e, hx, h => x_lift (snd_E _ X g.toGv e h).1 (nx_E g.nf g.nm _ (by simpa only [xE] using hx))
  | .isx _ _, X, W, tp, g, e, hx, h => x_lift (snd_E _ X g.toGv e h).1 (nx_E g.nf g.nm _ (by simpa only [xE] using hx))
  | .nx _, X, W, tp, g, e, hx, h => x_lift (snd_E _ X g.toGv e h).1 (nx_E g.nf g.nm _ (by simpa only [xE] using hx))
theorem snd_SX : ∀ (cs : Es) (X : Cx) (W : WX) (tp : Bool) (g : Gy X W pg cl k fo mo tp) (es : List Expr), xS fo mo cs tp = true → chkS k cs X.env.scope es = true → PA X es (TAvX X.K X.w W (evS pg cl cs) false)
  | .nil, X, W, tp, g, es, hx, h => by
    simp only [chkS, List.isEmpty_iff] at h
    subst h
    exact xa_nil
  | .cons c cs, X, W, tp, g, es, hx, h => by
    rw [xS, Bool.and_eq_true] at hx
    unfold chkS at h
    split at h
    · rw [Bool.and_eq_true, Bool.and_eq_true] at h
      exact xa_cons (snd_EX c X W tp g _ hx.1 h.1.2) (snd_SX cs X W tp g _ hx.2 h.2) (star_one h.1.1 _ _)
    · cases h
theorem snd_KX : ∀ (cs : Es) (X : Cx) (W : WX) (tp : Bool) (g : Gy X W pg cl k fo mo tp) (es : List Expr), xS fo mo cs tp = true → chkS k cs X.env.scope es = true → PA X es (TAvX X.K X.w W (evK pg cl cs) true)
  | .nil, X, W, tp, g, es, hx, h => by
    simp only [chkS, List.isEmpty_iff] at h
    subst h
    exact xk_nil
  | .cons c cs, X, W, tp, g, es, hx, h => by
    rw [xS, Bool.and_eq_true] at hx
    unfold chkS at h
    split at h
    · rw [Bool.and_eq_true, Bool.and_eq_true] at h
      exact xk_cons (snd_EX c X W tp g _ hx.1 h.1.2) (snd_KX cs X W tp g _ hx.2 h.2) (star_one h.1.1 _ _)
    · cases h
end
end
end Ev

/-! SndQX: the look at blocks that may raise. -/
namespace Ev
open PySem PySem.Spec PyProof.Rows L2

def isTupE : E → Bool
  | .tup _ => true
  | _ => false
def chkH (k : Ck) (ow : List Bool) (sc : Scope) : Hs → List ExceptHandler → Bool
  | .nil, hds => hds.isEmpty
  | .cons c [] b hs, hds => match hds with
    | .ExceptHandler (some (.Name x _)) none (b₀ :: suite) _ :: r => decide (x = clsS c) && glC sc x && noDbg x && (rzB b || chkCs { k with cal := false } ow b sc (b₀ :: suite)) && chkH k ow sc hs r
    | _ => false
  | .cons c (i :: _) b hs, hds => match hds with
    | .ExceptHandler (some (.Name x _)) (some y) (b₀ :: suite) _ :: r => decide (x = clsS c) && glC sc x && noDbg x && decide (k.N[i]? = some y) && decide (sc.names.lookup y = some .local) && (chkCs { k with cal := false } ow b sc (b₀ :: suite) || hotCs { k with cal := false } sc b (b₀ :: suite)) && chkH k ow sc hs r
    | _ => false
/-- a comprehension's code, perhaps put into the store -/
def isLc : E → Bool
  | .comp _ _ _ _ => true
  | .box (.comp _ _ _ _) => true
  | _ => false
def tupEs : E → Es
  | .tup es => es
  | _ => .nil
mutual
def chkX (k : Ck) (ow : List Bool) (fo mo : Nat → Bool) : C → Scope → Stmt → Bool
  | .set i c, sc, st => xE fo mo c true && (match st with
    | .Assign [.Name x py] v _ => decide (k.N[i]? = some x) && locF sc x && chkE k c sc v && (noComp v || isLc c)
    | _ => false)
  | .exp c, sc, st => xE fo mo c true && (match st with
    | .Expr e _ => noComp e && chkE k c sc e
    | _ => false)
  | .ret c, sc, st => xE fo mo c true && (!isTupE c || (mvs ow (tupEs c)).isEmpty) && (match st with
    | .Return (some e) _ => chkE k c sc e
    | _ => false)
  | .ite c a b, sc, st => nxE fo mo c && (match st with
    | .If e sa sb _ => tstOk c && chkE k c sc e && chkXs k ow fo mo a sc sa && chkXs k ow fo mo b sc sb
    | _ => false)
  | .raise n, sc, st => k.cal && raiseC k n sc st
  | .tryS b hs, sc, st => match st with
    | .Try sb hds [] [] _ => hsOk ow k.xs hs && chkXs k ow fo mo b sc sb && !hds.isEmpty && chkH k ow sc hs hds
    | _ => false
  | .forS t it b, sc, st => nxI fo mo it && (match st with
    | .For tg e sb [] _ => k.cal && (tgOk ow ow.length t && tgC k sc t tg && chkI k it sc tg e && noSet e && ((match itVar it with | some i => !mutCs b i | none => false) || ((itVar it).isNone && (itNew it || itDyn it))) && chkXs k ow fo mo b sc sb)
    | _ => false)
  | .forR t a b, sc, st => nxE fo mo a && (match st with
    | .For tg e sb [] _ => k.cal && (tgOk ow ow.length t && tgC k sc t tg && chkE k a sc e && noSet e && chkXs k ow fo mo b sc sb)
    | _ => false)
  | .whl c b, sc, st => nxE fo mo c && (match st with
    | .While e sb [] _ => tstOk c && chkE k c sc e && chkXs k ow fo mo b sc sb
    | _ => false)
  | _, _, _ => false
def chkXs (k : Ck) (ow : List Bool) (fo mo : Nat → Bool) : Cs → Scope → List Stmt → Bool
  | .nil, sc, l => l.isEmpty
  | .cons c cs, sc, l => match l with
    | st :: sts => ((nxC fo mo c && chkC k ow c sc st) || chkX k ow fo mo c sc st) && chkXs k ow fo mo cs sc sts
    | [] => false
end
section
variable {pg : Pg} {cl : CallT} {k : Ck} {ow : List Bool} {H0 : Hp} {fo mo : Nat → Bool}
theorem asg_lift {X : Cx} {W : WX} {st : Stmt} {f : Env → Sto → Res (Val × Sto)} {fr : Bool} {i : Nat} (h : PS X st (tAsg (TEv X.K X.w f fr) (gName i))) (n : ∀ env S, NX (f env S)) : PS X st (tAsg (TEvX X.K X.w W f fr) (gName i)) :=
  ps_w h fun D σ H ⟨env, S, r, RE, RS, q⟩ => by
    rcases q with ⟨x, S', ev, k⟩ | ⟨c, S', ev, k⟩
    · exact ⟨env, S, r, x, S', RE, RS, ev, k⟩
    · exact absurd ev ((n env S).ne c S')
theorem box_impX {X : Cx} {W : WX} {ca : E} {σ : L2.St} {H : Hp} {Q : VK} (h : TEvX X.K X.w W (evE pg cl (.box ca)) true σ H Q) : TEvX X.K X.w W (evE pg cl ca) (fresh ca) σ H Q := by
  obtain ⟨env, S, r, RE, RS, q⟩ := h
  rcases q with ⟨x, S', ev, k⟩ | ⟨c, S', ev, k⟩
  · exact (box_imp ⟨env, S, r, x, S', RE, RS, ev, k⟩).toX
  · simp only [evE] at ev
    rcases exc_bind ev with e1 | ⟨p, e1, ev⟩
    · exact ⟨env, S, r, RE, RS, .inr ⟨c, S', e1, k⟩⟩
    · exact absurd ev ((NX.bind (nx_boxO _) fun v => NX.guard (.ok _)).ne _ _)
/-- x = [..], the item may raise -/
theorem comp_setX {X : Cx} {W : WX} (g : Gx X W pg cl k fo mo) {x : E} {j : Nat} {it : It} {cs : Es} {y : Str} {p : Pos} {el iter : Expr} {ifs : List Expr} {as : Int} {scope : Scope} {pos : Pos} (hx : xE fo mo (.comp x j it cs) true = true) (h : chkE k (.comp x j it cs) X.env.scope (.ListComp el [⟨.Name y p, iter, ifs, as⟩] scope pos) = true) :
    ∀ (i : Nat) (z : Str) (pz spos : Pos), X.N[i]? = some z → X.env.scope.names.lookup z = some .local → swapsWith (.ListComp el [⟨.Name y p, iter, ifs, as⟩] scope pos) (some (.Name z pz)) spos.line X.env = pure true →
      PS X (.Assign [.Name z pz] (.ListComp el [⟨.Name y p, iter, ifs, as⟩] scope pos) spos) (tAsg (TEvX X.K X.w W (evE pg cl (.comp x j it cs)) true) (gName i)) := by
  intro i z pz spos q1 q2 q3
  by_cases hn : nxE fo mo (.comp x j it cs) = true
  · exact asg_lift (comp_both g.toGv (c := .comp x j it cs) h i z pz spos q1 q2 q3) (nx_E g.nf g.nm _ hn)
  rw [xE, Bool.or_eq_true] at hx
  rcases hx with hx | hx
  · exact absurd (by rw [nxE]; exact hx) hn
  rw [Bool.and_eq_true, Bool.and_eq_true, Bool.and_eq_true] at hx
  obtain ⟨⟨⟨x1, x2⟩, x3⟩, x4⟩ := hx
  simp only [chkE] at h
  rw [Bool.and_eq_true, Bool.and_eq_true, Bool.and_eq_true, Bool.and_eq_true, Bool.and_eq_true, Bool.and_eq_true, Bool.and_eq_true, decide_eq_true_eq] at h
  obtain ⟨hcal, ⟨⟨⟨⟨⟨rfl, h1⟩, h2⟩, h3⟩, h4⟩, h5⟩, h6⟩ := h
  exact (x_comp (p1 := p) (pos := pos) (g.calm hcal) g.nd g.stk g.frm g.tk (snd_I it X g.toGv _ _ h4) (nx_I g.nf g.nm it x2) (nx_C g.nf g.nm cs x3) (g.N ▸ h1) h2 (fun s H C cl' fp => snd_T cs (blkX X _ s H C cl' fp) (g.toGv.blk _ s H C cl' fp) _ h5)
    (fun s H C cl' fp pn xe Wb pa => snd_EX x ((blkX X _ s H C cl' fp).tr pn xe) Wb false { toGv := (g.toGv.blk _ s H C cl' fp).tr pn xe, pa := pa, nf := g.nf, nm := g.nm, top := fun z => nomatch z } _ x4 h6) h3).2 i z pz spos q1 q2 q3
/-- a tuple that gives nothing away -/
theorem evM_K : ∀ (es : Es), mvs ow es = [] → ∀ env S, evM pg cl ow es env S = evK pg cl es env S
  | .nil, _, env, S => by simp only [evM, evK]
  | .cons e es, h, env, S => by
    have hm : isMv ow e = false ∧ mvs ow es = [] := by
      cases e <;> first
        | (simp only [mvs] at h; exact ⟨rfl, h⟩)
        | (simp only [mvs] at h
           split at h
           · cases h
           · rename_i q
             exact ⟨by simpa [isMv] using q, h⟩)
    simp only [evM, evK, hm.1, Bool.false_or, evM_K es hm.2]
theorem y_retT {X : Cx} {W : WX} {mu : Nat → Bool} {e : Expr} {pos : Pos} {es : Es} (h : PEx X W pg cl (.tup es) e) (hm : mvs ow es = []) : PS X (.Return (some e) pos) (TSx X.K X.w W ow H0 mu (exC pg cl ow (.ret (.tup es)))) := by
  refine ⟨fun pins s σ H D I ⟨env, S, r, lab, R, RS, fin⟩ => ?_⟩
  have e0 : exC pg cl ow (.ret (.tup es)) env S = (evE pg cl (.tup es) env S).then env fun p => .ok (.rt p.1) env p.2 := by
    simp only [exC, evE, hm, List.nodup_nil, if_true, evM_K es hm]
    cases evK pg cl es env S <;> rfl
  rw [e0] at fin
  rcases finx_then fin with ⟨p, ev, fin⟩ | ⟨cc, S', ev, fin⟩
  · refine (ps_ret h).run pins s σ H D I ⟨env, S, r, R.toE, RS, .inl ⟨p.1, p.2, ev, fun v H1 r1 F p1 o1 s1 t1 f1 => ?_⟩⟩
    obtain ⟨n, g⟩ := f1 rfl
    exact fin v H1 r1 F lab p1 o1 s1 (.stp t1) n fun a m => R.base (g a m)
  · exact (ps_ret h).run pins s σ H D I ⟨env, S, r, R.toE, RS, .inr ⟨cc, S', ev, fin.excP R⟩⟩
theorem Gs.tr {X : Cx} (g : Gs X pg cl k) (pn : List (Addr × Obj)) (xe : Value → Shared → Prop) (h : PassesOwn (model X.prog X.w) X.A X.env xe) : Gs (X.tr pn xe) pg cl k :=
  ⟨⟨g.N, g.nd, g.calm, g.un, g.room, g.fld, g.bt, g.con, g.xc, g.xe, g.cm⟩, g.fn, g.kind, h⟩
theorem Gs.sut {X : Cx} (g : Gs X pg cl k) (a : Addr) (pn : List (Addr × Obj)) : Gs (X.suite a pn) pg cl { k with cal := false } :=
  ⟨⟨g.N, g.nd, fun h => (by cases h), g.un, fun h => (by cases h), g.fld, g.bt, g.con, g.xc, g.xe, fun h => (by cases h)⟩, g.fn, g.kind, PassesOwn.never⟩
theorem hds_of {X : Cx} {mu : Nat → Bool} (g : Gs X pg cl k) : ∀ (hs : Hs) (hds : List ExceptHandler), hsOk ow k.xs hs = true → chkH k ow X.env.scope hs hds = true → HdsX X hds (hdL X.K X.w ow H0 mu pg cl hs)
  | .nil, hds, _, h => by
    rw [chkH, List.isEmpty_iff] at h
    subst h
    exact .nil
  | .cons c [] b hs, hds, hk, h => by
    rw [hsOk, Bool.and_eq_true, Bool.and_eq_true] at hk
    obtain ⟨⟨k1, k2⟩, k3⟩ := hk
    have hm : c ∈ k.xs := by simpa using k1
    unfold chkH at h
    split at h
    · simp only [Bool.and_eq_true, decide_eq_true_eq] at h
      obtain ⟨⟨⟨⟨rfl, h1⟩, h2⟩, h3⟩, h4⟩ := h
      rw [hdL]
      refine .cons ⟨gl_of h1, (dbg_of h2).1, .inl (g.xc.nm c hm).1⟩ (fun a pn => ?_) (hds_of g hs _ k3 h4)
      cases hz : rzB b with
      | true =>
        refine ⟨fun pins s σ H D I ⟨env, S, r, lab, R, RS, fin⟩ => ?_⟩
        unfold hdB at fin
        rw [hz] at fin
        exact False.elim fin
      | false =>
        have e : hdB pg cl ow b = exCs pg cl ow b := by funext env S; unfold hdB; rw [hz]; rfl
        rw [e]
        rw [hz, Bool.false_or] at k2 h3
        exact snd_Cs b (X.suite a pn) (g.sut a pn) mu _ (fun j z => by rw [suite_mut k2 j] at z; cases z) h3
    · cases h
  | .cons c [i] b hs, hds, hk, h => by
    rw [hsOk, Bool.and_eq_true, Bool.and_eq_true, Bool.and_eq_true, Bool.and_eq_true] at hk
    obtain ⟨⟨⟨⟨k1, k2⟩, _⟩, _⟩, k3⟩ := hk
    have hm : c ∈ k.xs := by simpa using k1
    unfold chkH at h
    split at h
    · simp only [Bool.and_eq_true, decide_eq_true_eq] at h
      obtain ⟨⟨⟨⟨⟨⟨rfl, h1⟩, h2⟩, h5⟩, h6⟩, h3⟩, h4⟩ := h
      rw [hdL]
      exact .named ⟨gl_of h1, (dbg_of h2).1, .inl (g.xc.nm c hm).1⟩ (g.N ▸ h5) h6 (fun a pn => by
        rcases (Bool.or_eq_true _ _ ▸ h3 : _ ∨ _) with h3 | h3
        · exact pss_w (snd_Cs b (X.suite a pn) (g.sut a pn) mu _ (fun j z => by rw [suite_mut k2 j] at z; cases z) h3) fun D σ H ⟨env, S, r, lab, _, R, RS, fin⟩ => ⟨env, S, r, lab, R, RS, fin⟩
        · exact hot_Cs (X := X.suite a pn) ⟨rfl⟩ (g.sut a pn) b _ h3) (hds_of g hs _ k3 h4)
    · cases h
  | .cons c (i :: j :: js) b hs, hds, hk, h => by simp [hsOk] at hk
mutual
theorem snd_CX : ∀ (c : C) (X : Cx) (W : WX) (g : Gx X W pg cl k fo mo) (mu : Nat → Bool) (st : Stmt), (∀ j, mutC c j = true → mu j = true) → chkX k ow fo mo c X.env.scope st = true → PS X st (TSx X.K X.w W ow H0 mu (exC pg cl ow c))
  | .set i c, X, W, g, mu, st, hm, h => by
    simp only [chkX, Bool.and_eq_true] at h
    obtain ⟨hx, h⟩ := h
    split at h
    · rename_i x py v pos
      simp only [Bool.and_eq_true, decide_eq_true_eq] at h
      obtain ⟨⟨⟨h1, h2⟩, h3⟩, hn⟩ := h
      have hi : X.N[i]? = some x := g.N ▸ h1
      have he := snd_EX c X W true g.toGy _ hx h3
      have hvar : ∀ j, c = .var j → PS X (.Assign [.Name x py] v pos) (tAsg (tVar j) (gName i)) ∧ mu j = true := fun j e => by
        subst e
        have hnc : noComp v = true := by
          simp only [chkE] at h3
          split at h3
          · rfl
          · cases h3
        exact ⟨ps_set g.nd hi (loc_of h2) (chk_var g.toGs h3) (sw_plain hnc) (.inl (g.fn _)), hm j (by simp [mutC])⟩
      refine y_set rfl hi ?_ hvar
      by_cases hnc : noComp v = true
      · exact ps_set g.nd hi (loc_of h2) he (sw_plain hnc) (.inl (g.fn _))
      · rw [Bool.eq_false_iff.mpr hnc, Bool.false_or] at hn
        have key : ∀ {x' : E} {j' : Nat} {it' : It} {cs' : Es}, xE fo mo (.comp x' j' it' cs') true = true → chkE k (.comp x' j' it' cs') X.env.scope v = true → PS X (.Assign [.Name x py] v pos) (tAsg (TEvX X.K X.w W (evE pg cl (.comp x' j' it' cs')) true) (gName i)) := fun {x' j' it' cs'} hx' h3' => by
          have h4 := h3'
          simp only [chkE] at h4
          rw [Bool.and_eq_true] at h4
          have h4 := h4.2
          split at h4
          · rename_i el y p iter ifs as scope vpos _
            by_cases hw : swapC X.env.scope scope x py vpos = true
            · have hw2 := hw
              unfold swapC at hw
              rw [Bool.and_eq_true, Bool.and_eq_true, decide_eq_true_eq, Bool.not_eq_true'] at hw
              exact comp_setX g hx' h3' i x py pos hi hw.1.1 (sw_true g.kind hw.1.1 hw.1.2 hw.2)
            · exact ps_set g.nd hi (loc_of h2) (snd_EX _ X W true g.toGy _ hx' h3') (sw_false g.kind (Bool.eq_false_iff.mpr hw)) (.inl (g.fn _))
          · cases h4
        cases c with
        | comp x' j' it' cs' => exact key hx h3
        | box a =>
          cases a with
          | comp x' j' it' cs' =>
            rw [xE] at hx
            simp only [chkE] at h3
            exact ps_w (key hx (by simp only [chkE]; exact h3)) fun D σ H q => box_impX q
          | _ => cases hn
        | _ => cases hn
    · cases h
  | .exp c, X, W, g, mu, st, hm, h => by
    simp only [chkX, Bool.and_eq_true] at h
    obtain ⟨hx, h⟩ := h
    split at h
    · rw [Bool.and_eq_true] at h
      exact y_exp h.1 (snd_EX c X W true g.toGy _ hx h.2)
    · cases h
  | .ret c, X, W, g, mu, st, hm, h => by
    simp only [chkX, Bool.and_eq_true, Bool.or_eq_true, Bool.not_eq_true'] at h
    obtain ⟨⟨hx, ht⟩, h⟩ := h
    split at h
    · have he := snd_EX c X W true g.toGy _ hx h
      by_cases hc : ∀ es, c ≠ .tup es
      · exact y_ret hc he fun i e => by subst e; exact chk_var g.toGs h
      · cases c <;> first
          | (refine absurd ?_ hc; intro es z; cases z; done)
          | (rcases ht with ht | ht
             · cases ht
             · exact y_retT he (List.isEmpty_iff.mp ht))
    · cases h
  | .ite c a b, X, W, g, mu, st, hm, h => by
    simp only [chkX, Bool.and_eq_true] at h
    obtain ⟨hx, h⟩ := h
    split at h
    · rw [Bool.and_eq_true, Bool.and_eq_true, Bool.and_eq_true] at h
      obtain ⟨⟨⟨h0, h1⟩, h2⟩, h3⟩ := h
      exact y_ite ((snd_E c X g.toGv _ h1).2 h0) (nx_E g.nf g.nm c hx) (snd_CsX a X W g mu _ (fun j z => hm j (by simp [mutC, z])) h2) (snd_CsX b X W g mu _ (fun j z => hm j (by simp [mutC, z])) h3)
    · cases h
  | .raise n, X, W, g, mu, st, hm, h => by
    simp only [chkX, Bool.and_eq_true] at h
    exact y_raise (g.calm h.1) g.tk g.xc g.exF h.2
  | .tryS b hs, X, W, g, mu, st, hm, h => by
    simp only [chkX] at h
    split at h
    · rename_i sb hds pos
      simp only [Bool.and_eq_true, Bool.not_eq_true'] at h
      obtain ⟨⟨⟨h1, h2⟩, h3⟩, h4⟩ := h
      cases hds with
      | nil => cases h3
      | cons h₀ hds =>
        exact y_try g.xc g.xe g.stk g.frm g.exn g.nd g.tk (fun W' pn xe tk' ow' => snd_CsX b (X.tr pn xe) W' { toGs := g.toGs.tr pn xe ow', tk := tk', stk := g.stk, frm := g.frm, exn := g.exn, exF := g.exF, nf := g.nf, nm := g.nm } mu _ (fun j z => hm j (by simp [mutC, z])) h2) h1 (hds_of g.toGs hs _ h1 h4)
    · cases h
  | .forS t it b, X, W, g, mu, st, hm, h => by
    simp only [chkX, Bool.and_eq_true] at h
    obtain ⟨hx, h⟩ := h
    split at h
    · rw [Bool.and_eq_true, Bool.and_eq_true, Bool.and_eq_true, Bool.and_eq_true, Bool.and_eq_true, Bool.and_eq_true] at h
      obtain ⟨hcal, ⟨⟨⟨⟨h1, h2⟩, h3⟩, h4⟩, h5⟩, h6⟩ := h
      obtain ⟨q1, q2⟩ := is_rule (ow := ow) (H0 := H0) g.toGs h3 h5
      refine y_for g.own (g.calm hcal) q1 rfl (tg_rule g.toGs hcal h2) h1 (fun j z => hm j (by simp [mutC, z])) q2 (snd_CsX b X W g _ _ (fun j z => z) h6) h4 fun env S => ?_
      unfold evF
      split
      · exact nx_Y g.nm g.nf it hx env S
      · exact nx_I g.nf g.nm it hx env S
    · cases h
  | .unp _ _, X, W, g, mu, st, hm, h => by simp [chkX] at h
  | .mut _ _ _, X, W, g, mu, st, hm, h => by simp [chkX] at h
  | .put _ _ _, X, W, g, mu, st, hm, h => by simp [chkX] at h
  | .putR _ _ _, X, W, g, mu, st, hm, h => by simp [chkX] at h
  | .putF _ _ _, X, W, g, mu, st, hm, h => by simp [chkX] at h
  | .mutR _ _ _, X, W, g, mu, st, hm, h => by simp [chkX] at h
  | .nput _ _ _, X, W, g, mu, st, hm, h => by simp [chkX] at h
  | .forR t a b, X, W, g, mu, st, hm, h => by
    simp only [chkX, Bool.and_eq_true] at h
    obtain ⟨hx, h⟩ := h
    split at h
    · rw [Bool.and_eq_true, Bool.and_eq_true, Bool.and_eq_true, Bool.and_eq_true, Bool.and_eq_true] at h
      obtain ⟨hcal, ⟨⟨⟨h1, h2⟩, h3⟩, h4⟩, h5⟩ := h
      exact y_forR g.own (g.calm hcal) (snd_E a X g.toGv _ h3).1 (tg_rule g.toGs hcal h2) h1 (snd_CsX b X W g mu _ (fun j z => hm j (by simp [mutC, z])) h5) h4 (nx_E g.nf g.nm a hx)
    · cases h
  | .forX _ _ _, X, W, g, mu, st, hm, h => by simp [chkX] at h
  | .whl c b, X, W, g, mu, st, hm, h => by
    simp only [chkX, Bool.and_eq_true] at h
    obtain ⟨hx, h⟩ := h
    split at h
    · rw [Bool.and_eq_true, Bool.and_eq_true] at h
      exact y_whl g.own ((snd_E c X g.toGv _ h.1.2).2 h.1.1) (nx_E g.nf g.nm c hx) (snd_CsX b X W g mu _ (fun j z => hm j (by simp [mutC, z])) h.2)
    · cases h
  | .retN, X, W, g, mu, st, hm, h => by simp [chkX] at h
  | .pass, X, W, g, mu, st, hm, h => by simp [chkX] at h
theorem snd_CsX : ∀ (cs : Cs) (X : Cx) (W : WX) (g : Gx X W pg cl k fo mo) (mu : Nat → Bool) (sts : List Stmt), (∀ j, mutCs cs j = true → mu j = true) → chkXs k ow fo mo cs X.env.scope sts = true → PSs X sts (TSx X.K X.w W ow H0 mu (exCs pg cl ow cs))
  | .nil, X, W, g, mu, sts, hm, h => by
    simp only [chkXs, List.isEmpty_iff] at h
    subst h
    exact y_nil
  | .cons c cs, X, W, g, mu, sts, hm, h => by
    unfold chkXs at h
    split at h
    · rw [Bool.and_eq_true, Bool.or_eq_true, Bool.and_eq_true] at h
      refine y_cons ?_ (snd_CsX cs X W g mu _ (fun j z => hm j (by simp [mutCs, z])) h.2)
      rcases h.1 with ⟨n, q⟩ | q
      · exact y_lift (snd_C c X g.toGs mu _ (fun j z => hm j (by simp [mutCs, z])) q) (nx_C1 g.nf g.nm c n)
      · exact snd_CX c X W g mu _ (fun j z => hm j (by simp [mutCs, z])) q
    · cases h
end
end
end Ev

/-! SndJ: defs: each does what its code does; a table of defs. -/
namespace Ev
open PySem PySem.Spec PyProof.Rows L2

def scC (N P : List Str) (sc : Scope) : Bool :=
  decide (sc.kind = .function) && !sc.isCoroutine && !sc.isGenerator && decide N.Nodup && decide (N.take P.length = P) && P.all (fun x => locF sc x) && sc.names.all (fun y => !decide (y.2 = .free))
theorem scope_by {N P : List Str} {sc : Scope} (h : scC N P sc = true) : FnScope N P sc := by
  unfold scC at h
  simp only [Bool.and_eq_true, Bool.not_eq_true', decide_eq_true_eq, List.all_eq_true, decide_eq_false_iff_not] at h
  obtain ⟨⟨⟨⟨⟨⟨h1, h2⟩, h3⟩, h4⟩, h5⟩, h6⟩, h7⟩ := h
  exact ⟨h1, h2, h3, h4, h5, fun x hx => loc_of (h6 x hx), h7⟩
/-- a def of the table: its number, name, names of the slots, its text; its qualified name; its class and its number as a method -/
structure Row where
  i : Nat
  x : Str
  N : List Str
  F : Fn
  params : Arguments
  body : List Stmt
  scope : Scope
  dfl : List He.Dv
  q : Str
  cm : Option (Nat × Nat)
def Row.dvs (K : PySem.W.Frag) (R : Row) : List V := R.dfl.map (He.Dv.v K)
def Row.ps (R : Row) : List Str := R.N.take R.F.np
def Row.ck (R : Row) (fn con : List (Nat × Str)) (xs cms : List Nat := []) : Ck := { N := R.N, fn := fn, con := con, xs := xs, cms := cms }
/-- .. of a def that may raise -/
def Row.okX (R : Row) (fn con : List (Nat × Str)) (xs cms : List Nat) (fo mo : Nat → Bool) : Bool :=
  scC R.N R.ps R.scope && decide (R.F.np ≤ R.N.length) && decide (R.F.own.length = R.N.length) && decide (R.F.n = R.N.length) && (R.F.own.take R.F.np).all (fun b => !b) && chkXs (R.ck fn con xs cms) R.F.own fo mo R.F.body R.scope R.body
def Row.ok (R : Row) (fn con : List (Nat × Str)) : Bool :=
  scC R.N R.ps R.scope && decide (R.F.np ≤ R.N.length) && decide (R.F.own.length = R.N.length) && decide (R.F.n = R.N.length) && (R.F.own.take R.F.np).all (fun b => !b) && chkCs (R.ck fn con) R.F.own R.F.body R.scope R.body
structure MOk (K : PySem.W.Frag) (mg : Str → Option Value) (pg : Pg) (fn con : List (Nat × Str)) : Prop where
  bt : ∀ x, x ∈ frees → mg x = none
  con : ∀ n x, con.lookup n = some x → ∃ c v u, pg.con n = some c ∧ conV c = some v ∧ mg x = some u ∧ RelV v u
theorem StS.toStp {mu : Nat → Bool} {lab lab' : Addr → Option Nat} {H H' : Hp} {r r' : List Addr} (s : StS mu lab lab' H H' r r') (h : ∀ a, lab a = none) : Stp H H' r r' :=
  ⟨fun b o e n => (s.keep b o e n fun i z => by rw [h b] at z; cases z).1, s.there, s.im, s.ext⟩

section
variable {P : Program} {w : World} {K : PySem.W.Frag} {mg : Str → Option Value} {base : Heap} {pg : Pg} {fn con : List (Nat × Str)}
theorem row_fnX {R : Row} {d : Nat} {f : Addr} {fd : FuncData} (m : MOk K mg pg fn con) {xs cms : List Nat} {fo mo : Nat → Bool} (hR : R.okX fn con xs cms fo mo = true) (hF : pg.fn R.i = some R.F) (F : FunD K R.x R.q R.params R.body R.scope (R.dvs K) [] f fd)
    (cal : ∀ g x, fn.lookup g = some x → CalV P w K mg base (2 * d) x (spV K w (call pg d g))) (hM : MthOk P w K mg base pg (call pg d) (2 * d)) (hK : MkOk P w K mg base pg (call pg d) (2 * d)) (hC : CmOk P w K mg base pg (call pg d) (2 * d) cms) (fld : FldOk K pg) (xc : XcOk K mg xs) (hxs : pg.xs = xs) (nf : ∀ f, fo f = true → ∀ F, pg.fn f = some F → nxCs fo mo F.body = true) (nm : ∀ m, mo m = true → ∀ c f, pg.meth c m = some f → fo f = true) : FnOk P w K mg base (L2N.CX P w) (2 * d + 1 + 1) f fd R.ps (spV K w (call pg (d + 1) R.i)) := by
  unfold Row.okX at hR
  simp only [Bool.and_eq_true, decide_eq_true_eq] at hR
  obtain ⟨⟨⟨⟨⟨h1, h2⟩, h3⟩, h4⟩, h5⟩, h6⟩ := hR
  have sc := scope_by h1
  have lps : R.ps.length = R.F.np := by unfold Row.ps; rw [List.length_take]; omega
  have ev : ∀ {xs : List Val} {S : Sto}, call pg (d + 1) R.i xs S ≠ .stuck → xs.length = R.F.np := fun {xs S} h => by
    simp only [call, hF] at h
    split at h
    · assumption
    · exact absurd rfl h
  have lenOf : ∀ vs H Q E, spV K w (call pg (d + 1) R.i) vs H Q E → vs.length = R.ps.length := fun vs H Q E ⟨S, r, xs, Fp, l, _, _, e⟩ => by
    rw [← l.length, lps]
    refine ev (S := S) fun z => ?_
    rcases e with ⟨x, S', e, _⟩ | ⟨c, S', e, _⟩ <;> rw [z] at e <;> cases e
  refine F.ok sc lenOf fun cdv A outer s H vs Q E hr h => ⟨TSx K w (fun cls d _ H => E cls d H) R.F.own H (mutCs R.F.body) (exCs pg (call pg d) R.F.own R.F.body), ?_, ?_⟩
  · have g : Gx (cxOf (L2N.CX P w) P w K mg base R.N R.q R.scope f cdv A outer s H E) (fun cls d _ H => E cls d H) pg (call pg d) (R.ck fn con xs cms) fo mo :=
      { N := rfl, nd := sc.nd, calm := fun _ => rfl, un := by
          have := hr.un
          show (A.deeper (envOfC R.q R.scope s.heap.objs.size f cdv)).units + 200 < cLine
          omega, room := fun _ => ⟨2 * d, hr, cal, hM, hK⟩, fld := fld, bt := m.bt, con := m.con, xc := xc, xe := hxs, cm := fun _ => ⟨2 * d, hr.mono (Nat.le_succ _), hC⟩, fn := fun _ => rfl, kind := sc.kind, own := passes_of (K := fun e s'' => L2N.CX P w outer H s E e s'') rfl, tk := L2N.takes_of rfl rfl rfl rfl, stk := rfl, frm := rfl, exn := rfl, exF := PySem.F.excBase_ValueError, nf := fun f hf => nx_call nf nm d f hf, nm := nm }
    exact snd_CsX R.F.body _ _ g _ _ (fun j z => z) h6
  · obtain ⟨S, r, xs, Fp, l, off, rs, e⟩ := h
    have hl : xs.length = R.F.np := ev (S := S) fun z => by rcases e with ⟨x, S', e, _⟩ | ⟨c, S', e, _⟩ <;> rw [z] at e <;> cases e
    refine ⟨xs.map some ++ List.replicate (R.F.n - R.F.np) none, S, r, fun _ => none, ⟨fun i y hy => ?_, fun a i z => (by cases z), fun a z => z, ?_⟩, rs, ?_⟩
    · by_cases hi : i < xs.length
      · rw [List.getElem?_append_left (by simpa using hi), List.getElem?_map] at hy
        cases q : xs[i]? with
        | none => rw [q] at hy; cases hy
        | some z =>
          rw [q] at hy
          obtain rfl : z = y := by simpa using hy
          obtain ⟨v, G, g1, g2, g3⟩ := l.get q
          have ow : own R.F.own i = false := by
            unfold own
            have hi2 : i < R.F.own.length := by rw [h3]; omega
            rw [List.getElem?_eq_getElem hi2]
            have : R.F.own[i] ∈ R.F.own.take R.F.np := List.mem_iff_getElem.mpr ⟨i, by rw [List.length_take]; omega, by rw [List.getElem_take]⟩
            have := List.all_eq_true.mp h5 _ this
            simpa using this
          refine ⟨v, G, ?_, g2, fun a m => off a (g3 a m), fun z => (by rw [ow] at z; cases z), fun a m => (by rw [ow]; rfl)⟩
          unfold L2.start
          rw [List.getElem?_append_left (by rw [List.length_map, ← l.length]; exact hi), List.getElem?_map, g1]
          rfl
      · rw [List.getElem?_append_right (by simpa using hi), List.getElem?_replicate] at hy
        split at hy <;> simp at hy
    · unfold L2.start
      rw [List.length_append, List.length_map, List.length_replicate, ← l.length, hl, h3]
      omega
    · have hcall : call pg (d + 1) R.i xs S = match exCs pg (call pg d) R.F.own R.F.body (xs.map some ++ List.replicate (R.F.n - R.F.np) none) S with
        | .ok .nx _ S' => .ok (.non, S')
        | .ok (.rt v) _ S' => .ok (v, S')
        | .exc c _ S' => .exc c S'
        | .stuck => .stuck := by
        simp only [call, hF]
        rw [if_pos hl]
        all_goals
          generalize exCs pg (call pg d) R.F.own R.F.body (xs.map some ++ List.replicate (R.F.n - R.F.np) none) S = out
          cases out with
          | ok fl en S2 => cases fl <;> rfl
          | exc c en S2 => rfl
          | stuck => rfl
      rw [hcall] at e
      cases o : exCs pg (call pg d) R.F.own R.F.body (xs.map some ++ List.replicate (R.F.n - R.F.np) none) S with
      | ok fl en S2 =>
        rw [o] at e
        cases fl with
        | nx =>
          rcases e with ⟨x, S', e1, k⟩ | ⟨c, S', e1, k⟩
          · cases e1
            exact fun σ' H' r' lab' R' s' st => k .non H' r' [] .non (by simp) s' (st.toStp fun _ => rfl) fun _ => ⟨List.nodup_nil, by simp⟩
          · cases e1
        | rt v =>
          rcases e with ⟨x, S', e1, k⟩ | ⟨c, S', e1, k⟩
          · cases e1
            exact fun v' H' r' F' lab' p o s' st nd fr => k v' H' r' F' p o s' (st.toStp fun _ => rfl) fun _ => ⟨nd, fr⟩
          · cases e1
      | exc c en S2 =>
        rw [o] at e
        rcases e with ⟨x, S', e1, k⟩ | ⟨c', S', e1, k⟩
        · cases e1
        · cases e1
          exact fun σ' H' r' lab' R' s' st => k H' r' s' (st.toStp fun _ => rfl)
      | stuck =>
        rw [o] at e
        rcases e with ⟨x, S', e1, k⟩ | ⟨c', S', e1, k⟩ <;> cases e1
/-- a def as the head tells it -/
structure RowIs (K : PySem.W.Frag) (mg : Str → Option Value) (R : Row) : Prop where
  ex : ∃ (f : Addr) (fd : FuncData), FunD K R.x R.q R.params R.body R.scope (R.dvs K) [] f fd ∧ mg R.x = some (.ref f) ∧ Binds K fd R.ps []
theorem stuck_sp {i : Nat} {vs : List V} {H : Hp} {Q : VK} {E : XK} (h : spV K w (call pg 0 i) vs H Q E) : False := by
  obtain ⟨S, r, xs, F, _, _, _, e⟩ := h
  rcases e with ⟨x, S', e, _⟩ | ⟨c, S', e, _⟩ <;> (simp only [call] at e; cases e)
theorem stuck_call {i : Nat} {CX : CXT} {k : Nat} {f : Addr} {fd : FuncData} {ps : List Str} : FnOk P w K mg base CX k f fd ps (spV K w (call pg 0 i)) :=
  ⟨fun vs H Q E h => (stuck_sp h).elim, fun A outer s H args us vs Q E hr he hb hv h => (stuck_sp h).elim⟩
theorem fn_up {CX : CXT} {k : Nat} {f : Addr} {fd : FuncData} {ps : List Str} {sp : Sp} (F : FnOk P w K mg base CX0 k f fd ps sp) : FnOk P w K mg base CX k f fd ps sp :=
  ⟨F.len, fun A outer s H args us vs Q E hr he hb hv hs => codeAny_mono (F.run A outer s H args us vs Q E hr he hb hv hs) fun r s' q => by
    cases r with
    | error e => exact False.elim q
    | ok fl => cases fl <;> exact q⟩
/-- a def called without its last argument, which has a default: its number, the def, the default, the code -/
structure Ali where
  i : Nat
  R : Row
  v : Val
  k : Nat
def Ali.dv (A : Ali) : He.Dv := match A.v with
  | .int i => .int i
  | .str s => .str s
  | .bl b => .bl b
  | _ => .non
structure AliC (pg : Pg) (A : Ali) : Prop where
  fn : pg.fn A.i = some (aliF A.R.F A.k A.v)
  np : A.R.F.np = A.k + 1
  lt : A.k < A.R.F.n
  lit : litOk A.v = true
structure AliIs (pg : Pg) (K : PySem.W.Frag) (mg : Str → Option Value) (A : Ali) : Prop extends AliC pg A where
  ex : ∃ (f : Addr) (fd : FuncData) (ds : List Value), FunD K A.R.x A.R.q A.R.params A.R.body A.R.scope (A.R.dvs K) [] f fd ∧ mg A.R.x = some (.ref f) ∧ Vals [A.dv.v K] ds ∧ Binds K fd A.R.ps ds
theorem lit_rep {v : Val} (h : litOk v = true) {A : Ali} (e : A.v = v) {H : Hp} {r : List Addr} : Rep K w H r v (A.dv.v K) [] := by
  subst e
  unfold Ali.dv
  cases q : A.v <;> rw [q] at h <;> first | exact Rep.int _ | exact Rep.str _ | exact Rep.bl _ | exact Rep.non | cases h
theorem ali_imp {A : Ali} (a : AliC pg A) (hF : pg.fn A.R.i = some A.R.F) (d : Nat) : ∀ vs H Q E, spV K w (call pg d A.i) vs H Q E → spV K w (call pg d A.R.i) (vs ++ [A.dv.v K]) H Q E := fun vs H Q E h => by
  obtain ⟨S, r, xs, F, l, off, rs, e⟩ := h
  have hl : xs.length = A.k := by
    cases d with
    | zero => rcases e with ⟨x, S', e, _⟩ | ⟨c, S', e, _⟩ <;> (simp only [call] at e; cases e)
    | succ d =>
      rcases e with ⟨x, S', e, _⟩ | ⟨c, S', e, _⟩ <;>
        (simp only [call, a.fn] at e
         split at e
         · assumption
         · cases e)
  rw [ali_call hF a.fn a.np a.lt a.lit d xs S hl] at e
  refine ⟨S, r, xs ++ [A.v], F ++ ([] ++ []), l.append (.cons (lit_rep a.lit rfl) .nil), fun b m => off b ?_, rs, e⟩
  simpa using m
/-- a method of a class, perhaps without its last argument -/
structure MEnt where
  c : Nat
  m : Nat
  R : Row
  A : Option Ali
def MEnt.i (e : MEnt) : Nat := match e.A with
  | none => e.R.i
  | some a => a.i
/-- what the head tells of it -/
structure MethIs (pg : Pg) (K : PySem.W.Frag) (mg : Str → Option Value) (cms : List Nat) (e : MEnt) : Prop where
  ex : ∃ (f : Addr) (fd : FuncData), FunD K e.R.x e.R.q e.R.params e.R.body e.R.scope (e.R.dvs K) [] f fd ∧ Cls K (clsA K e.c) ∧ Meth K (clsA K e.c) (mthS e.m) f ∧ (e.m % 100 = 0 → mg (clsS e.c) = some (.ref (clsA K e.c)) ∧ Mk K (clsA K e.c) f) ∧ (cms.contains (e.c * 1000 + e.m) = true → mg (clsS e.c) = some (.ref (clsA K e.c)) ∧ ClX.CRead K (clsA K e.c) (.type "type") ∧ ClX.CVal K (clsA K e.c) (.type "type") (mthS e.m) (.ref f) (.ref f)) ∧
    match e.A with
    | none => Binds K fd e.R.ps []
    | some a => a.R = e.R ∧ AliC pg a ∧ ∃ ds, Vals [a.dv.v K] ds ∧ Binds K fd e.R.ps ds
theorem table_ok {rows : List Row} {alis : List Ali} {ments : List MEnt} (m : MOk K mg pg fn con) (fld : FldOk K pg) (hfn : ∀ g x, fn.lookup g = some x → (∃ R, R ∈ rows ∧ R.i = g ∧ R.x = x) ∨ ∃ A, A ∈ alis ∧ A.i = g ∧ A.R.x = x) {xs cms : List Nat} {fo mo : Nat → Bool} (xc : XcOk K mg xs) (hxs : pg.xs = xs) (nf : ∀ f, fo f = true → ∀ F, pg.fn f = some F → nxCs fo mo F.body = true) (nm : ∀ m, mo m = true → ∀ c f, pg.meth c m = some f → fo f = true) (hrow : ∀ R, R ∈ rows → R.okX fn con xs cms fo mo = true ∧ pg.fn R.i = some R.F ∧ RowIs K mg R) (hali : ∀ A, A ∈ alis → A.R ∈ rows ∧ AliIs pg K mg A)
    (hmt : ∀ c n f, pg.meth c n = some f → ∃ e, e ∈ ments ∧ e.c = c ∧ e.m = n ∧ e.i = f) (hment : ∀ e, e ∈ ments → e.R.okX fn con xs cms fo mo = true ∧ pg.fn e.R.i = some e.R.F ∧ MethIs pg K mg cms e) :
    ∀ (d : Nat), (∀ (g : Nat) (x : Str), fn.lookup g = some x → CalV P w K mg base (2 * d) x (spV K w (call pg d g))) ∧ MthOk P w K mg base pg (call pg d) (2 * d) ∧ MkOk P w K mg base pg (call pg d) (2 * d) ∧ CmOk P w K mg base pg (call pg d) (2 * d) cms := by
  intro d
  have each : ∀ (R : Row) (f : Addr) (fd : FuncData), R.okX fn con xs cms fo mo = true → pg.fn R.i = some R.F → FunD K R.x R.q R.params R.body R.scope (R.dvs K) [] f fd → FnOk P w K mg base (L2N.CX P w) (2 * d) f fd R.ps (spV K w (call pg d R.i)) := by
    cases d with
    | zero => exact fun R f fd _ _ _ => stuck_call
    | succ d =>
      obtain ⟨q1, q2, q3, q4⟩ := table_ok m fld hfn xc hxs nf nm hrow hali hmt hment d
      exact fun R f fd h1 h2 F => row_fnX m h1 h2 F q1 q2 q3 q4 fld xc hxs nf nm
  refine ⟨fun g x h => ?_, fun c n f h => ?_, fun c n f h hn => ?_, fun c n f hn h => ?_⟩
  · rcases hfn g x h with ⟨R, hR, rfl, rfl⟩ | ⟨A, hA, rfl, rfl⟩
    · obtain ⟨h1, h2, ⟨f, fd, F, hm, b⟩⟩ := hrow R hR
      exact ⟨f, fd, R.ps, _, [], [], each R f fd h1 h2 F, hm, F.kp, b, .nil, fun vs H Q E h => by rw [List.append_nil]; exact h⟩
    · obtain ⟨hR, a⟩ := hali A hA
      obtain ⟨h1, h2, _⟩ := hrow A.R hR
      obtain ⟨f, fd, ds, F, hm, dv, b⟩ := a.ex
      exact ⟨f, fd, A.R.ps, _, _, ds, each A.R f fd h1 h2 F, hm, F.kp, b, dv, ali_imp a.toAliC h2 d⟩
  · obtain ⟨e, he, rfl, rfl, rfl⟩ := hmt c n f h
    obtain ⟨h1, h2, ⟨f, fd, F, c1, c2, _, _, q⟩⟩ := hment e he
    unfold MEnt.i
    cases hA : e.A with
    | none =>
      rw [hA] at q
      exact ⟨f, fd, e.R.ps, _, [], [], each e.R f fd h1 h2 F, c1, c2, q, .nil, fun vs H Q E h => by rw [List.append_nil]; exact h⟩
    | some a =>
      rw [hA] at q
      obtain ⟨q1, q2, ds, dv, b⟩ := q
      rw [← q1] at h2 b F h1
      exact ⟨f, fd, a.R.ps, _, _, ds, each a.R f fd h1 h2 F, c1, c2, b, dv, ali_imp q2 h2 d⟩
  · obtain ⟨e, he, rfl, rfl, rfl⟩ := hmt c n f h
    obtain ⟨h1, h2, ⟨f, fd, F, c1, c2, mk, _, q⟩⟩ := hment e he
    obtain ⟨mk1, mk2⟩ := mk hn
    refine ⟨mk1, ?_⟩
    unfold MEnt.i
    cases hA : e.A with
    | none =>
      rw [hA] at q
      exact ⟨f, fd, e.R.ps, _, [], [], each e.R f fd h1 h2 F, mk2, q, .nil, fun vs H Q E h => by rw [List.append_nil]; exact h⟩
    | some a =>
      rw [hA] at q
      obtain ⟨q1, q2, ds, dv, b⟩ := q
      rw [← q1] at h2 b F h1
      exact ⟨f, fd, a.R.ps, _, _, ds, each a.R f fd h1 h2 F, mk2, b, dv, ali_imp q2 h2 d⟩
  · obtain ⟨e, he, rfl, rfl, rfl⟩ := hmt c n f h
    obtain ⟨h1, h2, ⟨f, fd, F, c1, c2, _, cv, q⟩⟩ := hment e he
    obtain ⟨v1, v2, v3⟩ := cv hn
    refine ⟨v1, ?_⟩
    unfold MEnt.i
    cases hA : e.A with
    | none =>
      rw [hA] at q
      exact ⟨f, fd, e.R.ps, _, [], [], each e.R f fd h1 h2 F, v2, v3, c2.kp, q, .nil, fun vs H Q E h => by rw [List.append_nil]; exact h⟩
    | some a =>
      rw [hA] at q
      obtain ⟨q1, q2, ds, dv, b⟩ := q
      rw [← q1] at h2 b F h1
      exact ⟨f, fd, a.R.ps, _, _, ds, each a.R f fd h1 h2 F, v2, v3, c2.kp, b, dv, ali_imp q2 h2 d⟩
def spLaw (K : PySem.W.Frag) : Sp := fun vs H Q _ => ∃ (a : Addr) (ns : List Int), vs = [.ref a] ∧ ns.length ≤ 63 ∧ SqL K H a (ns.map V.int) ∧ ∀ H', Q (.bl true) H'
theorem scr_rep {H : Hp} {a : Addr} {ns : List Int} (h : SqL K H a (ns.map V.int)) : ∃ F, Rep K w H [] (.scr ns) (.ref a) F := by
  rcases h with (h | ⟨o, h⟩) | h
  · exact ⟨_, .scrL h⟩
  · exact ⟨_, .scr fun H' g => .inl (.inr ⟨o, g a _ h trivial⟩)⟩
  · exact ⟨_, .scr fun H' g => .inr h⟩
theorem law_fn {x : Str} {f : Addr} {fd : FuncData} {i d dl : Nat} (F : FnOk P w K mg base (L2N.CX P w) dl f fd [x] (spV K w (call pg d i))) (h : ∀ ns : List Int, ns.length ≤ 63 → ∃ Sf, call pg d i [.scr ns] [] = .ok (.bl true, Sf)) : FnOk P w K mg base CX0 dl f fd [x] (spLaw K) := by
  have key : ∀ vs H Q E, spLaw K vs H Q E → spV K w (call pg d i) vs H Q (fun _ _ _ => False) := fun vs H Q E ⟨a, ns, hv, hl, hs, q⟩ => by
    subst hv
    obtain ⟨F', hp⟩ := scr_rep (w := w) hs
    obtain ⟨Sf, h⟩ := h ns hl
    refine ⟨[], [], [.scr ns], F' ++ [], .cons hp .nil, by simp, ⟨rfl, List.nodup_nil, fun n o e => by simp at e⟩, .inl ⟨.bl true, Sf, h, fun v H' r' F2 p _ _ _ _ => ?_⟩⟩
    rw [vbl p]
    exact q H'
  exact ⟨fun vs H Q E h => F.len vs H Q _ (key vs H Q E h), fun A outer s H args us vs Q E hr he hb hv h => codeAny_mono (F.run A outer s H args us vs Q (fun _ _ _ => False) hr he hb hv (key vs H Q E h)) fun r s' q => by
    cases r with
    | error e =>
      obtain ⟨_, _, _, _, _, _, _, _, _, _, _, _, z⟩ := q
      exact z.elim
    | ok fl => cases fl <;> exact q⟩
end
end Ev

/-! SndK: from the head's facts to the law's promise. -/
namespace Ev
open PySem PySem.Spec PyProof.Rows L2

def Row.at_ (R : Row) : Str × Option Str := match R.cm with
  | none => (R.x, none)
  | some (c, m) => (clsS c, some (mthS m))
def Row.dd (R : Row) : He.DefD := ⟨R.at_, R.x, R.q, R.params, R.body, R.scope, R.dfl, []⟩
/-- a module's constant that the defs name: its number, name, value -/
structure Con where
  i : Nat
  x : Str
  v : Val
def Con.fa (c : Con) : He.Fa := match c.v with
  | .int i => .int c.x i
  | .str s => .str c.x s
  | _ => .free c.x
def FnAll (pg : Pg) : List Row → Prop
  | [] => True
  | R :: rs => pg.fn R.i = some R.F ∧ FnAll pg rs
theorem FnAll.get {pg : Pg} : ∀ {rows : List Row}, FnAll pg rows → ∀ R, R ∈ rows → pg.fn R.i = some R.F
  | [], _, R, m => by cases m
  | R' :: rs, h, R, m => by
    rcases List.mem_cons.mp m with rfl | m
    · exact h.1
    · exact FnAll.get h.2 R m
def Row.binds (R : Row) : Prop := ∀ (kV doc pm : Value) (an : Option Addr) (cdv ct : Value) (us : List Value), us.length = R.ps.length → bindArgs (PySem.W.fnOf R.x R.q R.params R.body R.scope .none kV doc pm an cdv ct) ⟨us, []⟩ = pure (R.ps.zip us)
/-- the same of a def that has defaults: all its arguments are written -/
def Row.bindsD (R : Row) : Prop := ∀ (T : Addr) (kV doc pm : Value) (an : Option Addr) (cdv ct : Value) (us its : List Value), us.length = R.ps.length → its.length = R.dfl.length →
  ∃ k, bindArgs (PySem.W.fnOf R.x R.q R.params R.body R.scope (.ref T) kV doc pm an cdv ct) ⟨us, []⟩ = seqItems? (.ref T) >>= k ∧ k (some its.toArray) = pure (R.ps.zip (us ++ its.drop its.length))
def Row.bindsE (R : Row) : Prop := (R.dfl = [] ∧ R.binds) ∨ (R.dfl ≠ [] ∧ R.bindsD)
theorem Row.toBinds {K : PySem.W.Frag} {R : Row} {f : Addr} {fd : FuncData} (h : R.bindsE) (F : FunD K R.x R.q R.params R.body R.scope (R.dvs K) [] f fd) : Binds K fd R.ps [] := by
  rcases h with ⟨e, h⟩ | ⟨e, h⟩
  · have e2 : R.dvs K = [] := by unfold Row.dvs; rw [e]; rfl
    rw [e2] at F
    exact F.bindsN h
  · have e2 : (R.dvs K).length = R.dfl.length := List.length_map ..
    obtain ⟨ds, v, b⟩ := F.binds1 (ps := R.ps) R.ps.length (R.dvs K).length (fun z => e (by unfold Row.dvs at z; exact List.map_eq_nil_iff.mp z)) (by omega) fun T kV doc pm an cdv ct us its h1 h2 => by
      have := h T kV doc pm an cdv ct us its h1 (by omega)
      rwa [h2] at this
    rw [List.drop_eq_nil_of_le (Nat.le_refl _)] at v
    cases v
    exact b
def Ali.binds (A : Ali) : Prop := ∀ (T : Addr) (kV doc pm : Value) (an : Option Addr) (cdv ct : Value) (us its : List Value), us.length + 1 = A.R.ps.length → its.length = 1 →
  ∃ k, bindArgs (PySem.W.fnOf A.R.x A.R.q A.R.params A.R.body A.R.scope (.ref T) kV doc pm an cdv ct) ⟨us, []⟩ = seqItems? (.ref T) >>= k ∧ k (some its.toArray) = pure (A.R.ps.zip (us ++ its.drop 0))
structure AliOk (pg : Pg) (rows : List Row) (A : Ali) : Prop where
  mem : A.R ∈ rows
  fn : pg.fn A.i = some (aliF A.R.F A.k A.v)
  np : A.R.F.np = A.k + 1
  pl : A.R.ps.length = A.k + 1
  lt : A.k < A.R.F.n
  lit : litOk A.v = true
  dfl : A.R.dfl = [A.dv]
  bi : A.binds
def AliAll (pg : Pg) (rows : List Row) : List Ali → Prop
  | [] => True
  | A :: as => AliOk pg rows A ∧ AliAll pg rows as
theorem AliAll.get {pg : Pg} {rows : List Row} : ∀ {alis : List Ali}, AliAll pg rows alis → ∀ A, A ∈ alis → AliOk pg rows A
  | [], _, A, m => by cases m
  | A' :: as, h, A, m => by
    rcases List.mem_cons.mp m with rfl | m
    · exact h.1
    · exact AliAll.get h.2 A m
def BindAll : List Row → Prop
  | [] => True
  | R :: rs => R.bindsE ∧ BindAll rs
theorem BindAll.get : ∀ {rows : List Row}, BindAll rows → ∀ R, R ∈ rows → R.bindsE
  | [], _, R, m => by cases m
  | R' :: rs, h, R, m => by
    rcases List.mem_cons.mp m with rfl | m
    · exact h.1
    · exact BindAll.get h.2 R m
def ConAll (pg : Pg) : List Con → Prop
  | [] => True
  | c :: cs => (pg.con c.i = some c.v ∧ ((∃ i, c.v = .int i) ∨ ∃ s, c.v = .str s)) ∧ ConAll pg cs
theorem ConAll.get {pg : Pg} : ∀ {cs : List Con}, ConAll pg cs → ∀ c, c ∈ cs → pg.con c.i = some c.v ∧ ((∃ i, c.v = .int i) ∨ ∃ s, c.v = .str s)
  | [], _, R, m => by cases m
  | c :: rs, h, R, m => by
    rcases List.mem_cons.mp m with rfl | m
    · exact h.1
    · exact ConAll.get h.2 R m
theorem lookup_mem {α : Type} : ∀ {l : List (Nat × α)} {n : Nat} {x : α}, l.lookup n = some x → (n, x) ∈ l
  | [], _, _, h => by cases h
  | (k, y) :: r, n, x, h => by
    rw [List.lookup_cons] at h
    cases q : n == k with
    | true =>
      rw [q] at h
      cases h
      rw [eq_of_beq q]
      exact List.mem_cons_self
    | false =>
      rw [q] at h
      exact List.mem_cons_of_mem _ (lookup_mem h)
def MEnt.fas (e : MEnt) : List He.Fa := .meth (clsS e.c) (mthS e.m) :: if e.m % 100 = 0 then [.mkr (clsS e.c)] else []
def factsOf (rows : List Row) (cons : List Con) (clss : List Nat) (flds : List (Nat × Nat)) (ments : List MEnt) : List He.Fa :=
  rows.map (fun R => .glo R.x) ++ (frees.map .free ++ (cons.map Con.fa ++ (clss.map (fun c => .glo (clsS c)) ++ (clss.map (fun c => .cls (clsS c)) ++ (flds.map (fun p => .noat (clsS p.1) (fldS p.2)) ++ (ments.map MEnt.fas).flatten)))))
/-- a method's entry is well told -/
def MEntOk (pg : Pg) (clss : List Nat) (e : MEnt) : Prop := pg.fn e.R.i = some e.R.F ∧ e.c ∈ clss ∧ e.R.cm = some (e.c, e.m) ∧ match e.A with
  | none => e.R.bindsE
  | some a => a.R = e.R ∧ AliC pg a ∧ e.R.ps.length = a.k + 1 ∧ e.R.dfl = [a.dv] ∧ a.binds
def MEntAll (pg : Pg) (clss : List Nat) : List MEnt → Prop
  | [] => True
  | e :: es => MEntOk pg clss e ∧ MEntAll pg clss es
theorem MEntAll.get {pg : Pg} {clss : List Nat} : ∀ {es : List MEnt}, MEntAll pg clss es → ∀ e, e ∈ es → MEntOk pg clss e
  | [], _, R, m => by cases m
  | e' :: es, h, e, m => by
    rcases List.mem_cons.mp m with rfl | m
    · exact h.1
    · exact MEntAll.get h.2 e m
/-- what an exception class must say -/
def excCB (K : PySem.W.Frag) (D : Addr) : Bool :=
  decide (PySem.W.findIn K (.ref D) "__getattribute__" = some (some (.builtin "BaseException.__getattribute__"))) && decide (PySem.W.findIn K (.ref D) "__getattr__" = some none) && decide (PySem.W.subIn K (.ref D) (.type "BaseException") = some true) &&
  PySem.W.hasDictIn K D && decide (PySem.W.findIn K (.ref D) "__class__" = some (some (.builtin "object.__class__"))) && decide (PySem.W.specialIn K (.builtin "object.__class__") "__get__" = some (some (.builtin "getset_descriptor.__get__"))) &&
  decide (PySem.W.takesIn K (.builtin "object.__class__") = some true) && decide (PySem.W.mroIn K D (.type "object") = some true) && PySem.W.excIn K D He.veBase "ValueError.__new__" && PySem.W.keepIn K (.ref D) && decide (PySem.W.typeIn K (.ref D) = some (.type "type"))
/-- a method that is called by its class's name -/
def cvB (K : PySem.W.Frag) (C : Addr) (m : Str) (f : Addr) : Bool := match PySem.W.findCls K (.ref C) (.type "type") m with
  | some (.val (.ref a)) => decide (a = f)
  | _ => false
theorem cvB_ok {K : PySem.W.Frag} {C : Addr} {m : Str} {f : Addr} (h : cvB K C m f = true) : ClX.CVal K C (.type "type") m (.ref f) (.ref f) := by
  unfold cvB at h
  split at h
  · rename_i a e
    obtain rfl := of_decide_eq_true h
    exact ⟨e, rfl⟩
  · cases h
def cmB (cms : List Nat) (K : PySem.W.Frag) : Bool := cms.all fun p => PySem.W.readsIn K (clsA K (p / 1000)) (.type "type") && decide (PySem.W.specialIn K (.ref (clsA K (p / 1000))) "__getattribute__" = some (some (.builtin "type.__getattribute__"))) &&
  cvB K (clsA K (p / 1000)) (mthS (p % 1000)) (He.ma K (clsA K (p / 1000)) (mthS (p % 1000)))
def xcB (xs : List Nat) (K : PySem.W.Frag) : Bool := xs.all fun c => decide (c ≠ 100) && excCB K (clsA K c) && decide (PySem.W.kitOne K (.ref (clsA K c)) (.type "ValueError") = some true) &&
  decide (PySem.W.nsIn K mainGlobals (clsS c) = some (some (.ref (clsA K c)))) && xs.all fun d => decide (PySem.W.kitOne K (.ref (clsA K c)) (.ref (clsA K d)) = some (subc c d)) && decide (PySem.W.exmOne K (.ref (clsA K c)) (.ref (clsA K d)) = some (subc c d))
theorem xcB_ok {xs : List Nat} {K : PySem.W.Frag} {h : Heap} {mg : Str → Option Value} (X : K.In h) (G : h.Ns mainGlobals mg) (e : xcB xs K = true) (hv : mg "ValueError" = none) : XcOk K mg xs := by
  unfold xcB at e
  have key := List.all_eq_true.mp e
  simp only [Bool.and_eq_true, decide_eq_true_eq, List.all_eq_true] at key
  refine ⟨fun c hc => ?_, fun c hc => ?_, fun c hc d hd => ?_, fun c hc d hd => ?_, fun c hc => ?_, hv⟩
  · obtain ⟨⟨⟨⟨a, b⟩, c1⟩, d1⟩, e1⟩ := key c hc
    exact ⟨PySem.W.mg_of X G d1, a⟩
  · obtain ⟨⟨⟨⟨a, b⟩, c1⟩, d1⟩, e1⟩ := key c hc
    unfold excCB at b
    simp only [Bool.and_eq_true, decide_eq_true_eq] at b
    obtain ⟨⟨⟨⟨⟨⟨⟨⟨⟨⟨b1, b2⟩, b3⟩, b4⟩, b5⟩, b6⟩, b7⟩, b8⟩, b9⟩, b10⟩, b11⟩ := b
    exact ⟨⟨b1, b2, b3, b4, b5, b6, b7, b8⟩, b9, b10, b11⟩
  · exact ((key c hc).2 d hd).1
  · exact ((key c hc).2 d hd).2
  · exact (key c hc).1.1.2
theorem law_facts {P : Program} {w : World} {K : PySem.W.Frag} {h : Heap} {mg : Str → Option Value} {pg : Pg} {rows : List Row} {alis : List Ali} {cons : List Con} {clss : List Nat} {flds : List (Nat × Nat)} {ments : List MEnt} {fnT con : List (Nat × Str)} {R : Row} {d : Nat} {x : Str} {f : Addr}
    (X : K.In h) (G : h.Ns mainGlobals mg) (c : He.SaysD (factsOf rows cons clss flds ments) (rows.map Row.dd ++ ments.map fun e => e.R.dd) K) (hfa : mg R.x = some (.ref f)) (hR : R ∈ rows) (hps : R.ps = [x]) (hdf : R.dfl = [])
    (hT : fnT = (rows.map fun R => (R.i, R.x)) ++ alis.map fun A => (A.i, A.R.x)) (hC : con = cons.map fun c => (c.i, c.x)) {xs cms fos mos : List Nat} (hx : (xcB xs K && cmB cms K) = true) (hcs : (ments.all fun e => decide (e.m < 1000)) = true) (hxs : pg.xs = xs) (nf : (fos.all fun f => match pg.fn f with | some F => nxCs (fun f => fos.contains f) (fun m => mos.contains m) F.body | none => true) = true) (nm : ∀ m, mos.contains m = true → ∀ c f, pg.meth c m = some f → fos.contains f = true) (hok : (rows.all fun R => R.okX fnT con xs cms (fun f => fos.contains f) (fun m => mos.contains m)) = true) (hcm : (rows.all fun R => R.cm.isNone) = true) (hF : FnAll pg rows) (hCon : ConAll pg cons) (hB : BindAll rows) (hA : AliAll pg rows alis)
    (hmok : (ments.all fun e => e.R.okX fnT con xs cms (fun f => fos.contains f) (fun m => mos.contains m) && decide (e.R.x = mthS e.m)) = true) (hM : MEntAll pg clss ments) (hmt : ∀ c n f, pg.meth c n = some f → ∃ e, e ∈ ments ∧ e.c = c ∧ e.m = n ∧ e.i = f) (hfl : ∀ c f, pg.hasF c f = true → (c, f) ∈ flds) (hfo : (flds.all fun p => decide (p.2 < 9) && clss.contains p.1) = true)
    (law : ∀ ns : List Int, ns.length ≤ 63 → ∃ Sf, call pg (d + 1) R.i [.scr ns] [] = .ok (.bl true, Sf)) :
    ∃ fd : FuncData, (∀ (s : Shared) (v : Value), BindsTo s fd ⟨[v], []⟩ [(x, v)]) ∧ ∀ base : Heap, K.In base → base.Ns mainGlobals mg → FnOk P w K mg base CX0 (2 * d + 1 + 1) f fd [x] (spLaw K) := by
  have inF : ∀ {fa : He.Fa}, fa ∈ factsOf rows cons clss flds ments → fa.ok K = true := fun h => c.facts h
  have glo : ∀ R, R ∈ rows → mg R.x = some (.ref (He.ga K R.x)) := fun R m => He.glo_ok X G (inF (fa := .glo R.x) (List.mem_append_left _ (List.mem_map_of_mem m)))
  have a1 : ∀ {fa : He.Fa}, fa ∈ frees.map .free → fa.ok K = true := fun h => inF (List.mem_append_right _ (List.mem_append_left _ h))
  have a2 : ∀ {fa : He.Fa}, fa ∈ cons.map Con.fa → fa.ok K = true := fun h => inF (List.mem_append_right _ (List.mem_append_right _ (List.mem_append_left _ h)))
  have a3 : ∀ {fa : He.Fa}, fa ∈ (clss.map fun c => He.Fa.glo (clsS c)) → fa.ok K = true := fun h => inF (List.mem_append_right _ (List.mem_append_right _ (List.mem_append_right _ (List.mem_append_left _ h))))
  have a4 : ∀ {fa : He.Fa}, fa ∈ (clss.map fun c => He.Fa.cls (clsS c)) → fa.ok K = true := fun h => inF (List.mem_append_right _ (List.mem_append_right _ (List.mem_append_right _ (List.mem_append_right _ (List.mem_append_left _ h)))))
  have a5 : ∀ {fa : He.Fa}, fa ∈ (flds.map fun p => He.Fa.noat (clsS p.1) (fldS p.2)) → fa.ok K = true := fun h => inF (List.mem_append_right _ (List.mem_append_right _ (List.mem_append_right _ (List.mem_append_right _ (List.mem_append_right _ (List.mem_append_left _ h))))))
  have a6 : ∀ {fa : He.Fa}, fa ∈ (ments.map MEnt.fas).flatten → fa.ok K = true := fun h => inF (List.mem_append_right _ (List.mem_append_right _ (List.mem_append_right _ (List.mem_append_right _ (List.mem_append_right _ (List.mem_append_right _ h))))))
  have m : MOk K mg pg fnT con := ⟨fun y m => He.free_ok X G (a1 (fa := .free y) (List.mem_map_of_mem m)), fun n y hl => by
    rw [hC] at hl
    obtain ⟨cc, hm, e⟩ := List.mem_map.mp (lookup_mem hl)
    cases e
    obtain ⟨h1, h2⟩ := hCon.get cc hm
    have fa := a2 (fa := cc.fa) (List.mem_map_of_mem hm)
    rcases h2 with ⟨i, e⟩ | ⟨s, e⟩
    · unfold Con.fa at fa
      rw [e] at fa h1
      obtain ⟨u, hu⟩ := He.int_ok X G fa
      exact ⟨_, _, _, h1, rfl, hu, ⟨u, rfl⟩⟩
    · unfold Con.fa at fa
      rw [e] at fa h1
      obtain ⟨u, hu⟩ := He.str_ok X G fa
      exact ⟨_, _, _, h1, rfl, hu, ⟨u, rfl⟩⟩⟩
  have cls : ∀ cc, cc ∈ clss → Cls K (clsA K cc) := fun cc hc => He.cls_ok (a4 (fa := .cls (clsS cc)) (List.mem_map_of_mem (f := fun c => He.Fa.cls (clsS c)) hc))
  have fld : FldOk K pg := fun cc ff hh => by
    have hm := hfl cc ff hh
    have h2 := List.all_eq_true.mp hfo _ hm
    rw [Bool.and_eq_true, decide_eq_true_eq, List.contains_iff_mem] at h2
    exact ⟨h2.1, cls cc h2.2, He.noat_ok (a5 (fa := .noat (clsS cc) (fldS ff)) (List.mem_map_of_mem (f := fun p => He.Fa.noat (clsS p.1) (fldS p.2)) hm))⟩
  have row : ∀ R, R ∈ rows → R.okX fnT con xs cms (fun f => fos.contains f) (fun m => mos.contains m) = true ∧ pg.fn R.i = some R.F ∧ ∃ fd, FunD K R.x R.q R.params R.body R.scope (R.dvs K) [] (He.ga K R.x) fd ∧ Binds K fd R.ps [] := fun R hm => by
    obtain ⟨fd, F⟩ := c.defs (d := R.dd) (List.mem_append_left _ (List.mem_map_of_mem hm))
    have hn := List.all_eq_true.mp hcm R hm
    have ha : He.fAd K R.dd.at_ = He.ga K R.x := by
      unfold Row.dd Row.at_
      cases z : R.cm with
      | none => rfl
      | some _ => rw [z] at hn; cases hn
    rw [ha] at F
    exact ⟨List.all_eq_true.mp hok R hm, hF.get R hm, fd, F, Row.toBinds (hB.get R hm) F⟩
  have ment : ∀ e, e ∈ ments → e.R.okX fnT con xs cms (fun f => fos.contains f) (fun m => mos.contains m) = true ∧ pg.fn e.R.i = some e.R.F ∧ MethIs pg K mg cms e := fun e he => by
    have h1 := List.all_eq_true.mp hmok e he
    rw [Bool.and_eq_true, decide_eq_true_eq] at h1
    obtain ⟨h2, h3, h4, h5⟩ := hM.get e he
    obtain ⟨fd, F⟩ := c.defs (d := e.R.dd) (List.mem_append_right _ (List.mem_map_of_mem (f := fun e => e.R.dd) he))
    have ha : He.fAd K e.R.dd.at_ = He.ma K (clsA K e.c) (mthS e.m) := by
      unfold Row.dd Row.at_
      rw [h4]
      rfl
    rw [ha] at F
    have fm : ∀ {fa : He.Fa}, fa ∈ e.fas → fa.ok K = true := fun h => a6 (List.mem_flatten.mpr ⟨_, List.mem_map_of_mem he, h⟩)
    refine ⟨h1.1, h2, ⟨_, fd, F, cls e.c h3, He.meth_ok (fm (fa := .meth (clsS e.c) (mthS e.m)) List.mem_cons_self), fun hn => ⟨He.glo_ok X G (a3 (fa := .glo (clsS e.c)) (List.mem_map_of_mem (f := fun c => He.Fa.glo (clsS c)) h3)), ?_⟩, fun hn => ?_, ?_⟩⟩
    · have hi : mthS e.m = "__init__" := by
        unfold mthS
        rw [hn]
        rfl
      rw [hi]
      exact He.mkr_ok (fm (fa := .mkr (clsS e.c)) (List.mem_cons_of_mem _ (by rw [if_pos hn]; exact List.mem_singleton.mpr rfl)))
    · have hb := ((Bool.and_eq_true _ _).mp hx).2
      unfold cmB at hb
      have z := List.all_eq_true.mp hb _ (List.contains_iff_mem.mp hn)
      have hm := of_decide_eq_true (List.all_eq_true.mp hcs e he)
      have d1 : (e.c * 1000 + e.m) / 1000 = e.c := by omega
      have d2 : (e.c * 1000 + e.m) % 1000 = e.m := by omega
      rw [d1, d2, Bool.and_eq_true, Bool.and_eq_true, decide_eq_true_eq] at z
      exact ⟨He.glo_ok X G (a3 (fa := .glo (clsS e.c)) (List.mem_map_of_mem (f := fun c => He.Fa.glo (clsS c)) h3)), ⟨z.1.1, z.1.2⟩, cvB_ok z.2⟩
    · cases hA : e.A with
      | none =>
        rw [hA] at h5
        exact Row.toBinds h5 F
      | some a =>
        rw [hA] at h5
        obtain ⟨g1, g2, g3, g4, g5⟩ := h5
        refine ⟨g1, g2, ?_⟩
        have e1 : e.R.dvs K = [a.dv.v K] := by unfold Row.dvs; rw [g4]; rfl
        have F2 : FunD K e.R.x e.R.q e.R.params e.R.body e.R.scope (e.R.dvs K) [] (He.ma K (clsA K e.c) (mthS e.m)) fd := F
        rw [e1] at F2
        exact F2.binds1 (ps := e.R.ps) a.k 0 (by simp) (by rw [g3]; rfl) fun T kV doc pm an cdv ct us its h1 h2 => by
          have := g5 T kV doc pm an cdv ct us its (by rw [g1, g3, h1]) h2
          rw [g1] at this
          exact this
  obtain ⟨q1, q2, fd, F, b⟩ := row R hR
  have e := hfa.symm.trans (glo R hR)
  cases e
  refine ⟨fd, fun s v => ?_, fun base _ _ => ?_⟩
  · have hbind : R.binds := by
      rcases hB.get R hR with ⟨_, h⟩ | ⟨h, _⟩
      · exact h
      · exact absurd hdf h
    have e2 : R.dvs K = [] := by unfold Row.dvs; rw [hdf]; rfl
    rw [e2] at F
    have := F.bindsA hbind s [v] (by rw [hps]; rfl)
    rwa [hps] at this
  · have xc : XcOk K mg xs := xcB_ok X G ((Bool.and_eq_true _ _).mp hx).1 (m.bt _ (by decide +kernel))
    have nf' : ∀ f, fos.contains f = true → ∀ F, pg.fn f = some F → nxCs (fun f => fos.contains f) (fun m => mos.contains m) F.body = true := fun f hf F hF => by
      have := List.all_eq_true.mp nf f (by simpa using hf)
      rw [hF] at this
      exact this
    obtain ⟨tab, tM, tK, tC⟩ := table_ok (P := P) (w := w) (base := base) (rows := rows) (alis := alis) (ments := ments) m fld (fun g y hl => by
      rw [hT] at hl
      rcases List.mem_append.mp (lookup_mem hl) with hm | hm
      · obtain ⟨R', hm2, e⟩ := List.mem_map.mp hm
        cases e
        exact .inl ⟨R', hm2, rfl, rfl⟩
      · obtain ⟨A, hm2, e⟩ := List.mem_map.mp hm
        cases e
        exact .inr ⟨A, hm2, rfl, rfl⟩) xc hxs nf' nm (fun R' hm => by
      obtain ⟨a1, a2, fd', F', b'⟩ := row R' hm
      exact ⟨a1, a2, ⟨_, fd', F', glo R' hm, b'⟩⟩) (fun A hm => by
      have a := hA.get A hm
      obtain ⟨_, _, fd', F', _⟩ := row A.R a.mem
      have e1 : A.R.dvs K = [A.dv.v K] := by unfold Row.dvs; rw [a.dfl]; rfl
      have F2 := F'
      rw [e1] at F2
      obtain ⟨ds, v, b⟩ := F2.binds1 (ps := A.R.ps) A.k 0 (by simp) (by rw [a.pl]; rfl) fun T kV doc pm an cdv ct us its h1 h2 => a.bi T kV doc pm an cdv ct us its (by rw [h1, a.pl]) h2
      exact ⟨a.mem, ⟨⟨a.fn, a.np, a.lt, a.lit⟩, ⟨_, fd', ds, F', glo A.R a.mem, v, b⟩⟩⟩) hmt ment d
    have := row_fnX (P := P) (w := w) (base := base) m q1 q2 F tab tM tK tC fld xc hxs nf' nm
    rw [hps] at this
    exact law_fn this law

/-! ### the head's facts, over what the module's names reach, layer by layer -/
def layerG (g : Addr → Option Obj) (as : List Addr) : List Addr := as.flatMap fun a => match g a with
  | some o => He.refsD o
  | none => []
def asL (g : Addr → Option Obj) : Nat → List Addr → List Addr
  | 0, as => as
  | n + 1, as => as ++ asL g n (layerG g as)
def obsE (fa : List He.Fa) (fn : List He.DefD) (xs cms : List Nat) (K : PySem.W.Frag) : He.AlD := ((He.obsD fa fn K).1 && (xcB xs K && cmB cms K), (He.obsD fa fn K).2)
def obsLE (n : Nat) (fa : List He.Fa) (fn : List He.DefD) (xs cms : List Nat) (g : Addr → Option Obj) : He.AlD := obsE fa fn xs cms (He.frG g (asL g n [mainGlobals] ++ [cStatics]))
theorem obsE_of {fa : List He.Fa} {fn : List He.DefD} {xs cms : List Nat} {K : PySem.W.Frag} (e : obsE fa fn xs cms K = He.valD fn) : He.SaysD fa fn K ∧ (xcB xs K && cmB cms K) = true := by
  have e1 : (obsE fa fn xs cms K).1 = true := congrArg (fun z : He.AlD => z.1) e
  have e2 : (obsE fa fn xs cms K).2 = (He.valD fn).2 := congrArg (fun z : He.AlD => z.2) e
  have e1 : ((He.obsD fa fn K).1 && (xcB xs K && cmB cms K)) = true := e1
  rw [Bool.and_eq_true] at e1
  exact ⟨Prod.ext e1.1 e2, e1.2⟩
def hookE (n : Nat) (fa : List He.Fa) (fn : List He.DefD) (xs cms : List Nat) : PySem.W.Hook where
  α := He.AlD
  obs := fun s => obsLE n fa fn xs cms s.heap.get?
  val := fun _ => He.valD fn
  says := fun _ h => ∃ K : PySem.W.Frag, K.In h ∧ He.SaysD fa fn K ∧ (xcB xs K && cmB cms K) = true
  of := fun _ _ e => ⟨_, He.frG_in, obsE_of e⟩
  keeps := fun _ _ _ ⟨K, hK, c⟩ k => ⟨K, PySem.W.Frag.In.keeps hK k, c⟩
theorem obsLE_eq {n : Nat} {fa : List He.Fa} {fn : List He.DefD} {xs cms : List Nat} {g : Addr → Option Obj} {s : Shared} (h : ∀ a, g a = s.heap.get? a) : obsLE n fa fn xs cms g = (hookE n fa fn xs cms).obs s := by
  have e : g = s.heap.get? := funext h
  rw [e] <;> rfl
/-! ### the head's run, look by look -/
theorem map_two {α β γ : Type} {X : Option α} {f : α → β} {g : α → γ} {b : β} {c : γ} (h1 : X.map f = some b) (h2 : X.map g = some c) : X.map (fun s => (f s, g s)) = some (b, c) := by
  cases X with
  | none => cases h1
  | some s =>
    have a : f s = b := Option.some.inj h1
    have e : g s = c := Option.some.inj h2
    show some (f s, g s) = _
    rw [a, e]
def kfE (n : Nat) (s : PySem.W.SharedT) : PySem.W.Frag := He.frG (HandSHeadRun.getT s) (asL (HandSHeadRun.getT s) n [mainGlobals] ++ [cStatics])
theorem ob_parts {X : Option PySem.W.SharedT} {n : Nat} {fa : List He.Fa} {fn : List He.DefD} {xs cms : List Nat} (i j : Nat)
    (h1 : X.map (fun s => (fa.take i).all fun f => f.ok (kfE n s)) = some true)
    (h2 : X.map (fun s => (fa.drop i).all fun f => f.ok (kfE n s)) = some true)
    (h3 : X.map (fun s => fn.all fun d => d.ok (kfE n s)) = some true)
    (h4 : X.map (fun s => (fn.take j).map fun d => He.fnW (kfE n s) d.at_) = some ((fn.take j).map He.DefD.val))
    (h5 : X.map (fun s => (fn.drop j).map fun d => He.fnW (kfE n s) d.at_) = some ((fn.drop j).map He.DefD.val))
    (h6 : X.map (fun s => xcB xs (kfE n s) && cmB cms (kfE n s)) = some true) :
    X.map (fun s => obsLE n fa fn xs cms (HandSHeadRun.getT s)) = some (He.valD fn) := by
  cases X with
  | none => cases h1
  | some s =>
    have e1 : ((fa.take i).all fun f => f.ok (kfE n s)) = true := Option.some.inj h1
    have e2 : ((fa.drop i).all fun f => f.ok (kfE n s)) = true := Option.some.inj h2
    have e3 : (fn.all fun d => d.ok (kfE n s)) = true := Option.some.inj h3
    have e8 : (xcB xs (kfE n s) && cmB cms (kfE n s)) = true := Option.some.inj h6
    have e4 : ((fn.take j).map fun d => He.fnW (kfE n s) d.at_) = (fn.take j).map He.DefD.val := Option.some.inj h4
    have e5 : ((fn.drop j).map fun d => He.fnW (kfE n s) d.at_) = (fn.drop j).map He.DefD.val := Option.some.inj h5
    have e6 : (fa.all fun f => f.ok (kfE n s)) = true := by
      rw [← List.take_append_drop i fa, List.all_append, e1, e2]; rfl
    have e7 : (fn.map fun d => He.fnW (kfE n s) d.at_) = fn.map He.DefD.val := by
      rw [← List.take_append_drop j fn, List.map_append, List.map_append, e4, e5]
    show some ((((fa.all fun f => f.ok (kfE n s)) && fn.all fun d => d.ok (kfE n s)) && (xcB xs (kfE n s) && cmB cms (kfE n s))), fn.map fun d => He.fnW (kfE n s) d.at_) = some (true, fn.map He.DefD.val)
    rw [e6, e3, e8, e7]
    rfl
end Ev

namespace Ev
section
open PySem PySem.Spec PyProof.Rows L2
def top (i : Nat) : Stmt := PySem.Challenge.pw_mothloom_k02_no_rest.main.body.getD i (.Pass ⟨0, 0, 0, 0⟩)
def r_is_hole : Row := ⟨0, "is_hole", ["thing"], f_is_hole, defArgs (top 15), defBody (top 15), defScope (top 15), [], "is_hole", none⟩
def r_strip_made : Row := ⟨1, "strip_made", ["row", "found", "hole"], f_strip_made, defArgs (top 16), defBody (top 16), defScope (top 16), [], "strip_made", none⟩
def r_rest_made : Row := ⟨2, "rest_made", ["strips", "row"], f_rest_made, defArgs (top 17), defBody (top 17), defScope (top 17), [], "rest_made", none⟩
def r__law_cell : Row := ⟨3, "_law_cell", ["script", "k"], f__law_cell, defArgs (top 19), defBody (top 19), defScope (top 19), [], "_law_cell", none⟩
def r__law_mixed : Row := ⟨4, "_law_mixed", ["cell", "by"], f__law_mixed, defArgs (top 20), defBody (top 20), defScope (top 20), [], "_law_mixed", none⟩
def r__law_row : Row := ⟨5, "_law_row", ["cell", "left", "size", "row", "k"], f__law_row, defArgs (top 21), defBody (top 21), defScope (top 21), [], "_law_row", none⟩
def r__law_strange : Row := ⟨9, "_law_strange", ["cell", "far", "some"], f__law_strange, defArgs (top 22), defBody (top 22), defScope (top 22), [], "_law_strange", none⟩
def r__law_kinds : Row := ⟨10, "_law_kinds", ["rows", "kinds", "e", "some", "more"], f__law_kinds, defArgs (top 23), defBody (top 23), defScope (top 23), [], "_law_kinds", none⟩
def r_law_v1 : Row := ⟨11, "law", ["script", "rows", "cell", "kind", "handed", "row", "many", "k", "kept", "refused"], f_law_v1, defArgs (top 24), defBody (top 24), defScope (top 24), [], "law", none⟩
def rows : List Row := [r_is_hole, r_strip_made, r_rest_made, r__law_cell, r__law_mixed, r__law_row, r__law_strange, r__law_kinds, r_law_v1]
def cons : List Con := [⟨0, "HOLES", .int 60⟩, ⟨1, "STRIPS", .int 60⟩]
def fnT0 : List (Nat × Str) := [(0, Str.ofString "is_hole"), (1, Str.ofString "strip_made"), (2, Str.ofString "rest_made"), (3, Str.ofString "_law_cell"), (4, Str.ofString "_law_mixed"), (5, Str.ofString "_law_row"), (9, Str.ofString "_law_strange"), (10, Str.ofString "_law_kinds"), (11, Str.ofString "law")]
def alis : List Ali := []
def fnT : List (Nat × Str) := fnT0
def conT : List (Nat × Str) := [(0, "HOLES"), (1, "STRIPS")]
def ments : List MEnt := []
def clss : List Nat := []
def flds : List (Nat × Nat) := []
--PART2
theorem rows_ok : (rows.all fun R => R.okX fnT conT xsT cmsT (fun f => fosT.contains f) (fun m => mosT.contains m)) = true := by decide +kernel
theorem ments_lt : (ments.all fun e => decide (e.m < 1000)) = true := by decide +kernel
theorem nf_ok : (fosT.all fun f => match pg.fn f with | some F => nxCs (fun f => fosT.contains f) (fun m => mosT.contains m) F.body | none => true) = true := by decide +kernel
theorem nm_mem : (mthT.all fun p => !(mosT.contains (p.1 % 1000)) || fosT.contains p.2) = true := by decide +kernel
theorem nm_ok : ∀ m, mosT.contains m = true → ∀ c f, pg.meth c m = some f → fosT.contains f = true := fun m hm c f h => by
  have h : (if m < 1000 then mthT.lookup (c * 1000 + m) else none) = some f := h
  split at h
  · rename_i hn
    have q := List.all_eq_true.mp nm_mem _ (lookup_mem h)
    have e : (c * 1000 + m) % 1000 = m := by omega
    rw [Bool.or_eq_true, e, hm] at q
    rcases q with q | q
    · cases q
    · exact q
  · cases h
theorem rows_cm : (rows.all fun R => R.cm.isNone) = true := by decide +kernel
theorem ments_ok : (ments.all fun e => e.R.okX fnT conT xsT cmsT (fun f => fosT.contains f) (fun m => mosT.contains m) && decide (e.R.x = mthS e.m)) = true := by decide +kernel
theorem flds_ok : (flds.all fun p => decide (p.2 < 9) && clss.contains p.1) = true := by decide +kernel
theorem fn_all : FnAll pg rows := ⟨rfl, rfl, rfl, rfl, rfl, rfl, rfl, rfl, rfl, trivial⟩
theorem con_all : ConAll pg cons := ⟨⟨rfl, .inl ⟨_, rfl⟩⟩, ⟨rfl, .inl ⟨_, rfl⟩⟩, trivial⟩
theorem b_is_hole : r_is_hole.bindsE := .inl ⟨rfl, fun _ _ _ _ _ _ us hl => match us, hl with | [_], _ => rfl⟩
theorem b_strip_made : r_strip_made.bindsE := .inl ⟨rfl, fun _ _ _ _ _ _ us hl => match us, hl with | [_], _ => rfl⟩
theorem b_rest_made : r_rest_made.bindsE := .inl ⟨rfl, fun _ _ _ _ _ _ us hl => match us, hl with | [_], _ => rfl⟩
theorem b__law_cell : r__law_cell.bindsE := .inl ⟨rfl, fun _ _ _ _ _ _ us hl => match us, hl with | [_, _], _ => rfl⟩
theorem b__law_mixed : r__law_mixed.bindsE := .inl ⟨rfl, fun _ _ _ _ _ _ us hl => match us, hl with | [_, _], _ => rfl⟩
theorem b__law_row : r__law_row.bindsE := .inl ⟨rfl, fun _ _ _ _ _ _ us hl => match us, hl with | [_], _ => rfl⟩
theorem b__law_strange : r__law_strange.bindsE := .inl ⟨rfl, fun _ _ _ _ _ _ us hl => match us, hl with | [_], _ => rfl⟩
theorem b__law_kinds : r__law_kinds.bindsE := .inl ⟨rfl, fun _ _ _ _ _ _ us hl => match us, hl with | [_], _ => rfl⟩
theorem b_law_v1 : r_law_v1.bindsE := .inl ⟨rfl, fun _ _ _ _ _ _ us hl => match us, hl with | [_], _ => rfl⟩
theorem bind_all : BindAll rows := ⟨b_is_hole, b_strip_made, b_rest_made, b__law_cell, b__law_mixed, b__law_row, b__law_strange, b__law_kinds, b_law_v1, trivial⟩
theorem ali_all : AliAll pg rows alis := trivial
theorem ment_all : MEntAll pg clss ments := trivial
theorem mth_mem : (mthT.all fun p => ments.any fun e => decide (e.c * 1000 + e.m = p.1 ∧ e.m < 1000 ∧ e.i = p.2)) = true := by decide +kernel
theorem mth_ok : ∀ c n f, pg.meth c n = some f → ∃ e, e ∈ ments ∧ e.c = c ∧ e.m = n ∧ e.i = f := fun c n f h => by
  have h : (if n < 1000 then mthT.lookup (c * 1000 + n) else none) = some f := h
  split at h
  · rename_i hn
    obtain ⟨e, he, h2⟩ := List.any_eq_true.mp (List.all_eq_true.mp mth_mem _ (lookup_mem h))
    obtain ⟨q1, q2, q3⟩ := of_decide_eq_true h2
    have q1 : e.c * 1000 + e.m = c * 1000 + n := q1
    exact ⟨e, he, by omega, by omega, q3⟩
  · cases h
theorem fld_mem : (fldT.all fun p => flds.any fun q => decide (q.1 * 1000 + q.2 = p ∧ q.2 < 1000)) = true := by decide +kernel
theorem fld_ok : ∀ c f, pg.hasF c f = true → (c, f) ∈ flds := fun c f h => by
  have h : (decide (f < 1000) && fldT.contains (c * 1000 + f)) = true := h
  rw [Bool.and_eq_true, decide_eq_true_eq] at h
  obtain ⟨hf, h⟩ := h
  obtain ⟨e, he, h2⟩ := List.any_eq_true.mp (List.all_eq_true.mp fld_mem _ (List.contains_iff_mem.mp h))
  obtain ⟨q1, q2⟩ := of_decide_eq_true h2
  have q1 : e.1 * 1000 + e.2 = c * 1000 + f := q1
  have : e = (c, f) := Prod.ext (by omega) (by omega)
  rw [← this]; exact he
--PART1
def fa : List He.Fa := factsOf rows cons clss flds ments
def fdn : List He.DefD := rows.map Row.dd ++ ments.map fun e => e.R.dd
abbrev RW : PySem.W.OpenRow := PySem.W.OpenLaw.row PySem.Challenge.rw_mothloom_k02_no_rest
abbrev hk : PySem.W.Hook := hookE 4 fa fdn xsT cmsT
def ob (s : PySem.W.SharedT) : He.AlD := obsLE 4 fa fdn xsT cmsT (HandSHeadRun.getT s)
theorem ob_eq (s : PySem.W.SharedT) : ob s = hk.obs s.abs := obsLE_eq (HandSHeadRun.getT_eq s)
def lo0 : List PySem.Str := ["LoomError", "NoRest", "TooLarge", "NoLoom", "NoRibbon", "NoHole", "Taken", "Over", "NoDeed", "NoPage", "NoPaper", "HOLES", "STRIPS", "is_hole", "strip_made", "rest_made", "_law_cell", "_law_mixed", "_law_row", "_law_strange", "_law_kinds"]
def loose : List PySem.Str := lo0
theorem run (w : World) : HandSHeadRun.RunEq RW (PySem.W.view RW.prog [24]) hk ob 15000 loose w := by
  intro os
  kernel_rfl
--PART2
theorem facts {P : Program} {w : World} {K : PySem.W.Frag} {h : Heap} {mg : Str → Option Value} {f : Addr} (X : K.In h) (G : h.Ns mainGlobals mg) (hfa : mg ("law" : Str) = some (.ref f)) (c : He.SaysD fa fdn K) (hx : (xcB xsT K && cmB cmsT K) = true) :
    ∃ fd : FuncData, (∀ (s : Shared) (v : Value), BindsTo s fd ⟨[v], []⟩ [("script", v)]) ∧ ∀ base : Heap, K.In base → base.Ns mainGlobals mg → FnOk P w K mg base CX0 (2 * 9 + 1 + 1) f fd ["script"] (spLaw K) :=
  law_facts (alis := alis) (ments := ments) (R := r_law_v1) (d := 9) (x := "script") X G c hfa (by unfold rows; simp only [List.mem_cons, true_or, or_true]) rfl rfl rfl rfl hx ments_lt rfl nf_ok nm_ok rows_ok rows_cm fn_all con_all bind_all ali_all ments_ok ment_all mth_ok fld_ok flds_ok fun ns hl => by first | exact the_law ns hl | exact ⟨_, the_law ns hl⟩
end
end Ev
open PySem PySem.W PySem.Calls PyProof.Rows
theorem PySem.Challenge.cw_mothloom_k02_no_rest_holds : PySem.Challenge.rw_mothloom_k02_no_rest.Holds := by
  w_on; o_law
  refine HandSHeadRun.head_any (r := OpenLaw.row PySem.Challenge.rw_mothloom_k02_no_rest) (q := view (OpenLaw.row PySem.Challenge.rw_mothloom_k02_no_rest).prog [24]) (H := Ev.hk) (ob := Ev.ob) (M := 15000) (loose := Ev.loose) (d := HandSHeadRun.topDef (OpenLaw.row PySem.Challenge.rw_mothloom_k02_no_rest).prog 24) (kwd := []) Ev.ob_eq
    (by kernel_rfl) (fun s => by kernel_rfl) Ev.run (by kernel_rfl) (by kernel_rfl) (by kernel_rfl) (by rfl) (by first | assumption | decide +kernel) (by decide +kernel) ⟨rfl, rfl, rfl, rfl, rfl, by decide +kernel⟩ ?hw ?hc
  case hw => w_witness2
  case hc =>
    refine L2.walk_ofE (l := PySem.Challenge.rw_mothloom_k02_no_rest) (n := 63) (k := 2 * 9 + 1 + 1) (x := "script") (CX := L2.CX0) rfl (by decide) (by kernel_rfl) ⟨rfl, by decide, by decide⟩ ?F (fun _ _ _ _ z => z)
    intro w mg fa h Y G hmg0
    obtain ⟨K, KX, c, hx⟩ := Y
    have hmg : mg ("law" : PySem.Str) = some (.ref fa) := by
      have e : (HandSHeadRun.topDef (OpenLaw.row PySem.Challenge.rw_mothloom_k02_no_rest).prog 24).name = ("law" : PySem.Str) := by kernel_rfl
      rw [← e]
      exact hmg0
    obtain ⟨fd, hb, hF⟩ := Ev.facts (P := (PySem.Challenge.rw_mothloom_k02_no_rest).prog) (w := w) KX G hmg c hx
    exact ⟨K, fd, Ev.spLaw K, KX, hb, fun H a ns hl _ hS => ⟨a, ns, rfl, hl, hS, fun _ => rfl⟩, hF⟩
