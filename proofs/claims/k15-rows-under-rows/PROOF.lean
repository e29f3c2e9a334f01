import PyProof.Rows.All
import PySem.Syntax
import PySem.PyData
import PyProof.P3Statements
import PyProof.Lay0
import KE.LtData
import KE.SortLaws
import HandS.List
import HandS.Comp
import HandS.Words
import Wide.All
import OpenK.AllK
import Wide.FinOn
import HandS.ForMost
import HandS.HeadHook2
import KE.SortData
import KE.KDictKeyed
import KE.KDictWalk
import HandS.TupAny
import HandS.TupMul
import HandS.Style
import HandS.Deep
import KE.DataCmp
import HandS.TupLen
import KE.KDictCopyH
import HandS.More
import PyProof.CallFns
import HandS.Strs
import HandS.Zip
import HandS.Iter
import KE.GoesMore
import HandS.CallLocal
import HandS.Star
import HandS.DictComp
import HandS.Defaults
import HandS.Head0
import HandS.Head1
import HandS.Head2
import HandS.HeadEnd
import HandS.HeadHook1
import KE.KStateDown
import PySem.Challenge.RW_frontjobs_k15_whole_rows_under_rows
set_option autoImplicit false
set_option linter.all false
/-! Ev0: a small form of the Python that T.py uses, and what it computes on plain data (PyData).
A list or dict that a def changes by itself is OWNED by its slot; all other data are frozen. -/
namespace FJ
open PySem

/-- what a name holds -/
inductive Slot where
  | un | fz (d : PyData) | ow (d : PyData) | fn (x : Str) | scr (ns : List Int)
abbrev Rh := List Slot
/-- what an expression gives: frozen data, a new list or dict that nobody else has, the owned slot i itself, a def, the script -/
inductive Val where
  | d (x : PyData) | fresh (x : PyData) | bor (i : Nat) | fn (x : Str) | scr (ns : List Int)
inductive Out (α : Type) where
  | ok (a : α) (r : Rh) | exc (c : Str) (x : PyData) | stuck
def Out.bind {α β : Type} (o : Out α) (f : α → Rh → Out β) : Out β := match o with
  | .ok a r => f a r
  | .exc c x => .exc c x
  | .stuck => .stuck
/-- what a call gives: the result, and what the arguments' slots hold behind it -/
inductive Res where
  | ok (r : Slot) (outs : List Slot) | exc (c : Str) (x : PyData) | stuck
inductive Fl where
  | next | brk | cont | ret (v : Val)

inductive Bop where
  | add | sub | mul | fdiv | mod | pow
  deriving DecidableEq
inductive Cop where
  | eq | ne | lt | le | gt | ge | isin | notin | is | isnot
  deriving DecidableEq
inductive B1 where
  | len | tuple | list | int | dict | sorted | sset | all | any | repr | max
  deriving DecidableEq
inductive B2 where
  | min | max | lzip
  deriving DecidableEq
inductive Ty where
  | int | bool | str | tuple | list | dict
  deriving DecidableEq
mutual
inductive ITg where
  | nm (i : Nat) | tp (ts : ITgs)
inductive ITgs where
  | nil | cons (t : ITg) (r : ITgs)
end
mutual
inductive IE where
  | loc (i : Nat) | pk (i : Nat) | cst (d : PyData) | fnc (x : Str) | fz (e : IE)
  | tup (xs : IL) | lst (xs : IL) | dsp (kvs : IL)
  | bin (o : Bop) (a b : IE) | neg (a : IE)
  | cmp (o : Cop) (a b : IE) | chn (o o' : Cop) (a b c : IE)
  | and (a b : IE) | or (a b : IE) | not (a : IE) | ife (c a b : IE)
  | call (f : Str) (xs : IL) | callv (i : Nat) (xs : IL)
  | b1 (b : B1) (a : IE) | b2 (b : B2) (a b : IE) | isi (t : Ty) (a : IE)
  | get (a k x : IE) | index (a x : IE)
  | popl (i : Nat) | popd (i : Nat) (k : IE) | popx (i : Nat) (k x : IE)
  | item (a i : IE) | slc (a : IE) (lo hi : IO) | rev (a : IE)
  | lc (own : List Nat) (e : IE) (g : IG) | dc (own : List Nat) (k v : IE) (g : IG)
/-- lists of expressions -/
inductive IL where
  | nil | cons (e : IE) (r : IL) | star (e : IE) (r : IL)
inductive IO where
  | none | some (e : IE)
/-- what is walked -/
inductive II where
  | val (e : IE) | rng (e : IE) | enum (e : IE) | zip (a b : IE) | items (e : IE)
/-- the clauses of a comprehension: for and its tests, once or twice -/
inductive IG where
  | one (t : ITg) (it : II) (ifs : IL) | two (t : ITg) (it : II) (ifs : IL) (t1 : ITg) (it1 : II) (ifs1 : IL)
end
mutual
inductive IS where
  | asg (t : ITg) (e : IE) | par (is : List Nat) (es : IL)
  | put (i : Nat) (k e : IE) | aug (i : Nat) (o : Bop) (e : IE) | augp (i : Nat) (k : IE) (o : Bop) (e : IE)
  | ex (e : IE) | app (i : Nat) (e : IE) | ext (i : Nat) (e : IE)
  | ite (c : IE) (a b : ISs) | while (c : IE) (b : ISs) | for (t : ITg) (it : II) (b : ISs)
  | ret (e : IE) | retN | raise (c : Str) (e : IE) | cont | brk | pass
inductive ISs where
  | nil | cons (s : IS) (r : ISs)
end

/-! ### data -/
def Rh.dat (r : Rh) (i : Nat) : Option PyData := match r[i]? with
  | some (.fz d) => some d
  | some (.ow d) => some d
  | _ => none
def Val.peek (r : Rh) : Val → Option PyData
  | .d x => some x
  | .fresh x => some x
  | .bor i => r.dat i
  | .fn _ => none
  | .scr _ => none
def Val.keep (r : Rh) : Val → Out Val
  | .d x => .ok (.d x) r
  | .fresh x => .ok (.d x) r
  | .bor i => match r[i]? with
    | some (.fz y) => .ok (.d y) r
    | some (.ow y) => .ok (.d y) (r.set i (.fz y))
    | _ => .stuck
  | .fn x => .ok (.fn x) r
  | .scr ns => .ok (.scr ns) r
/-- data in the hand of an operation -/
def pkd {β : Type} (o : Out Val) (f : PyData → Rh → Out β) : Out β := o.bind fun v r => match v.peek r with
  | some x => f x r
  | none => .stuck
def pk2 {β : Type} (v u : Val) (r : Rh) (f : PyData → PyData → Out β) : Out β := match v.peek r with
  | some x => match u.peek r with
    | some y => f x y
    | none => .stuck
  | none => .stuck
/-- frozen data alone -/
def dat {β : Type} (o : Out Val) (f : PyData → Rh → Out β) : Out β := o.bind fun v r => match v with
  | .d x => f x r
  | _ => .stuck
def boo {β : Type} (o : Out Val) (f : Bool → Rh → Out β) : Out β := o.bind fun v r => match v with
  | .d (.bool b) => f b r
  | _ => .stuck
def ofO (o : Option Val) (r : Rh) : Out Val := match o with
  | some (.d x) => .ok (.d x) r
  | some (.fresh x) => .ok (.fresh x) r
  | _ => .stuck

mutual
def noDict : PyData → Bool
  | .none => true
  | .bool _ => true
  | .int _ => true
  | .str _ => true
  | .list xs => noDicts xs
  | .tuple xs => noDicts xs
  | .dict _ => false
def noDicts : List PyData → Bool
  | [] => true
  | x :: xs => noDict x && noDicts xs
end
/-- == may be asked -/
def eqOk (x y : PyData) : Bool := noDict x && noDict y && decide (min x.depth y.depth ≤ 64)
def ltOk (x y : PyData) : Bool := eqOk x y && PySem.W.alike x y && (match x with
  | .none => false
  | _ => true)
def mulOk (i j : Int) : Bool := (decide (-(2 ^ 64) < i) && decide (i < 2 ^ 64)) || (decide (-(2 ^ 64) < j) && decide (j < 2 ^ 64))
def repd {α : Type} (xs : List α) (k : Nat) : List α := (List.replicate k xs).flatten

def binD : Bop → PyData → PyData → Option Val
  | .add, .int i, .int j => some (.d (.int (i + j)))
  | .add, .str x, .str y => if x.length + y.length ≤ sizeLine then some (.d (.str (x ++ y))) else none
  | .add, .list xs, .list ys => if xs.length + ys.length ≤ sizeLine then some (.fresh (.list (xs ++ ys))) else none
  | .add, .tuple xs, .tuple ys => if xs.length + ys.length ≤ sizeLine then some (.d (.tuple (xs ++ ys))) else none
  | .sub, .int i, .int j => some (.d (.int (i - j)))
  | .mul, .int i, .int j => if mulOk i j then some (.d (.int (i * j))) else none
  | .mul, .list xs, .int k => if decide (-(2 ^ 63) ≤ k) && decide (k < 2 ^ 63) && decide (xs.length * k.toNat ≤ sizeLine) then some (.fresh (.list (repd xs k.toNat))) else none
  | .mul, .tuple xs, .int k => if !xs.isEmpty && decide (2 ≤ k) && decide (k ≤ 1000) && decide (xs.length ≤ 1000) then some (.d (.tuple (repd xs k.toNat))) else none
  | .fdiv, .int i, .int j => if decide (0 < j) && decide (j < 1073741824) then some (.d (.int (i / j))) else none
  | .mod, .int i, .int j => if 0 < j then some (.d (.int (i % j))) else none
  | .pow, .int i, .int j => if decide (0 ≤ j) && decide (j ≤ 1000000) && decide (i.natAbs < 2 ^ 64) then some (.d (.int (i ^ j.toNat))) else none
  | _, _, _ => none

mutual
/-- a key that a dict may have: ints and texts, or tuples of such, None and bools, nested -/
def nkOk : PyData → Bool
  | .none => true
  | .bool _ => true
  | .int _ => true
  | .str _ => true
  | .tuple xs => nksOk xs
  | .list _ => false
  | .dict _ => false
def nksOk : List PyData → Bool
  | [] => true
  | x :: xs => nkOk x && nksOk xs
end
def flatKey : PyData → Bool
  | .int _ => true
  | .str _ => true
  | _ => false
def tupKey : PyData → Bool
  | .tuple xs => nksOk xs && decide (PyData.depthAll xs ≤ 7)
  | _ => false
/-- the key is of the kind that the dict has -/
def keyFits (kvs : List (PyData × PyData)) (k : PyData) : Bool := (flatKey k && kvs.all fun p => flatKey p.1) || (tupKey k && kvs.all fun p => tupKey p.1)
def dfind (kvs : List (PyData × PyData)) (k : PyData) : Option PyData := (kvs.find? fun p => PyData.eqv p.1 k).map (·.2)
def dput (kvs : List (PyData × PyData)) (k v : PyData) : List (PyData × PyData) :=
  if (kvs.any fun p => PyData.eqv p.1 k) = true then kvs.map fun p => if PyData.eqv p.1 k = true then (p.1, v) else p else kvs ++ [(k, v)]
def ddel (kvs : List (PyData × PyData)) (k : PyData) : List (PyData × PyData) := kvs.filter fun p => !PyData.eqv p.1 k
/-- a dict of these pairs, one after another -/
def dmake : List (PyData × PyData) → List (PyData × PyData) → Option (List (PyData × PyData))
  | acc, [] => some acc
  | acc, (k, v) :: r => if keyFits acc k && decide (acc.length < sizeLine) then dmake (dput acc k v) r else none

def eqD (x y : PyData) : Option Bool := if eqOk x y then some (PyData.eqv x y) else none
def memD (x : PyData) (ys : List PyData) : Option Bool := if noDict x && ys.all (fun y => eqOk x y) then some (ys.any fun y => PyData.eqv y x) else none
def strLe (x y : Str) : Bool := !decide (y.cps.toList < x.cps.toList)
def isNonD : PyData → Bool
  | .none => true
  | _ => false
def isBlD (b : Bool) : PyData → Bool
  | .bool c => b == c
  | _ => false
def cmpD : Cop → PyData → PyData → Option Bool
  | .eq, x, y => eqD x y
  | .ne, x, y => (eqD x y).map (!·)
  | .lt, .int i, .int j => some (decide (i < j))
  | .lt, x, y => if ltOk x y then some (PySem.W.dataLt x y) else none
  | .le, .int i, .int j => some (decide (i ≤ j))
  | .gt, .int i, .int j => some (decide (j < i))
  | .ge, .int i, .int j => some (decide (j ≤ i))
  | .isin, x, .list ys => memD x ys
  | .isin, x, .tuple ys => memD x ys
  | .isin, k, .dict kvs => if keyFits kvs k then some (dfind kvs k).isSome else none
  | .notin, x, .list ys => (memD x ys).map (!·)
  | .notin, x, .tuple ys => (memD x ys).map (!·)
  | .notin, k, .dict kvs => if keyFits kvs k then some (!(dfind kvs k).isSome) else none
  | .is, x, .none => some (isNonD x)
  | .isnot, x, .none => some (!isNonD x)
  | .is, x, .bool b => some (isBlD b x)
  | .isnot, x, .bool b => some (!isBlD b x)
  | _, _, _ => none

def isTy : Ty → PyData → Bool
  | .int, .int _ => true
  | .int, .bool _ => true
  | .bool, .bool _ => true
  | .str, .str _ => true
  | .tuple, .tuple _ => true
  | .list, .list _ => true
  | .dict, .dict _ => true
  | _, _ => false
def bools : List PyData → Option (List Bool)
  | [] => some []
  | .bool b :: r => (bools r).map (b :: ·)
  | _ :: _ => none
def sortOk (xs : List PyData) : Bool := noDicts xs && (xs.all fun x => xs.all fun y => PySem.W.alike x y) && (xs.all fun x => decide (x.depth ≤ 64)) &&
  ((xs.all fun x => match x with
    | .tuple (_ :: _) => true
    | _ => false) || (xs.all fun x => match x with
    | .int _ => true
    | .str _ => true
    | _ => false))
def sortD (xs : List PyData) : List PyData := xs.mergeSort fun x y => !PySem.W.dataLt y x
/-- the first of equal ones alone -/
def dedup : List PyData → List PyData
  | [] => []
  | x :: r => x :: (dedup r).filter fun y => !PyData.eqv x y
def pairsD : List PyData → Option (List (PyData × PyData))
  | [] => some []
  | .tuple [k, v] :: r => (pairsD r).map ((k, v) :: ·)
  | _ :: _ => none
def intsD : List PyData → Option (List Int)
  | [] => some []
  | .int i :: r => (intsD r).map (i :: ·)
  | _ :: _ => none
def maxI : Int → List Int → Int
  | m, [] => m
  | m, i :: r => maxI (if i > m then i else m) r

def dictD (xs : List PyData) : Option Val := match pairsD xs with
  | some ps => (dmake [] ps).map fun kvs => .fresh (.dict kvs)
  | none => none
def b1D : B1 → PyData → Option Val
  | .len, .list xs => some (.d (.int xs.length))
  | .len, .tuple xs => some (.d (.int xs.length))
  | .len, .dict kvs => some (.d (.int kvs.length))
  | .len, .str x => if x.length ≤ sizeLine then some (.d (.int x.length)) else none
  | .tuple, .list xs => some (.d (.tuple xs))
  | .tuple, .tuple xs => some (.d (.tuple xs))
  | .list, .list xs => some (.fresh (.list xs))
  | .list, .tuple xs => some (.fresh (.list xs))
  | .list, .dict kvs => if kvs.all fun p => flatKey p.1 then some (.fresh (.list (kvs.map (·.1)))) else none
  | .int, .int i => some (.d (.int i))
  | .int, .bool b => some (.d (.int (if b then 1 else 0)))
  | .dict, .dict kvs => if kvs.all fun p => flatKey p.1 then some (.fresh (.dict kvs)) else none
  | .dict, .list xs => dictD xs
  | .dict, .tuple xs => dictD xs
  | .sorted, .list xs => if sortOk xs then some (.fresh (.list (sortD xs))) else none
  | .all, .list xs => (bools xs).map fun bs => .d (.bool (bs.all id))
  | .any, .list xs => (bools xs).map fun bs => .d (.bool (bs.any id))
  | .max, .list xs => match intsD xs with
    | some (i :: r) => some (.d (.int (maxI i r)))
    | _ => none
  | .repr, .bool b => some (.d (.str (if b = true then "True" else "False")))
  | _, _ => none
def zipD : List PyData → List PyData → List PyData
  | x :: xs, y :: ys => .tuple [x, y] :: zipD xs ys
  | _, _ => []
def b2D : B2 → PyData → PyData → Option Val
  | .min, .int i, .int j => some (.d (.int (if j < i then j else i)))
  | .max, .int i, .int j => some (.d (.int (if j > i then j else i)))
  | _, _, _ => none
def itemD : PyData → PyData → Option PyData
  | .list xs, .int i => L2.atI xs i
  | .tuple xs, .int i => L2.atI xs i
  | .dict kvs, k => if keyFits kvs k then dfind kvs k else none
  | _, _ => none
def getD : PyData → PyData → PyData → Option PyData
  | .dict kvs, k, x => if keyFits kvs k then some ((dfind kvs k).getD x) else none
  | _, _, _ => none
def strsD : List PyData → Option (List Str)
  | [] => some []
  | .str x :: r => (strsD r).map (x :: ·)
  | _ :: _ => none
def indexD : PyData → PyData → Option Val
  | .list xs, x => if noDict x && xs.all (fun y => eqOk x y) then (match xs.findIdx? fun y => PyData.eqv y x with
    | some n => some (.d (.int n))
    | none => none) else none
  | .tuple xs, .str x => match strsD xs with
    | some ys => match ys.findIdx? fun y => decide (y = x) with
      | some n => some (.d (.int n))
      | none => none
    | none => none
  | _, _ => none
/-- of one type -/
def sameK : PyData → PyData → Bool
  | .list _, .list _ => true
  | .tuple _, .tuple _ => true
  | _, _ => false
def cutD (xs : List PyData) (lo hi : Option Int) : List PyData := (xs.drop (HT.sIx xs.length 0 lo)).take (HT.sIx xs.length xs.length hi - HT.sIx xs.length 0 lo)
def slcD : PyData → Option Int → Option Int → Option Val
  | .list xs, lo, hi => some (.fresh (.list (cutD xs lo hi)))
  | .tuple xs, lo, hi => some (.d (.tuple (cutD xs lo hi)))
  | _, _, _ => none
def revD : PyData → Option Val
  | .list xs => some (.fresh (.list xs.reverse))
  | _ => none
def starD : PyData → Option (List PyData)
  | .list xs => some xs
  | .tuple xs => some xs
  | _ => none
def listD : PyData → Option (List PyData)
  | .list xs => some xs
  | .tuple xs => some xs
  | .dict kvs => some (kvs.map (·.1))
  | _ => none
def enumD : Nat → List PyData → List PyData
  | _, [] => []
  | n, x :: r => .tuple [.int n, x] :: enumD (n + 1) r
def rngD (i : Int) : List PyData := (List.range i.toNat).map fun (k : Nat) => .int k

/-! ### what is done with slots -/
mutual
def tgD : ITg → PyData → Rh → Option Rh
  | .nm i, x, r => some (r.set i (.fz x))
  | .tp ts, .tuple xs, r => tgsD ts xs r
  | .tp _, _, _ => none
def tgsD : ITgs → List PyData → Rh → Option Rh
  | .nil, [], r => some r
  | .cons t ts, x :: xs, r => match tgD t x r with
    | some r1 => tgsD ts xs r1
    | none => none
  | _, _, _ => none
end
def tgV : ITg → Val → Rh → Option Rh
  | .nm i, .fresh x, r => some (r.set i (.ow x))
  | t, .d x, r => tgD t x r
  | _, _, _ => none
mutual
def tgNames : ITg → List Nat
  | .nm i => [i]
  | .tp ts => tgsNames ts
def tgsNames : ITgs → List Nat
  | .nil => []
  | .cons t ts => tgNames t ++ tgsNames ts
end
def tgIn (own : List Nat) (t : ITg) : Bool := (tgNames t).all fun i => own.contains i
def wipeR (r : Rh) : List Nat → Rh
  | [] => r
  | v :: vs => (wipeR r vs).set v .un
/-- the slots of own as they were -/
def backR (r0 : Rh) (r : Rh) : List Nat → Rh
  | [] => r
  | v :: vs => (backR r0 r vs).set v (r0.getD v .un)
/-- an argument's slot -/
def argOf (r : Rh) : Val → Option Slot
  | .d x => some (.fz x)
  | .fresh x => some (.ow x)
  | .bor i => match r[i]? with
    | some (.ow x) => some (.ow x)
    | some (.fz x) => some (.fz x)
    | _ => none
  | .fn x => some (.fn x)
  | .scr ns => some (.scr ns)
def argsOf (r : Rh) : List Val → Option (List Slot)
  | [] => some []
  | v :: vs => match argOf r v, argsOf r vs with
    | some s, some ss => some (s :: ss)
    | _, _ => none
/-- lent slots, given back -/
def back1 (v : Val) (s : Slot) (r : Rh) : Rh := match v with
  | .bor i => match r[i]? with
    | some (.ow _) => r.set i s
    | _ => r
  | _ => r
def backA : List Val → List Slot → Rh → Rh
  | v :: vs, s :: ss, r => backA vs ss (back1 v s r)
  | _, _, r => r
def borsOf : List Val → List Nat
  | [] => []
  | .bor i :: vs => i :: borsOf vs
  | _ :: vs => borsOf vs
def valOf : Slot → Option Val
  | .fz x => some (.d x)
  | .ow x => some (.fresh x)
  | .fn _ => none
  | .scr _ => none
  | .un => none
def called (Φ : Str → List Slot → Res) (f : Str) (vs : List Val) (r : Rh) : Out Val :=
  if (borsOf vs).Nodup then match argsOf r vs with
    | some as => match Φ f as with
      | .ok s outs => if outs.length = as.length then (match s with
        | .fz x => .ok (.d x) (backA vs outs r)
        | .ow x => .ok (.fresh x) (backA vs outs r)
        | _ => .stuck) else .stuck
      | .exc c x => .exc c x
      | .stuck => .stuck
    | none => .stuck
  else .stuck

def compR {β : Type} (f : PyData → Rh → Out (List β)) : List PyData → Rh → Out (List β)
  | [], r => .ok [] r
  | x :: xs, r => (f x r).bind fun ys r1 => (compR f xs r1).bind fun zs r2 => .ok (ys ++ zs) r2
def forR (f : PyData → Rh → Out Fl) : List PyData → Rh → Out Fl
  | [], r => .ok .next r
  | x :: xs, r => (f x r).bind fun fl r1 => match fl with
    | .next => forR f xs r1
    | .cont => forR f xs r1
    | .brk => .ok .next r1
    | .ret v => .ok (.ret v) r1
def whileR (c : Rh → Out Bool) (b : Rh → Out Fl) : Nat → Rh → Out Fl
  | 0, _ => .stuck
  | n + 1, r => (c r).bind fun t r1 => if t = true then (b r1).bind fun fl r2 => match fl with
      | .next => whileR c b n r2
      | .cont => whileR c b n r2
      | .brk => .ok .next r2
      | .ret v => .ok (.ret v) r2
    else .ok .next r1

/-- pairs that are handed out go to several names -/
def tgOk : ITg → II → Bool
  | .nm _, .enum _ => false
  | .nm _, .zip _ _ => false
  | .nm _, .items _ => false
  | _, _ => true
/-! ### what it computes -/
section
variable (Φ : Str → List Slot → Res) (N : Nat)
mutual
def den : IE → Rh → Out Val
  | .loc i, r => match r[i]? with
    | some (.fz d) => .ok (.d d) r
    | some (.ow d) => .ok (.d d) (r.set i (.fz d))
    | some (.fn x) => .ok (.fn x) r
    | some (.scr ns) => .ok (.scr ns) r
    | _ => .stuck
  | .pk i, r => match r[i]? with
    | some (.fz d) => .ok (.d d) r
    | some (.ow _) => .ok (.bor i) r
    | some (.fn x) => .ok (.fn x) r
    | some (.scr ns) => .ok (.scr ns) r
    | _ => .stuck
  | .cst d, r => .ok (.d d) r
  | .fnc x, r => .ok (.fn x) r
  | .fz e, r => (den e r).bind fun v r1 => v.keep r1
  | .tup xs, r => (denK xs r).bind fun ds r1 => if ds.length ≤ sizeLine then .ok (.d (.tuple ds)) r1 else .stuck
  | .lst xs, r => (denK xs r).bind fun ds r1 => if ds.length ≤ sizeLine then .ok (.fresh (.list ds)) r1 else .stuck
  | .dsp xs, r => (denP xs r).bind fun ps r1 => if (ps.all fun p => flatKey p.1) && decide (ps.length ≤ 15) then .ok (.fresh (.dict (ps.foldl (fun a p => dput a p.1 p.2) []))) r1 else .stuck
  | .bin o a b, r => (den a r).bind fun v r1 => (den b r1).bind fun w r2 => pk2 v w r2 fun x y => ofO (binD o x y) r2
  | .neg a, r => dat (den a r) fun x r1 => match x with
    | .int i => .ok (.d (.int (-i))) r1
    | _ => .stuck
  | .cmp o a b, r => (den a r).bind fun v r1 => (den b r1).bind fun w r2 => pk2 v w r2 fun x y => ofO ((cmpD o x y).map fun t => .d (.bool t)) r2
  | .chn o o' a b c, r => (den a r).bind fun v r1 => (den b r1).bind fun w r2 => pk2 v w r2 fun x y => match cmpD o x y with
    | some true => (den c r2).bind fun u r3 => pk2 w u r3 fun y' z => ofO ((cmpD o' y' z).map fun t => .d (.bool t)) r3
    | some false => .ok (.d (.bool false)) r2
    | none => .stuck
  | .and a b, r => boo (den a r) fun t r1 => if t = true then boo (den b r1) fun t2 r2 => .ok (.d (.bool t2)) r2 else .ok (.d (.bool false)) r1
  | .or a b, r => boo (den a r) fun t r1 => if t = true then .ok (.d (.bool true)) r1 else boo (den b r1) fun t2 r2 => .ok (.d (.bool t2)) r2
  | .not a, r => boo (den a r) fun t r1 => .ok (.d (.bool (!t))) r1
  | .ife c a b, r => boo (den c r) fun t r1 => if t = true then den a r1 else den b r1
  | .call f xs, r => (denV xs r).bind fun vs r1 => called Φ f vs r1
  | .callv i xs, r => match r[i]? with
    | some (.fn f) => (denV xs r).bind fun vs r1 => called Φ f vs r1
    | _ => .stuck
  | .b1 b a, r => (den a r).bind fun v r1 => match v with
    | .scr ns => if b = .len then .ok (.d (.int ns.length)) r1 else .stuck
    | v => match v.peek r1 with
      | some x => ofO (b1D b x) r1
      | none => .stuck
  | .b2 b a a', r => (den a r).bind fun v r1 => (den a' r1).bind fun w r2 => pk2 v w r2 fun x y => ofO (b2D b x y) r2
  | .isi t a, r => pkd (den a r) fun x r1 => .ok (.d (.bool (isTy t x))) r1
  | .get a k x, r => (den a r).bind fun v r1 => match v.peek r1 with
    | some (.dict _) => (den k r1).bind fun w r2 => dat (den x r2) fun z r3 => pk2 v w r3 fun d y => ofO ((getD d y z).map .d) r3
    | _ => .stuck
  | .index a x, r => (den a r).bind fun v r1 => match v.peek r1 with
    | some d0 => (den x r1).bind fun w r2 => pk2 v w r2 fun d y => if sameK d0 d = true then ofO (indexD d y) r2 else .stuck
    | none => .stuck
  | .popl i, r => match r[i]? with
    | some (.ow (.list xs)) => match xs[xs.length - 1]? with
      | some x => .ok (.d x) (r.set i (.ow (.list xs.dropLast)))
      | none => .stuck
    | _ => .stuck
  | .popd _ _, _ => .stuck
  | .popx _ _ _, _ => .stuck
  | .item a i, r => (den a r).bind fun v r1 => (den i r1).bind fun w r2 => pk2 v w r2 fun x y => ofO ((itemD x y).map .d) r2
  | .slc a lo hi, r => (den a r).bind fun v r1 => (denO lo r1).bind fun l r2 => (denO hi r2).bind fun h r3 => match v.peek r3 with
    | some x => ofO (slcD x l h) r3
    | none => .stuck
  | .rev a, r => pkd (den a r) fun x r1 => ofO (revD x) r1
  | .lc own e (.one t it ifs), r => if tgOk t it && tgIn own t then (denI it r).bind fun xs r1 => (compR (fun x r2 => match tgD t x (wipeR r2 own) with
      | some r3 => (denT ifs r3).bind fun b r4 => if b = true then dat (den e r4) fun y r5 => .ok [y] r5 else .ok [] r4
      | none => .stuck) xs r1).bind fun ds r2 => if ds.length ≤ sizeLine then .ok (.fresh (.list ds)) (backR r1 r2 own) else .stuck
    else .stuck
  | .lc own e (.two t it ifs t1 it1 ifs1), r => if tgOk t it && tgIn own t && tgOk t1 it1 && tgIn own t1 then (denI it r).bind fun xs r1 => (compR (fun x r2 => match tgD t x (wipeR r2 own) with
      | some r3 => (denT ifs r3).bind fun b r4 => if b = true then (denI it1 r4).bind fun ys r5 => compR (fun y r6 => match tgD t1 y (wipeR r6 (tgNames t1)) with
          | some r7 => (denT ifs1 r7).bind fun b r8 => if b = true then dat (den e r8) fun z r9 => .ok [z] r9 else .ok [] r8
          | none => .stuck) ys r5 else .ok [] r4
      | none => .stuck) xs r1).bind fun ds r2 => if ds.length ≤ sizeLine then .ok (.fresh (.list ds)) (backR r1 r2 own) else .stuck
    else .stuck
  | .dc own k v (.one t it ifs), r => if tgOk t it && tgIn own t then (denI it r).bind fun xs r1 => (compR (fun x r2 => match tgD t x (wipeR r2 own) with
      | some r3 => (denT ifs r3).bind fun b r4 => if b = true then dat (den k r4) fun y r5 => dat (den v r5) fun z r6 => .ok [(y, z)] r6 else .ok [] r4
      | none => .stuck) xs r1).bind fun ps r2 => match dmake [] ps with
        | some kvs => .ok (.fresh (.dict kvs)) (backR r1 r2 own)
        | none => .stuck
    else .stuck
  | .dc _ _ _ (.two _ _ _ _ _ _), _ => .stuck
/-- frozen data, stars opened -/
def denK : IL → Rh → Out (List PyData)
  | .nil, r => .ok [] r
  | .cons e es, r => dat (den e r) fun x r1 => (denK es r1).bind fun xs r2 => .ok (x :: xs) r2
  | .star e es, r => dat (den e r) fun x r1 => match starD x with
    | some ys => (denK es r1).bind fun xs r2 => .ok (ys ++ xs) r2
    | none => .stuck
/-- pairs of a display of a dict -/
def denP : IL → Rh → Out (List (PyData × PyData))
  | .cons k (.cons v es), r => dat (den k r) fun x r1 => dat (den v r1) fun y r2 => (denP es r2).bind fun ps r3 => .ok ((x, y) :: ps) r3
  | .nil, r => .ok [] r
  | _, _ => .stuck
/-- arguments -/
def denV : IL → Rh → Out (List Val)
  | .nil, r => .ok [] r
  | .cons e es, r => (den e r).bind fun v r1 => (denV es r1).bind fun vs r2 => .ok (v :: vs) r2
  | .star _ _, _ => .stuck
/-- tests, all of them -/
def denT : IL → Rh → Out Bool
  | .nil, r => .ok true r
  | .cons e es, r => boo (den e r) fun t r1 => if t = true then denT es r1 else .ok false r1
  | .star _ _, _ => .stuck
def denO : IO → Rh → Out (Option Int)
  | .none, r => .ok none r
  | .some e, r => dat (den e r) fun x r1 => match x with
    | .int i => .ok (some i) r1
    | _ => .stuck
/-- the items that are walked -/
def denI : II → Rh → Out (List PyData)
  | .val e, r => (den e r).bind fun v r1 => match v with
    | .d x => match listD x with
      | some xs => .ok xs r1
      | none => .stuck
    | .scr ns => .ok (ns.map .int) r1
    | _ => .stuck
  | .rng e, r => dat (den e r) fun x r1 => match x with
    | .int i => if decide (-(2 ^ 62) ≤ i) && decide (i < 2 ^ 62) then .ok (rngD i) r1 else .stuck
    | _ => .stuck
  | .enum e, r => dat (den e r) fun x r1 => match x with
    | .list xs => .ok (enumD 0 xs) r1
    | .tuple xs => .ok (enumD 0 xs) r1
    | _ => .stuck
  | .zip a b, r => dat (den a r) fun x r1 => dat (den b r1) fun y r2 => match x, y with
    | .tuple xs, .tuple ys => .ok (zipD xs ys) r2
    | .list xs, .list ys => .ok (zipD xs ys) r2
    | _, _ => .stuck
  | .items e, r => dat (den e r) fun x r1 => match x with
    | .dict kvs => .ok (kvs.map fun p => .tuple [p.1, p.2]) r1
    | _ => .stuck
end
mutual
def denS : IS → Rh → Out Fl
  | .asg t e, r => (den Φ e r).bind fun v r1 => match tgV t v r1 with
    | some r2 => .ok .next r2
    | none => .stuck
  | .par is es, r => (denV Φ es r).bind fun vs r1 => match parR is vs r1 with
    | some r2 => .ok .next r2
    | none => .stuck
  | .put i k e, r => dat (den Φ e r) fun x r1 => match r1[i]? with
    | some (.ow _) => dat (den Φ k r1) fun y r2 => match r2[i]? with
      | some (.ow (.dict kvs)) => if keyFits kvs y && decide (kvs.length < sizeLine) then .ok .next (r2.set i (.ow (.dict (dput kvs y x)))) else .stuck
      | some (.ow (.list xs)) => match y with
        | .int n => match L2.ixN xs.length n with
          | some j => .ok .next (r2.set i (.ow (.list (xs.set j x))))
          | none => .stuck
        | _ => .stuck
      | _ => .stuck
    | _ => .stuck
  | .aug i o e, r => match r[i]? with
    | some (.fz x) => dat (den Φ e r) fun y r1 => match o, x, y with
      | .add, .int a, .int b => .ok .next (r1.set i (.fz (.int (a + b))))
      | .sub, .int a, .int b => .ok .next (r1.set i (.fz (.int (a - b))))
      | _, _, _ => .stuck
    | _ => .stuck
  | .augp i k o e, r => match r[i]? with
    | some (.ow _) => dat (den Φ k r) fun y r1 => match r1[i]? with
      | some (.ow (.dict kvs)) => if keyFits kvs y then (match dfind kvs y with
        | some x => dat (den Φ e r1) fun z r2 => match r2[i]? with
          | some (.ow (.dict kvs')) => if keyFits kvs' y && decide (kvs'.length < sizeLine) then (match o, x, z with
            | .add, .int a, .int b => .ok .next (r2.set i (.ow (.dict (dput kvs' y (.int (a + b))))))
            | .sub, .int a, .int b => .ok .next (r2.set i (.ow (.dict (dput kvs' y (.int (a - b))))))
            | _, _, _ => .stuck) else .stuck
          | _ => .stuck
        | none => .stuck) else .stuck
      | _ => .stuck
    | _ => .stuck
  | .ex e, r => (den Φ e r).bind fun _ r1 => .ok .next r1
  | .app i e, r => match r[i]? with
    | some (.ow (.list _)) => dat (den Φ e r) fun x r1 => match r1[i]? with
      | some (.ow (.list xs)) => if xs.length < sizeLine then .ok .next (r1.set i (.ow (.list (xs ++ [x])))) else .stuck
      | _ => .stuck
    | _ => .stuck
  | .ext i e, r => match r[i]? with
    | some (.ow (.list _)) => dat (den Φ e r) fun x r1 => match r1[i]?, x with
      | some (.ow (.list xs)), .list ys => if xs.length + ys.length ≤ sizeLine then .ok .next (r1.set i (.ow (.list (xs ++ ys)))) else .stuck
      | _, _ => .stuck
    | _ => .stuck
  | .ite c a b, r => boo (den Φ c r) fun t r1 => if t = true then denSs a r1 else denSs b r1
  | .while c b, r => whileR (fun r0 => boo (den Φ c r0) fun t r1 => .ok t r1) (fun r0 => denSs b r0) N r
  | .for t it b, r => if tgOk t it = false then .stuck else (denI Φ it r).bind fun xs r1 => forR (fun x r2 => match tgD t x r2 with
    | some r3 => denSs b r3
    | none => .stuck) xs r1
  | .ret e, r => (den Φ e r).bind fun v r1 => .ok (.ret v) r1
  | .retN, r => .ok (.ret (.d .none)) r
  | .raise c e, r => dat (den Φ e r) fun x _ => .exc c x
  | .cont, r => .ok .cont r
  | .brk, r => .ok .brk r
  | .pass, r => .ok .next r
where parR : List Nat → List Val → Rh → Option Rh
  | [], [], r => some r
  | i :: is, v :: vs, r => match tgV (.nm i) v r with
    | some r1 => parR is vs r1
    | none => none
  | _, _, _ => none
def denSs : ISs → Rh → Out Fl
  | .nil, r => .ok .next r
  | .cons s ss, r => (denS s r).bind fun fl r1 => match fl with
    | .next => denSs ss r1
    | .brk => .ok .brk r1
    | .cont => .ok .cont r1
    | .ret v => .ok (.ret v) r1
end
end

/-! ### defs -/
structure IF where
  /-- slots, parameters -/
  n : Nat
  np : Nat
  /-- parameters that the body never stores to -/
  pin : List Nat
  body : ISs
abbrev Prog := List (Str × IF)
def retSlot (np : Nat) (r : Rh) : Val → Option Slot
  | .d x => some (.fz x)
  | .fresh x => some (.ow x)
  | .bor i => if i < np then none else match r[i]? with
    | some (.ow x) => some (.ow x)
    | _ => none
  | .fn _ => none
  | .scr _ => none
/-- an owned argument stands at a parameter that is never stored to -/
def pinned (pin : List Nat) : Nat → List Slot → Bool
  | _, [] => true
  | i, .ow _ :: r => pin.contains i && pinned pin (i + 1) r
  | i, .un :: _ => false
  | i, _ :: r => pinned pin (i + 1) r
def runF (Φ : Str → List Slot → Res) (N : Nat) (f : IF) (as : List Slot) : Res :=
  if as.length = f.np ∧ pinned f.pin 0 as = true then match denSs Φ N f.body (as ++ List.replicate (f.n - f.np) .un) with
    | .ok fl r => match (match fl with
        | .ret v => retSlot f.np r v
        | .next => some (.fz .none)
        | _ => none) with
      | some s => .ok s (r.take f.np)
      | none => .stuck
    | .exc c x => .exc c x
    | .stuck => .stuck
  else .stuck
/-- the defs, to a depth of calls -/
def fun_ (P : Prog) (N : Nat) : Nat → Str → List Slot → Res
  | 0, _, _ => .stuck
  | k + 1, f, as => match P.lookup f with
    | some F => runF (fun_ P N k) N F as
    | none => .stuck
end FJ

set_option autoImplicit false
set_option linter.all false
/-! Ev1: from the program's text to the small form. -/
namespace FJ
open PySem

structure Ctx where
  /-- the names by slot, parameters first -/
  N : List Str
  sc : Scope
  np : Nat
  pin : List Nat
  /-- the module's constants -/
  G : List (Str × PyData)
  /-- the defs -/
  F : List Str
  /-- built-in names that the module does not bind -/
  B : List Str
  /-- names whose cells were made at the entry -/
  fnn : Str → Bool

inductive Md where
  | pk | kp | pl | rt
  deriving DecidableEq

def wrap (md : Md) (e : IE) : IE := match md with
  | .kp => .fz e
  | _ => e
def slotOf (c : Ctx) (x : Str) : Option Nat := match c.sc.names.lookup x with
  | some .local => c.N.idxOf? x
  | some .cell => c.N.idxOf? x
  | some .free => c.N.idxOf? x
  | _ => none
def isGlob (c : Ctx) (x : Str) : Bool := decide (c.sc.names.lookup x = some .globalImplicit) && !(x == ("__debug__" : Str)) && !(x == ("__name__" : Str))
def isB (c : Ctx) (x : Str) : Bool := isGlob c x && c.B.contains x
def cName (c : Ctx) (md : Md) (x : Str) : Option IE := match slotOf c x with
  | some i => if x == ("__debug__" : Str) || x == ("__classdict__" : Str) then none else match md with
    | .pk => some (.pk i)
    | .rt => if c.np ≤ i then some (.pk i) else some (.loc i)
    | _ => some (.loc i)
  | none => if isGlob c x then (match c.G.lookup x with
    | some d => some (.cst d)
    | none => if c.F.contains x then some (.fnc x) else none) else none
def cConst : Const → Option PyData
  | .none => some .none
  | .bool b => some (.bool b)
  | .int i => some (.int i)
  | .str s => if PyData.strOk s then some (.str s) else none
  | _ => none
def bopOf : Operator → Option Bop
  | .Add => some .add
  | .Sub => some .sub
  | .Mult => some .mul
  | .FloorDiv => some .fdiv
  | .Mod => some .mod
  | .Pow => some .pow
  | _ => none
def copOf : CmpOp → Cop
  | .Eq => .eq
  | .NotEq => .ne
  | .Lt => .lt
  | .LtE => .le
  | .Gt => .gt
  | .GtE => .ge
  | .Is => .is
  | .IsNot => .isnot
  | .In => .isin
  | .NotIn => .notin
def tyOf (x : Str) : Option Ty := if x = "int" then some .int else if x = "bool" then some .bool else if x = "str" then some .str else if x = "tuple" then some .tuple else if x = "list" then some .list else if x = "dict" then some .dict else none
def b1Of (x : Str) : Option B1 := if x = "len" then some .len else if x = "tuple" then some .tuple else if x = "list" then some .list else if x = "int" then some .int else if x = "dict" then some .dict else if x = "sorted" then some .sorted
  else if x = "all" then some .all else if x = "any" then some .any else if x = "repr" then some .repr else if x = "max" then some .max else none
def b2Of (x : Str) : Option B2 := if x = "min" then some .min else if x = "max" then some .max else none
/-- fresh lists and dicts may come of it -/
def mayFresh : B1 → Bool
  | .list => true
  | .dict => true
  | .sorted => true
  | .sset => true
  | _ => false

/-- may be stored to -/
def stor (c : Ctx) (x : Str) : Bool := decide (c.sc.names.lookup x = some .local) || (decide (c.sc.names.lookup x = some .cell) && c.fnn x)
mutual
def cTg (c : Ctx) : Nat → Expr → Option ITg
  | n + 1, .Name x _ => match slotOf c x with
    | some i => if stor c x && !c.pin.contains i then some (.nm i) else none
    | none => none
  | n + 1, .Tuple es _ _ => match cTgs c n es with
    | some ts => some (.tp ts)
    | none => none
  | _, _ => none
def cTgs (c : Ctx) : Nat → List Expr → Option ITgs
  | _, [] => some .nil
  | n + 1, e :: es => match cTg c n e, cTgs c n es with
    | some t, some ts => some (.cons t ts)
    | _, _ => none
  | 0, _ :: _ => none
end
def ownOf (N : List Str) (sc : Scope) : List (Str × Nat) := sc.names.filterMap fun y => if y.2 = .local ∨ y.2 = .cell then (N.idxOf? y.1).map fun i => (y.1, i) else none
/-- the block's names are as the layer wants them -/
def blkB (N : List Str) (sc scope : Scope) : Bool := decide (scope.kind = .function) && (scope.names.all fun y => decide (scope.names.lookup y.1 = some y.2)) &&
  (scope.names.all fun y => !decide (y.2 = .free) || (decide (sc.names.lookup y.1 = some .cell) || decide (sc.names.lookup y.1 = some .free))) &&
  (scope.names.all fun y => !(decide (y.2 = .local) || decide (y.2 = .cell)) || (ownOf N scope).any (fun p => p.1 == y.1) || !(N.contains y.1))
/-- the context of a comprehension's block; what is owned outside a parameter that is never stored to, is so no more -/
def Ctx.blk (c : Ctx) (scope : Scope) : Ctx := { c with sc := L2.relS scope c.sc, pin := [], fnn := fun x => scope.names.lookup x == some .cell }
def callB : Expr → Bool
  | .Call .. => true
  | _ => false
def isTupT : Expr → Bool
  | .Tuple .. => true
  | _ => false
mutual
def cE (c : Ctx) : Nat → Md → Expr → Option IE
  | 0, _, _ => none
  | n + 1, md, e => match e with
    | .Constant k _ _ => (cConst k).map .cst
    | .Name x _ => cName c md x
    | .Tuple es _ _ => (cL c n es).map .tup
    | .List es _ => (cL c n es).map fun xs => wrap md (.lst xs)
    | .Dict ks vs _ => if ks.length ≤ 15 then (cD c n ks vs).map fun xs => wrap md (.dsp xs) else none
    | .BinOp a op b _ => match bopOf op, cE c n .pk a, cE c n .pk b with
      | some o, some x, some y => some (if o = .add ∨ o = .mul then wrap md (.bin o x y) else .bin o x y)
      | _, _, _ => none
    | .UnaryOp .USub a _ => (cE c n .kp a).map .neg
    | .UnaryOp .Not a _ => (cE c n .pk a).map .not
    | .Compare a [op] [b] _ => match cE c n .pk a, cE c n .pk b with
      | some x, some y => if behindInMarks op b then none else some (.cmp (copOf op) x y)
      | _, _ => none
    | .Compare a [op, op'] [b, d] _ => match cE c n .pk a, cE c n .pk b, cE c n .pk d with
      | some x, some y, some z => if lastMarks [op, op'] [b, d] then none else some (.chn (copOf op) (copOf op') x y z)
      | _, _, _ => none
    | .BoolOp .And vs _ => cAnd c n vs
    | .BoolOp .Or vs _ => cOr c n vs
    | .IfExp t a b _ => match cE c n .pk t, cE c n md a, cE c n md b with
      | some x, some y, some z => some (.ife x y z)
      | _, _, _ => none
    | .Call (.Name f _) as [] _ => match slotOf c f with
      | some i => if as.isEmpty || f == ("__debug__" : Str) || f == ("__classdict__" : Str) then none else (cA c n as).map fun xs => wrap md (.callv i xs)
      | none => if isGlob c f && c.F.contains f then (cA c n as).map fun xs => wrap md (.call f xs)
        else if isB c f then cB c n md f as else none
    | .Call (.Attribute o m ap) as [] cp => if (ap.endLine == cp.line) && !callB o then cM c n md o m as else none
    | .Subscript a (.Slice lo hi none _) _ => match cE c n .pk a, cO c n lo, cO c n hi with
      | some x, some l, some h => some (wrap md (.slc x l h))
      | _, _, _ => none
    | .Subscript a i _ => match i with
      | .Slice .. => none
      | i => match cE c n .pk a, cE c n .pk i with
        | some x, some y => some (.item x y)
        | _, _ => none
    | .ListComp elt gs scope _ => if blkB c.N c.sc scope then (match cE (c.blk scope) n .kp elt, cG c (c.blk scope) n gs with
      | some x, some g => some (wrap md (.lc ((ownOf c.N scope).map (·.2)) x g))
      | _, _ => none) else none
    | .DictComp k v gs scope _ => if blkB c.N c.sc scope then (match cE (c.blk scope) n .kp k, cE (c.blk scope) n .kp v, cG c (c.blk scope) n gs with
      | some x, some y, some g => some (wrap md (.dc ((ownOf c.N scope).map (·.2)) x y g))
      | _, _, _ => none) else none
    | _ => none
/-- frozen data, stars -/
def cL (c : Ctx) : Nat → List Expr → Option IL
  | _, [] => some .nil
  | 0, _ :: _ => none
  | n + 1, e :: es => match e with
    | .Starred e' _ => match cE c n .kp e', cL c n es with
      | some x, some xs => some (.star x xs)
      | _, _ => none
    | e => match cE c n .kp e, cL c n es with
      | some x, some xs => some (.cons x xs)
      | _, _ => none
/-- arguments -/
def cA (c : Ctx) : Nat → List Expr → Option IL
  | _, [] => some .nil
  | 0, _ :: _ => none
  | n + 1, e :: es => match e with
    | .Starred _ _ => none
    | e => match cE c n .pk e, cA c n es with
      | some x, some xs => some (.cons x xs)
      | _, _ => none
/-- values to be stored side by side -/
def cP (c : Ctx) : Nat → List Expr → Option IL
  | _, [] => some .nil
  | 0, _ :: _ => none
  | n + 1, e :: es => match e with
    | .Starred _ _ => none
    | e => match cE c n .pl e, cP c n es with
      | some x, some xs => some (.cons x xs)
      | _, _ => none
def cD (c : Ctx) : Nat → List (Option Expr) → List Expr → Option IL
  | _, [], [] => some .nil
  | n + 1, some k :: ks, v :: vs => match cE c n .kp k, cE c n .kp v, cD c n ks vs with
    | some x, some y, some xs => some (.cons x (.cons y xs))
    | _, _, _ => none
  | _, _, _ => none
def cAnd (c : Ctx) : Nat → List Expr → Option IE
  | n + 1, [a] => cE c n .pk a
  | n + 1, a :: b :: r => match cE c n .pk a, cAnd c n (b :: r) with
    | some x, some y => some (.and x y)
    | _, _ => none
  | _, _ => none
def cOr (c : Ctx) : Nat → List Expr → Option IE
  | n + 1, [a] => cE c n .pk a
  | n + 1, a :: b :: r => match cE c n .pk a, cOr c n (b :: r) with
    | some x, some y => some (.or x y)
    | _, _ => none
  | _, _ => none
def cB (c : Ctx) : Nat → Md → Str → List Expr → Option IE
  | 0, _, _, _ => none
  | n + 1, md, f, as => match as with
    | [a] => if f = "sorted" then (match a with
        | .Call (.Name g _) [b] [] _ => if g = "set" then (if isB c g then (cE c n .pk b).map fun x => wrap md (.b1 .sset x) else none) else (cE c n .pk a).map fun x => wrap md (.b1 .sorted x)
        | a => (cE c n .pk a).map fun x => wrap md (.b1 .sorted x))
      else match b1Of f, cE c n .pk a with
        | some b, some x => some (if mayFresh b then wrap md (.b1 b x) else .b1 b x)
        | _, _ => none
    | [a, b] => if f = "isinstance" then (match b with
        | .Name t _ => match tyOf t, cE c n .pk a with
          | some ty, some x => if isB c t then some (.isi ty x) else none
          | _, _ => none
        | _ => none)
      else match b2Of f, cE c n .pk a, cE c n .pk b with
        | some o, some x, some y => some (.b2 o x y)
        | _, _, _ => none
    | _ => none
def cM (c : Ctx) : Nat → Md → Expr → Str → List Expr → Option IE
  | 0, _, _, _, _ => none
  | n + 1, md, o, m, as => match as with
    | [] => if m = "pop" then (match o with
        | .Name x _ => if x == ("__debug__" : Str) || x == ("__classdict__" : Str) then none else (slotOf c x).map .popl
        | _ => none) else none
    | [k] => if m = "pop" then (match o with
        | .Name x _ => match slotOf c x, cE c n .kp k with
          | some i, some y => some (.popd i y)
          | _, _ => none
        | _ => none)
      else if m = "index" then (match cE c n .pk o, cE c n .pk k with
        | some x, some y => some (.index x y)
        | _, _ => none) else none
    | [k, d] => if m = "get" then (match cE c n .pk o, cE c n .pk k, cE c n .kp d with
        | some x, some y, some z => some (.get x y z)
        | _, _, _ => none)
      else if m = "pop" then (match o with
        | .Name x _ => match slotOf c x, cE c n .kp k, cE c n .kp d with
          | some i, some y, some z => some (.popx i y z)
          | _, _, _ => none
        | _ => none) else none
    | _ => none
def cO (c : Ctx) : Nat → Option Expr → Option IO
  | _, none => some .none
  | n + 1, some e => (cE c n .kp e).map .some
  | 0, some _ => none
def cI (c : Ctx) : Nat → Expr → Expr → Option II
  | 0, _, _ => none
  | n + 1, tg, e => match e with
    | .Call (.Name f _) [a] [] _ => if f = "range" ∧ isB c f = true then (cE c n .kp a).map .rng
      else if f = "enumerate" ∧ isB c f = true then (if isTupT tg then (cE c n .kp a).map .enum else none) else (cE c n .kp e).map .val
    | .Call (.Name f _) [a, b] [] _ => if f = "zip" ∧ isB c f = true then (if isTupT tg then (match cE c n .kp a, cE c n .kp b with
        | some x, some y => some (.zip x y)
        | _, _ => none) else none) else (cE c n .kp e).map .val
    | .Call (.Attribute o m ap) [] [] cp => if m = "items" then (if isTupT tg && (ap.endLine == cp.line) && !callB o then (cE c n .kp o).map .items else none) else (cE c n .kp e).map .val
    | e => (cE c n .kp e).map .val
/-- the first iterable stands outside of the block -/
def cG (c cb : Ctx) : Nat → List Comprehension → Option IG
  | 0, _ => none
  | n + 1, gs => match gs with
    | [⟨tg, it, ifs, 0⟩] => match cTg cb n tg, cI c n tg it, cT cb n ifs with
      | some t, some i, some fs => some (.one t i fs)
      | _, _, _ => none
    | [⟨tg, it, ifs, 0⟩, ⟨tg1, it1, ifs1, 0⟩] => match cTg cb n tg, cI c n tg it, cT cb n ifs, cTg cb n tg1, cI cb n tg1 it1, cT cb n ifs1 with
      | some t, some i, some fs, some t1, some i1, some fs1 => some (.two t i fs t1 i1 fs1)
      | _, _, _, _, _, _ => none
    | _ => none
def cT (c : Ctx) : Nat → List Expr → Option IL
  | _, [] => some .nil
  | n + 1, [e] => (cE c n .pk e).map fun x => .cons x .nil
  | _, _ => none
end
def nameIx (c : Ctx) : Expr → Option Nat
  | .Name x _ => match slotOf c x with
    | some i => if stor c x && !c.pin.contains i then some i else none
    | none => none
  | _ => none
def namesIx (c : Ctx) : List Expr → Option (List Nat)
  | [] => some []
  | e :: es => match nameIx c e, namesIx c es with
    | some i, some is => some (i :: is)
    | _, _ => none
def ownIx (c : Ctx) : Expr → Option Nat
  | .Name x _ => if x == ("__debug__" : Str) || x == ("__classdict__" : Str) then none else slotOf c x
  | _ => none
def dcB : Expr → Bool
  | .DictComp .. => true
  | _ => false
def compSc : Expr → Option Scope
  | .ListComp _ _ s _ => some s
  | .DictComp _ _ _ s _ => some s
  | _ => none
/-- name = [..] on one line -/
def swapB (c : Ctx) (x : Str) (p : Pos) (e : Expr) : Bool := match compSc e with
  | some s => decide (c.sc.names.lookup x = some .local) && (p.line == e.pos.line) && !(s.names.any fun (n, k) => n == x && (k == .local || k == .cell))
  | none => false
def starB : Expr → Bool
  | .Starred .. => true
  | _ => false
/-- a, b = x, y: stored from the right; none: not told -/
def swapN (c : Ctx) (ts vs : List Expr) : Option (Option (List Str)) :=
  if !(ts.length == 2 || ts.length == 3) || vs.length != ts.length then some none
  else if vs.any starB then some none
  else
    let line := (ts.head?.map (·.pos.line)).getD 0
    let names := ts.filterMap fun
      | .Name id pos => if decide (c.sc.names.lookup id = some .local) && pos.line == line then some id else none
      | _ => none
    if names.length != ts.length || names.eraseDups.length != names.length then some none
    else if vs.all (foldedForSure 8) then some none
    else if vs.all (constantsAlone 8) then none
    else some (some names)
mutual
def cS (c : Ctx) : Nat → Stmt → Option IS
  | 0, _ => none
  | n + 1, s => match s with
    | .Assign [.Name x p] e _ => match nameIx c (.Name x p), cE c n .pl e with
      | some i, some v => if swapB c x p e && dcB e then none else some (.asg (.nm i) v)
      | _, _ => none
    | .Assign [.Tuple ts k p] e _ => match e with
      | .Tuple es _ _ => match swapN c ts es with
        | some (some _) => match namesIx c ts, cP c n es with
          | some is, some xs => if is.Nodup then some (.par is xs) else none
          | _, _ => none
        | some none => match cTg c n (.Tuple ts k p), cE c n .kp e with
          | some t, some v => some (.asg t v)
          | _, _ => none
        | none => none
      | e => match cTg c n (.Tuple ts k p), cE c n .kp e with
        | some t, some v => some (.asg t v)
        | _, _ => none
    | .Assign [.Subscript o k _] e _ => match ownIx c o, cE c n .kp k, cE c n .kp e with
      | some i, some y, some x => some (.put i y x)
      | _, _, _ => none
    | .AugAssign (.Name x p) op e _ => match nameIx c (.Name x p), bopOf op, cE c n .kp e with
      | some i, some o, some v => some (.aug i o v)
      | _, _, _ => none
    | .AugAssign (.Subscript o k _) op e _ => match ownIx c o, cE c n .kp k, bopOf op, cE c n .kp e with
      | some i, some y, some b, some v => some (.augp i y b v)
      | _, _, _, _ => none
    | .Expr e _ => match e with
      | .Call (.Attribute o m ap) [a] [] cp => if m = "append" then (match ownIx c o, cE c n .kp a with
          | some i, some x => if ap.endLine == cp.line then some (.app i x) else none
          | _, _ => none)
        else if m = "extend" then (match ownIx c o, cE c n .kp a with
          | some i, some x => if ap.endLine == cp.line then some (.ext i x) else none
          | _, _ => none)
        else (cE c n .pl e).map .ex
      | .Call f as ks p => (cE c n .pl (.Call f as ks p)).map .ex
      | _ => none
    | .If t a b _ => match cE c n .pk t, cSs c n a, cSs c n b with
      | some x, some y, some z => some (.ite x y z)
      | _, _, _ => none
    | .While t b [] _ => match cE c n .pk t, cSs c n b with
      | some x, some y => some (.while x y)
      | _, _ => none
    | .For tg it b [] _ => match cTg c n tg, cI c n tg it, cSs c n b with
      | some t, some i, some y => some (.for t i y)
      | _, _, _ => none
    | .Return (some e) _ => (cE c n .rt e).map .ret
    | .Return none _ => some .retN
    | .Raise (some (.Call (.Name x _) [a] [] _)) none _ => (cE c n .kp a).map fun y => .raise x y
    | .Continue _ => some .cont
    | .Break _ => some .brk
    | .Pass _ => some .pass
    | _ => none
def cSs (c : Ctx) : Nat → List Stmt → Option ISs
  | _, [] => some .nil
  | 0, _ :: _ => none
  | n + 1, s :: ss => match cS c n s, cSs c n ss with
    | some x, some xs => some (.cons x xs)
    | _, _ => none
end

/-! ### stores -/
mutual
def stE : Nat → Expr → List Str
  | _, .Name x _ => [x]
  | n + 1, .Tuple es _ _ => es.flatMap (stE n)
  | _, _ => []
end
mutual
def stS : Nat → Stmt → List Str
  | 0, _ => []
  | n + 1, s => match s with
    | .Assign ts _ _ => ts.flatMap (stE n)
    | .AugAssign t _ _ _ => stE n t
    | .If _ a b _ => stSs n a ++ stSs n b
    | .While _ a b _ => stSs n a ++ stSs n b
    | .For t _ a b _ => stE n t ++ stSs n a ++ stSs n b
    | _ => []
def stSs : Nat → List Stmt → List Str
  | _, [] => []
  | 0, _ :: _ => []
  | n + 1, s :: ss => stS n s ++ stSs n ss
end
def paramsOf (a : Arguments) : List Str := a.args.map (·.arg)
/-- no annotations, defaults, stars -/
def plainArgs (a : Arguments) : Bool := a.posonlyargs.isEmpty && a.vararg.isNone && a.kwonlyargs.isEmpty && a.kw_defaults.isEmpty && a.kwarg.isNone && a.defaults.isEmpty
/-- what the layer asks of a def's names -/
def scopeB (N ps : List Str) (sc : Scope) : Bool := decide (sc.kind = .function) && !sc.isCoroutine && !sc.isGenerator && decide N.Nodup && decide (N.take ps.length = ps) &&
  (ps.all fun x => decide (sc.names.lookup x = some .local) || decide (sc.names.lookup x = some .cell)) && (sc.names.all fun y => !decide (y.2 = .free))
def fuel : Nat := 60
def ctxOf (G : List (Str × PyData)) (F B : List Str) (N : List Str) (a : Arguments) (body : List Stmt) (sc : Scope) : Ctx :=
  { N := N, sc := sc, np := (paramsOf a).length, pin := (List.range (paramsOf a).length).filter fun i => !((stSs fuel body).contains (N.getD i (Str.ofString ""))), G := G, F := F, B := B, fnn := fun _ => true }
def cF (G : List (Str × PyData)) (F B : List Str) (N : List Str) : Stmt → Option IF
  | .FunctionDef _ a body [] none [] sc none _ _ => if plainArgs a && scopeB N (paramsOf a) sc then
      (cSs (ctxOf G F B N a body sc) fuel body).map fun b => ⟨N.length, (paramsOf a).length, (ctxOf G F B N a body sc).pin, b⟩
    else none
  | _ => none
end FJ

set_option Elab.async false
set_option linter.all false
set_option autoImplicit false
set_option maxRecDepth 100000
/-! Ev2: how plain data, slots and values lie in the layer's heap. -/
namespace FJ
open PySem PySem.Spec L2
open PyProof.Rows hiding St

/-! ### dicts with tuple keys -/
abbrev NEnt := NestedKey × Addr × V
def NPair (p : NEnt) (q : NestedKey × Addr × Value) : Prop := p.1 = q.1 ∧ p.2.1 = q.2.1 ∧ RelV p.2.2 q.2.2
/-- a dict with tuple keys at a: its entries, whatever the keys' tuples are -/
def NdH (P : Program) (w : World) (a : Addr) (es : List NEnt) (h : Heap) : Prop :=
  es.length ≤ sizeLine ∧ (a == sysModules) = false ∧ (es.map (·.1)).Nodup ∧ ∃ xs, Paired NPair es xs ∧ ∃ o ds ep, h.get? a = some o ∧ o.ExactDict ∧ o.data = .dict ds ep ∧ ds.toList = xs.map (entryOfKey (nestedKind P w))
def NdO (P : Program) (w : World) (a : Addr) (es : List NEnt) : HO := .ext (NdH P w a es)
theorem NdH.at {P : Program} {w : World} {a : Addr} {es : List NEnt} {h h' : Heap} (x : NdH P w a es h) (k : ∀ o, h.get? a = some o → h'.get? a = some o) : NdH P w a es h' := by
  obtain ⟨z, y, nd, xs, r, o, ds, ep, e, c⟩ := x
  exact ⟨z, y, nd, xs, r, o, ds, ep, k o e, c⟩
theorem NdH.ok {P : Program} {w : World} {a : Addr} {es : List NEnt} {H : Hp} {h : Heap} (x : NdH P w a es h) : ObjOk P w H h a (NdO P w a es) := by
  refine ⟨x, ?_, fun h1 h2 y k => NdH.at y k⟩
  obtain ⟨_, _, _, _, _, o, _, _, e, _⟩ := x
  exact ⟨o, e⟩
theorem NdO_of {P : Program} {w : World} {a : Addr} {es : List NEnt} {H : Hp} {h : Heap} (x : ObjOk P w H h a (NdO P w a es)) : NdH P w a es h := x.1

mutual
/-- a datum as a key -/
def nkey : PyData → NestedKey
  | .none => .none
  | .bool b => .num (if b = true then 1 else 0)
  | .int i => .num i
  | .str x => .text x
  | .tuple xs => .tup (nkeys xs)
  | .list _ => .none
  | .dict _ => .none
def nkeys : List PyData → List NestedKey
  | [] => []
  | x :: xs => nkey x :: nkeys xs
end

/-! ### frozen data -/
/-- a tuple without a dict of its own -/
def TP (K : PySem.W.Frag) (H : Hp) (a : Addr) (xs : List V) : Prop :=
  (∃ o : Obj, H a = some (.frz o (.tup xs)) ∧ o.dict = none) ∨ ∃ (o : Obj) (us : Array Value) (n : Nat), K.lookup a = some o ∧ o.cls = .type "tuple" ∧ o.dict = none ∧ o.data = .seq us n ∧ us.size ≤ sizeLine ∧ Vals xs us.toList
theorem TP.sq {K : PySem.W.Frag} {H : Hp} {a : Addr} {xs : List V} (h : TP K H a xs) : SqT K H a xs := by
  rcases h with ⟨o, h, _⟩ | ⟨o, us, n, h1, h2, _, h3⟩
  · exact .inl (.inr ⟨o, h⟩)
  · exact .inr ⟨o, us, n, h1, h2, h3⟩
/-- a flat key -/
inductive FKey : Key → PyData → Prop
  | int (i : Int) : FKey (.inl i) (.int i)
  | str (x : Str) : PyData.strOk x = true → FKey (.inr x) (.str x)
mutual
inductive RepF (P : Program) (w : World) (K : PySem.W.Frag) (H : Hp) : V → PyData → Prop
  | non : RepF P w K H .non .none
  | bl (b : Bool) : RepF P w K H (.bl b) (.bool b)
  | int (i : Int) : RepF P w K H (.int i) (.int i)
  | str (x : Str) : PyData.strOk x = true → RepF P w K H (.str x) (.str x)
  | lst {a : Addr} {o : Obj} {xs : List V} {ds : List PyData} : H a = some (.frz o (.lst xs)) → RepFs P w K H xs ds → RepF P w K H (.ref a) (.list ds)
  | tup {a : Addr} {xs : List V} {ds : List PyData} : TP K H a xs → RepFs P w K H xs ds → RepF P w K H (.ref a) (.tuple ds)
  | dK {a : Addr} {o : Obj} {kvs : List (Key × V)} {ps : List (PyData × PyData)} : H a = some (.frz o (.dK kvs)) → RepKs P w K H kvs ps → RepF P w K H (.ref a) (.dict ps)
  | dN {a : Addr} {o : Obj} {es : List NEnt} {ps : List (PyData × PyData)} : H a = some (.frz o (NdO P w a es)) → es ≠ [] → RepNs P w K H es ps → RepF P w K H (.ref a) (.dict ps)
inductive RepFs (P : Program) (w : World) (K : PySem.W.Frag) (H : Hp) : List V → List PyData → Prop
  | nil : RepFs P w K H [] []
  | cons {v : V} {vs : List V} {d : PyData} {ds : List PyData} : RepF P w K H v d → RepFs P w K H vs ds → RepFs P w K H (v :: vs) (d :: ds)
inductive RepKs (P : Program) (w : World) (K : PySem.W.Frag) (H : Hp) : List (Key × V) → List (PyData × PyData) → Prop
  | nil : RepKs P w K H [] []
  | cons {k : Key} {v : V} {kvs : List (Key × V)} {d e : PyData} {ps : List (PyData × PyData)} : FKey k d → RepF P w K H v e → RepKs P w K H kvs ps → RepKs P w K H ((k, v) :: kvs) ((d, e) :: ps)
inductive RepNs (P : Program) (w : World) (K : PySem.W.Frag) (H : Hp) : List NEnt → List (PyData × PyData) → Prop
  | nil : RepNs P w K H [] []
  | cons {b : Addr} {v : V} {es : List NEnt} {d e : PyData} {ps : List (PyData × PyData)} : RepF P w K H (.ref b) d → tupKey d = true → RepF P w K H v e → RepNs P w K H es ps → RepNs P w K H ((nkey d, b, v) :: es) ((d, e) :: ps)
end

/-- what is known once stays known -/
structure Later (H H' : Hp) : Prop where
  tup : ∀ a xs, H a = some (.tup xs) → H' a = some (.tup xs)
  frz : ∀ a o u, H a = some (.frz o u) → H' a = some (.frz o u)
theorem Later.refl (H : Hp) : Later H H := ⟨fun _ _ e => e, fun _ _ _ e => e⟩
theorem Later.trans {H H1 H2 : Hp} (a : Later H H1) (b : Later H1 H2) : Later H H2 := ⟨fun c xs e => b.tup c xs (a.tup c xs e), fun c o u e => b.frz c o u (a.frz c o u e)⟩
theorem Later.sqT {K : PySem.W.Frag} {H H' : Hp} (l : Later H H') {a : Addr} {xs : List V} (h : SqT K H a xs) : SqT K H' a xs := by
  rcases h with (h | ⟨o, h⟩) | h
  · exact .inl (.inl (l.tup a xs h))
  · exact .inl (.inr ⟨o, l.frz a o _ h⟩)
  · exact .inr h
theorem Later.tp {K : PySem.W.Frag} {H H' : Hp} (l : Later H H') {a : Addr} {xs : List V} (h : TP K H a xs) : TP K H' a xs := by
  rcases h with ⟨o, h, d⟩ | h
  · exact .inl ⟨o, l.frz a o _ h, d⟩
  · exact .inr h
theorem Later.rd {H H' : Hp} (l : Later H H') {a : Addr} {u : HO} (h : ∃ o, H a = some (.frz o u)) : ∃ o, H' a = some (.frz o u) := let ⟨o, e⟩ := h; ⟨o, l.frz a o u e⟩
section
variable {P : Program} {w : World} {K : PySem.W.Frag} {H H' : Hp}
mutual
theorem RepF.later (l : Later H H') : ∀ (d : PyData) (v : V), RepF P w K H v d → RepF P w K H' v d
  | .none, _, h => by cases h; exact .non
  | .bool _, _, h => by cases h; exact .bl _
  | .int _, _, h => by cases h; exact .int _
  | .str _, _, h => by cases h with | str _ z => exact .str _ z
  | .list ds, _, h => by cases h with | lst e r => exact .lst (l.frz _ _ _ e) (RepFs.later l ds _ r)
  | .tuple ds, _, h => by cases h with | tup e r => exact .tup (l.tp e) (RepFs.later l ds _ r)
  | .dict ps, _, h => by
    cases h with
    | dK e r => exact .dK (l.frz _ _ _ e) (RepKs.later l ps _ r)
    | dN e n r => exact .dN (l.frz _ _ _ e) n (RepNs.later l ps _ r)
theorem RepFs.later (l : Later H H') : ∀ (ds : List PyData) (vs : List V), RepFs P w K H vs ds → RepFs P w K H' vs ds
  | [], _, h => by cases h; exact .nil
  | d :: ds, _, h => by cases h with | cons a b => exact .cons (RepF.later l d _ a) (RepFs.later l ds _ b)
theorem RepKs.later (l : Later H H') : ∀ (ps : List (PyData × PyData)) (kvs : List (Key × V)), RepKs P w K H kvs ps → RepKs P w K H' kvs ps
  | [], _, h => by cases h; exact .nil
  | (d, e) :: ps, _, h => by cases h with | cons z a b => exact .cons z (RepF.later l e _ a) (RepKs.later l ps _ b)
theorem RepNs.later (l : Later H H') : ∀ (ps : List (PyData × PyData)) (es : List NEnt), RepNs P w K H es ps → RepNs P w K H' es ps
  | [], _, h => by cases h; exact .nil
  | (d, e) :: ps, _, h => by cases h with | cons z t a b => exact .cons (RepF.later l d _ z) t (RepF.later l e _ a) (RepNs.later l ps _ b)
end
end

/-! ### owned things -/
/-- an owned list or dict at a -/
inductive RepO (P : Program) (w : World) (K : PySem.W.Frag) (H : Hp) (a : Addr) : PyData → Prop
  | lst {xs : List V} {ds : List PyData} : H a = some (.lst xs) → RepFs P w K H xs ds → RepO P w K H a (.list ds)
  | dK {kvs : List (Key × V)} {ps : List (PyData × PyData)} : H a = some (.dK kvs) → RepKs P w K H kvs ps → RepO P w K H a (.dict ps)
  | dN {es : List NEnt} {ps : List (PyData × PyData)} : H a = some (NdO P w a es) → es ≠ [] → RepNs P w K H es ps → RepO P w K H a (.dict ps)
/-- what may be owned -/
inductive Ownable (P : Program) (w : World) (a : Addr) : HO → Prop
  | lst (xs : List V) : Ownable P w a (.lst xs)
  | dK (kvs : List (Key × V)) : Ownable P w a (.dK kvs)
  | dN (es : List NEnt) : Ownable P w a (NdO P w a es)
section
variable {P : Program} {w : World} {K : PySem.W.Frag} {H H' : Hp} {a : Addr} {d : PyData}
theorem Ownable.mut {u : HO} (o : Ownable P w a u) : Mut (some u) := by cases o <;> exact trivial
theorem RepO.at_ (r : RepO P w K H a d) : ∃ u, H a = some u ∧ Ownable P w a u := by
  cases r with
  | lst e _ => exact ⟨_, e, .lst _⟩
  | dK e _ => exact ⟨_, e, .dK _⟩
  | dN e _ _ => exact ⟨_, e, .dN _⟩
theorem RepO.later (l : Later H H') (e : H' a = H a) (r : RepO P w K H a d) : RepO P w K H' a d := by
  cases r with
  | lst h r => exact .lst (e.trans h) (RepFs.later l _ _ r)
  | dK h r => exact .dK (e.trans h) (RepKs.later l _ _ r)
  | dN h n r => exact .dN (e.trans h) n (RepNs.later l _ _ r)
/-- frozen from now on -/
theorem RepO.frozen {o : Obj} {u : HO} (l : Later H H') (h0 : H a = some u) (e : H' a = some (.frz o u)) (r : RepO P w K H a d) : RepF P w K H' (.ref a) d := by
  cases r with
  | lst h r => rw [h] at h0; cases h0; exact .lst e (RepFs.later l _ _ r)
  | dK h r => rw [h] at h0; cases h0; exact .dK e (RepKs.later l _ _ r)
  | dN h n r => rw [h] at h0; cases h0; exact .dN e n (RepNs.later l _ _ r)
end

/-- what a slot says of its value -/
inductive RepS (P : Program) (w : World) (K : PySem.W.Frag) (H : Hp) : V → Slot → Prop
  | fz {v : V} {d : PyData} : RepF P w K H v d → RepS P w K H v (.fz d)
  | ow {a : Addr} {d : PyData} : RepO P w K H a d → RepS P w K H (.ref a) (.ow d)
  | fn (x : Str) : RepS P w K H (.ref (He.ga K x)) (.fn x)
  | scr {a : Addr} {ns : List Int} : (∀ H', Later H H' → SqL K H' a (ns.map V.int)) → RepS P w K H (.ref a) (.scr ns)
/-- slot i owns the thing at a -/
def Owns (σ : St) (r : Rh) (i : Nat) (a : Addr) : Prop := (∃ d, r[i]? = some (.ow d)) ∧ σ[i]? = some (some (.ref a))
def Own (σ : St) (r : Rh) (a : Addr) : Prop := ∃ i, Owns σ r i a
structure EnvR (P : Program) (w : World) (K : PySem.W.Frag) (H : Hp) (σ : St) (r : Rh) : Prop where
  len : σ.length = r.length
  rep : ∀ (i : Nat) (s : Slot), r[i]? = some s → s ≠ .un → ∃ v, σ[i]? = some (some v) ∧ RepS P w K H v s
  one : ∀ (i j : Nat) (a : Addr), Owns σ r i a → Owns σ r j a → i = j

/-- from H to H': what is not owned stays; nothing goes -/
structure Ext (own : Addr → Prop) (H H' : Hp) : Prop where
  keep : ∀ a o, H a = some o → ¬ own a → (∀ ps, o ≠ .tbl ps) → H' a = some o
  dom : ∀ a, H a ≠ none → H' a ≠ none
theorem Ext.refl (own : Addr → Prop) (H : Hp) : Ext own H H := ⟨fun _ _ e _ _ => e, fun _ h => h⟩
theorem Ext.trans {own own' : Addr → Prop} {H H1 H2 : Hp} (a : Ext own H H1) (b : Ext own' H1 H2) (s : ∀ c, own' c → own c ∨ H c = none) : Ext own H H2 :=
  ⟨fun c o e n t => b.keep c o (a.keep c o e n t) (fun z => (s c z).elim n fun q => by rw [q] at e; cases e) t, fun c h => b.dom c (a.dom c h)⟩
theorem Ext.mono {own own' : Addr → Prop} {H H' : Hp} (a : Ext own H H') (s : ∀ c, own c → own' c) : Ext own' H H' := ⟨fun c o e n t => a.keep c o e (fun z => n (s c z)) t, a.dom⟩
/-- a new tuple of these values -/
def tupOb (us : List Value) : Obj := { cls := .type "tuple", data := .seq us.toArray }
theorem newTup {X : Cx} {pins : List (Addr × Obj)} {σ : St} {H : Hp} {s : Shared} {t' : Nat} {xs : List V} {us : List Value} (I : Inv X pins σ H s) (r : Vals xs us) (z : xs.length ≤ sizeLine) :
    H s.heap.objs.size = none ∧ Inv X pins σ (upd H s.heap.objs.size (.frz (tupOb us) (.tup xs))) { s with heap := s.heap.push (tupOb us), toks := t' } := by
  refine ⟨I.hok.fresh (Nat.le_refl _), I.laid (fun b u e => Heap.get?_push_of_some _ e) (Nat.le_refl _) ?_⟩
  have e : (s.heap.push (tupOb us)).get? s.heap.objs.size = some (tupOb us) := Heap.get?_push_size _ rfl
  exact ⟨e, z, us, r, tupOb us, e, rfl, _, rfl⟩
theorem TP.new {K : PySem.W.Frag} {H : Hp} {p : Addr} {xs : List V} {us : List Value} : TP K (upd H p (.frz (tupOb us) (.tup xs))) p xs := .inl ⟨tupOb us, upd_same, rfl⟩
/-- everything stays -/
def Grow (H H' : Hp) : Prop := ∀ a o, H a = some o → H' a = some o
theorem Grow.refl (H : Hp) : Grow H H := fun _ _ e => e
theorem Grow.ext {H H' : Hp} (g : Grow H H') (own : Addr → Prop) : Ext own H H' := ⟨fun a o e _ _ => g a o e, fun a h => by
  cases q : H a with
  | none => exact absurd q h
  | some o => rw [g a o q]; exact fun z => nomatch z⟩
theorem Grow.later {H H' : Hp} (g : Grow H H') : Later H H' := ⟨fun a _ e => g a _ e, fun a _ _ e => g a _ e⟩
theorem Grow.trans {H H1 H2 : Hp} (a : Grow H H1) (b : Grow H1 H2) : Grow H H2 := fun c o e => b c o (a c o e)
theorem Grow.new {H : Hp} {p : Addr} (u : HO) (h : H p = none) : Grow H (upd H p u) := fun a o e => by rw [upd_ne (ne_of_none e h)]; exact e
/-- owned things can be changed -/
def OwnOk (P : Program) (w : World) (own : Addr → Prop) (H : Hp) : Prop := ∀ a, own a → ∃ u, H a = some u ∧ Ownable P w a u
theorem Ext.later {P : Program} {w : World} {own : Addr → Prop} {H H' : Hp} (x : Ext own H H') (ok : OwnOk P w own H) : Later H H' := by
  refine ⟨fun a xs e => x.keep a _ e (fun z => ?_) (fun ps q => nomatch q), fun a o u e => x.keep a _ e (fun z => ?_) (fun ps q => nomatch q)⟩
  · obtain ⟨u, e', m⟩ := ok a z
    rw [e] at e'; cases e'; cases m
  · obtain ⟨u', e', m⟩ := ok a z
    rw [e] at e'; cases e'; cases m
section
variable {P : Program} {w : World} {K : PySem.W.Frag} {H H' : Hp} {σ : St} {r : Rh}
theorem RepS.ow_inv {v : V} {d : PyData} (x : RepS P w K H v (.ow d)) : ∃ a, v = .ref a ∧ RepO P w K H a d := by
  cases x with
  | ow h => exact ⟨_, rfl, h⟩
theorem RepS.fz_inv {v : V} {d : PyData} (x : RepS P w K H v (.fz d)) : RepF P w K H v d := by
  cases x with
  | fz h => exact h
theorem EnvR.owned (e : EnvR P w K H σ r) {i : Nat} {d : PyData} (h : r[i]? = some (.ow d)) : ∃ a, σ[i]? = some (some (.ref a)) ∧ RepO P w K H a d ∧ Owns σ r i a := by
  obtain ⟨v, hv, rs⟩ := e.rep i _ h (fun z => nomatch z)
  obtain ⟨a, rfl, ro⟩ := rs.ow_inv
  exact ⟨a, hv, ro, ⟨d, h⟩, hv⟩
theorem EnvR.frozen (e : EnvR P w K H σ r) {i : Nat} {d : PyData} (h : r[i]? = some (.fz d)) : ∃ v, σ[i]? = some (some v) ∧ RepF P w K H v d := by
  obtain ⟨v, hv, rs⟩ := e.rep i _ h (fun z => nomatch z)
  exact ⟨v, hv, rs.fz_inv⟩
theorem EnvR.ownOk (e : EnvR P w K H σ r) : OwnOk P w (Own σ r) H := by
  rintro a ⟨i, ⟨d, h⟩, hs⟩
  obtain ⟨b, hb, ro, _⟩ := e.owned h
  rw [hs] at hb; cases hb
  exact ro.at_
/-- the heap grows or changes elsewhere -/
theorem EnvR.later (e : EnvR P w K H σ r) (l : Later H H') (k : ∀ a, Own σ r a → H' a = H a) : EnvR P w K H' σ r := by
  refine ⟨e.len, fun i s h n => ?_, e.one⟩
  obtain ⟨v, hv, rs⟩ := e.rep i s h n
  refine ⟨v, hv, ?_⟩
  cases rs with
  | fz q => exact .fz (RepF.later l _ _ q)
  | ow q => exact .ow (q.later l (k _ ⟨i, ⟨_, h⟩, hv⟩))
  | fn x => exact .fn x
  | scr q => exact .scr fun H2 l2 => q H2 (l.trans l2)
theorem EnvR.grow (e : EnvR P w K H σ r) (g : Grow H H') : EnvR P w K H' σ r := e.later g.later fun a ha => by
  obtain ⟨u, h, _⟩ := e.ownOk a ha
  rw [h]; exact g a u h
theorem owns_set_ne {i j : Nat} {s : Slot} {ov : Option V} {a : Addr} (hne : j ≠ i) : Owns (σ.set i ov) (r.set i s) j a ↔ Owns σ r j a := by
  unfold Owns
  rw [List.getElem?_set_ne (Ne.symm hne), List.getElem?_set_ne (Ne.symm hne)]
/-- slot i gets another value -/
theorem EnvR.set (e : EnvR P w K H σ r) {i : Nat} {v : V} {s : Slot} (hs : s ≠ .un → RepS P w K H v s) (hn : ∀ a d, s = .ow d → v = .ref a → ∀ j, j ≠ i → ¬ Owns σ r j a) : EnvR P w K H (σ.set i (some v)) (r.set i s) := by
  refine ⟨by rw [List.length_set, List.length_set]; exact e.len, fun j t h n => ?_, fun j k a hj hk => ?_⟩
  · by_cases hji : j = i
    · subst hji
      by_cases hl : j < r.length
      · rw [List.getElem?_set_self hl] at h
        cases h
        exact ⟨v, by rw [List.getElem?_set_self (by rw [e.len]; exact hl)], hs n⟩
      · rw [List.getElem?_eq_none (by rw [List.length_set]; omega)] at h; cases h
    · rw [List.getElem?_set_ne (Ne.symm hji)] at h
      rw [List.getElem?_set_ne (Ne.symm hji)]
      exact e.rep j t h n
  · have key : ∀ m, m = i → Owns (σ.set i (some v)) (r.set i s) m a → ∃ d, s = .ow d ∧ v = .ref a := by
      rintro m rfl ⟨⟨d, h1⟩, h2⟩
      have hl : m < r.length := by
        have := (List.getElem?_eq_some_iff.mp h1).1
        rw [List.length_set] at this
        exact this
      rw [List.getElem?_set_self hl] at h1
      rw [List.getElem?_set_self (by rw [e.len]; exact hl)] at h2
      cases h1; cases h2
      exact ⟨d, rfl, rfl⟩
    by_cases hji : j = i
    · by_cases hki : k = i
      · rw [hji, hki]
      · obtain ⟨d, e1, e2⟩ := key j hji hj
        exact absurd ((owns_set_ne hki).mp hk) (hn a d e1 e2 k hki)
    · by_cases hki : k = i
      · obtain ⟨d, e1, e2⟩ := key k hki hk
        exact absurd ((owns_set_ne hji).mp hj) (hn a d e1 e2 j hji)
      · exact e.one j k a ((owns_set_ne hji).mp hj) ((owns_set_ne hki).mp hk)
theorem list_set_same {α : Type} : ∀ (l : List α) (i : Nat) (a : α), l[i]? = some a → l.set i a = l
  | _ :: _, 0, _, h => by cases h; rfl
  | x :: l, i + 1, a, h => by
    rw [List.getElem?_cons_succ] at h
    rw [List.set_cons_succ, list_set_same l i a h]
/-- the slot's thing is another one, or is frozen from now on -/
theorem EnvR.own_set (e : EnvR P w K H σ r) {i : Nat} {a : Addr} {d : PyData} {s : Slot} (h : r[i]? = some (.ow d)) (ha : σ[i]? = some (some (.ref a))) (l : Later H H') (k : ∀ b, b ≠ a → H' b = H b ∨ ¬ Own σ r b)
    (hs : RepS P w K H' (.ref a) s) : EnvR P w K H' σ (r.set i s) := by
  have own : Owns σ r i a := ⟨⟨d, h⟩, ha⟩
  refine ⟨by rw [List.length_set]; exact e.len, fun j t hj n => ?_, fun j m b hj hm => ?_⟩
  · by_cases hji : j = i
    · subst hji
      rw [List.getElem?_set_self (List.getElem?_eq_some_iff.mp h).1] at hj
      cases hj
      exact ⟨_, ha, hs⟩
    · rw [List.getElem?_set_ne (Ne.symm hji)] at hj
      obtain ⟨v, hv, rs⟩ := e.rep j t hj n
      refine ⟨v, hv, ?_⟩
      cases rs with
      | fz q => exact .fz (RepF.later l _ _ q)
      | @ow b d' q =>
        refine .ow (q.later l ?_)
        have ob : Owns σ r j b := ⟨⟨d', hj⟩, hv⟩
        rcases k b (fun z => hji (e.one j i a (z ▸ ob) own)) with z | z
        · exact z
        · exact absurd ⟨j, ob⟩ z
      | fn x => exact .fn x
      | scr q => exact .scr fun H2 l2 => q H2 (l.trans l2)
  · have sub : ∀ m b, Owns σ (r.set i s) m b → Owns σ r m b := by
      rintro m b ⟨⟨d', h1⟩, h2⟩
      by_cases hmi : m = i
      · subst hmi
        rw [ha] at h2; cases h2
        exact own
      · rw [List.getElem?_set_ne (Ne.symm hmi)] at h1
        exact ⟨⟨d', h1⟩, h2⟩
    exact e.one j m b (sub j b hj) (sub m b hm)
theorem own_set_sub {i : Nat} {d : PyData} {s : Slot} (h : r[i]? = some (.ow d)) {b : Addr} (hb : Own σ (r.set i s) b) : Own σ r b := by
  obtain ⟨m, ⟨d', h1⟩, h2⟩ := hb
  by_cases hmi : m = i
  · subst hmi
    exact ⟨m, ⟨d, h⟩, h2⟩
  · rw [List.getElem?_set_ne (Ne.symm hmi)] at h1
    exact ⟨m, ⟨d', h1⟩, h2⟩
theorem own_set_fz {i : Nat} {x : PyData} {b : Addr} (hb : Own σ (r.set i (.fz x)) b) : ∃ j, j ≠ i ∧ Owns σ r j b := by
  obtain ⟨m, ⟨d', h1⟩, h2⟩ := hb
  by_cases hmi : m = i
  · subst hmi
    have hl := (List.getElem?_eq_some_iff.mp h1).1
    rw [List.length_set] at hl
    rw [List.getElem?_set_self hl] at h1
    cases h1
  · rw [List.getElem?_set_ne (Ne.symm hmi)] at h1
    exact ⟨m, hmi, ⟨d', h1⟩, h2⟩
end

/-! ### what an expression's value says -/
inductive ValR (P : Program) (w : World) (K : PySem.W.Frag) (H : Hp) (σ : St) (r : Rh) : V → Val → Prop
  | d {v : V} {x : PyData} : RepF P w K H v x → ValR P w K H σ r v (.d x)
  | fresh {a : Addr} {x : PyData} : RepO P w K H a x → ¬ Own σ r a → ValR P w K H σ r (.ref a) (.fresh x)
  | bor {i : Nat} {v : V} : σ[i]? = some (some v) → ((∃ x, r[i]? = some (.ow x)) ∨ ∃ x, r[i]? = some (.fz x)) → ValR P w K H σ r v (.bor i)
  | fn (x : Str) : ValR P w K H σ r (.ref (He.ga K x)) (.fn x)
  | scr {a : Addr} {ns : List Int} : (∀ H', Later H H' → SqL K H' a (ns.map V.int)) → ValR P w K H σ r (.ref a) (.scr ns)
/-- data that an operation may look at -/
inductive RepP (P : Program) (w : World) (K : PySem.W.Frag) (H : Hp) : V → PyData → Prop
  | fz {v : V} {x : PyData} : RepF P w K H v x → RepP P w K H v x
  | ow {a : Addr} {x : PyData} : RepO P w K H a x → RepP P w K H (.ref a) x
section
variable {P : Program} {w : World} {K : PySem.W.Frag} {H H' : Hp} {σ : St} {r : Rh} {v : V}
theorem ValR.peek {u : Val} {x : PyData} (e : EnvR P w K H σ r) (h : ValR P w K H σ r v u) (hx : u.peek r = some x) : RepP P w K H v x := by
  cases h with
  | d q => cases hx; exact .fz q
  | fresh q _ => cases hx; exact .ow q
  | @bor i v hs hr =>
    rcases hr with ⟨y, hy⟩ | ⟨y, hy⟩
    · obtain ⟨a, ha, ro, _⟩ := e.owned hy
      rw [hs] at ha; cases ha
      have : some y = some x := by rw [← hx]; show _ = Rh.dat r i; unfold Rh.dat; rw [hy]
      cases this
      exact .ow ro
    · obtain ⟨b, hb, rf⟩ := e.frozen hy
      rw [hs] at hb; cases hb
      have : some y = some x := by rw [← hx]; show _ = Rh.dat r i; unfold Rh.dat; rw [hy]
      cases this
      exact .fz rf
  | fn y => cases hx
  | scr _ => cases hx
/-- a value that was found stays while what follows goes on -/
theorem ValR.later {u : Val} {r' : Rh} (e : EnvR P w K H σ r) (h : ValR P w K H σ r v u) (x : Ext (Own σ r) H H') (so : ∀ a, Own σ r' a → Own σ r a) (sf : ∀ i : Nat, (∃ y, r[i]? = some (Slot.ow y)) ∨ (∃ y, r[i]? = some (Slot.fz y)) → (∃ y, r'[i]? = some (Slot.ow y)) ∨ ∃ y, r'[i]? = some (Slot.fz y)) :
    ValR P w K H' σ r' v u := by
  have l := x.later e.ownOk
  cases h with
  | d q => exact .d (RepF.later l _ _ q)
  | fresh q n =>
    refine .fresh (q.later l ?_) fun z => n (so _ z)
    obtain ⟨u, h1, m⟩ := q.at_
    rw [h1]
    exact x.keep _ _ h1 n fun ps z => by subst z; cases m
  | bor hs hr => exact .bor hs (sf _ hr)
  | fn y => exact .fn y
  | scr q => exact .scr fun H2 l2 => q H2 (l.trans l2)
end
end FJ

set_option Elab.async false
set_option linter.all false
set_option autoImplicit false
set_option maxRecDepth 100000
set_option maxHeartbeats 0
/-! Ev3a: operators on values, as the evaluator has them. -/
namespace FJ
open PySem PySem.Spec L2
open PyProof.Rows hiding St

section
variable {P : Program} {w : World} {K : PySem.W.Frag} {H H' : Hp}
theorem RepFs.length : ∀ {xs : List V} {ds : List PyData}, RepFs P w K H xs ds → xs.length = ds.length
  | _, _, .nil => rfl
  | _, _, .cons _ t => by rw [List.length_cons, List.length_cons, t.length]
theorem RepFs.append : ∀ {xs ys : List V} {ds es : List PyData}, RepFs P w K H xs ds → RepFs P w K H ys es → RepFs P w K H (xs ++ ys) (ds ++ es)
  | _, _, _, _, .nil, s => s
  | _, _, _, _, .cons r t, s => .cons r (RepFs.append t s)
theorem RepFs.take : ∀ (n : Nat) {xs : List V} {ds : List PyData}, RepFs P w K H xs ds → RepFs P w K H (xs.take n) (ds.take n)
  | 0, _, _, _ => .nil
  | _ + 1, _, _, .nil => .nil
  | n + 1, _, _, .cons r t => .cons r (RepFs.take n t)
theorem RepFs.drop : ∀ (n : Nat) {xs : List V} {ds : List PyData}, RepFs P w K H xs ds → RepFs P w K H (xs.drop n) (ds.drop n)
  | 0, _, _, h => h
  | _ + 1, _, _, .nil => .nil
  | n + 1, _, _, .cons _ t => RepFs.drop n t
theorem RepFs.rep : ∀ (n : Nat) {xs : List V} {ds : List PyData}, RepFs P w K H xs ds → RepFs P w K H (List.replicate n xs).flatten (repd ds n)
  | 0, _, _, _ => .nil
  | n + 1, xs, ds, h => by
    have e1 : (List.replicate (n + 1) xs).flatten = xs ++ (List.replicate n xs).flatten := by rw [List.replicate_succ, List.flatten_cons]
    have e2 : repd ds (n + 1) = ds ++ repd ds n := by unfold repd; rw [List.replicate_succ, List.flatten_cons]
    rw [e1, e2]
    exact h.append (RepFs.rep n h)
theorem RepFs.get : ∀ {xs : List V} {ds : List PyData} {i : Nat} {d : PyData}, RepFs P w K H xs ds → ds[i]? = some d → ∃ v, xs[i]? = some v ∧ RepF P w K H v d
  | _, _, 0, _, .cons r _, h => by cases h; exact ⟨_, rfl, r⟩
  | _, _, i + 1, d, .cons _ t, h => by
    rw [List.getElem?_cons_succ] at h
    obtain ⟨v, e, r⟩ := RepFs.get (i := i) (d := d) t h
    exact ⟨v, by rw [List.getElem?_cons_succ]; exact e, r⟩
theorem RepFs.getV : ∀ {xs : List V} {ds : List PyData} {i : Nat} {v : V}, RepFs P w K H xs ds → xs[i]? = some v → ∃ d, ds[i]? = some d ∧ RepF P w K H v d
  | _, _, 0, _, .cons r _, h => by cases h; exact ⟨_, rfl, r⟩
  | _, _, i + 1, v, .cons _ t, h => by
    rw [List.getElem?_cons_succ] at h
    obtain ⟨d, e, r⟩ := RepFs.getV (i := i) (v := v) t h
    exact ⟨d, by rw [List.getElem?_cons_succ]; exact e, r⟩
theorem RepFs.set : ∀ (i : Nat) {xs : List V} {ds : List PyData} {v : V} {d : PyData}, RepFs P w K H xs ds → RepF P w K H v d → RepFs P w K H (xs.set i v) (ds.set i d)
  | _, _, _, _, _, .nil, _ => .nil
  | 0, _, _, _, _, .cons _ t, r => .cons r t
  | i + 1, _, _, _, _, .cons q t, r => .cons q (RepFs.set i t r)
theorem RepFs.dropLast {xs : List V} {ds : List PyData} (h : RepFs P w K H xs ds) : RepFs P w K H xs.dropLast ds.dropLast := by
  rw [List.dropLast_eq_take, List.dropLast_eq_take, h.length]
  exact h.take _
theorem RepFs.reverse : ∀ {xs : List V} {ds : List PyData}, RepFs P w K H xs ds → RepFs P w K H xs.reverse ds.reverse
  | _, _, .nil => .nil
  | _, _, .cons r t => by rw [List.reverse_cons, List.reverse_cons]; exact t.reverse.append (.cons r .nil)
theorem RepFs.snoc {xs : List V} {ds : List PyData} {v : V} {d : PyData} (h : RepFs P w K H xs ds) (r : RepF P w K H v d) : RepFs P w K H (xs ++ [v]) (ds ++ [d]) := h.append (.cons r .nil)

/-! ### what data lie how -/
theorem RepP.listI {v : V} {ds : List PyData} (h : RepP P w K H v (.list ds)) : ∃ a xs, v = .ref a ∧ Rd H a (.lst xs) ∧ RepFs P w K H xs ds := by
  cases h with
  | fz q => cases q with | lst e r => exact ⟨_, _, rfl, .inr ⟨_, e⟩, r⟩
  | ow q => cases q with | lst e r => exact ⟨_, _, rfl, .inl e, r⟩
theorem RepP.tupI {v : V} {ds : List PyData} (h : RepP P w K H v (.tuple ds)) : ∃ a xs, v = .ref a ∧ TP K H a xs ∧ RepFs P w K H xs ds := by
  cases h with
  | fz q => cases q with | tup e r => exact ⟨_, _, rfl, e, r⟩
  | ow q => cases q
theorem RepP.dictI {v : V} {ps : List (PyData × PyData)} (h : RepP P w K H v (.dict ps)) : ∃ a, v = .ref a ∧ ((∃ kvs, Rd H a (.dK kvs) ∧ RepKs P w K H kvs ps) ∨ ∃ es, Rd H a (NdO P w a es) ∧ es ≠ [] ∧ RepNs P w K H es ps) := by
  cases h with
  | fz q => cases q with
    | dK e r => exact ⟨_, rfl, .inl ⟨_, .inr ⟨_, e⟩, r⟩⟩
    | dN e n r => exact ⟨_, rfl, .inr ⟨_, .inr ⟨_, e⟩, n, r⟩⟩
  | ow q => cases q with
    | dK e r => exact ⟨_, rfl, .inl ⟨_, .inl e, r⟩⟩
    | dN e n r => exact ⟨_, rfl, .inr ⟨_, .inl e, n, r⟩⟩
theorem RepP.intI {v : V} {i : Int} (h : RepP P w K H v (.int i)) : v = .int i := by
  cases h with
  | fz q => cases q; rfl
  | ow q => cases q
theorem RepP.strI {v : V} {x : Str} (h : RepP P w K H v (.str x)) : v = .str x ∧ PyData.strOk x = true := by
  cases h with
  | fz q => cases q with | str _ z => exact ⟨rfl, z⟩
  | ow q => cases q
theorem RepP.blI {v : V} {b : Bool} (h : RepP P w K H v (.bool b)) : v = .bl b := by
  cases h with
  | fz q => cases q; rfl
  | ow q => cases q
theorem RepP.nonI {v : V} (h : RepP P w K H v .none) : v = .non := by
  cases h with
  | fz q => cases q; rfl
  | ow q => cases q

/-! ### data without dicts, as the layer has them -/
mutual
theorem RepF.dp : ∀ (d : PyData) (v : V), RepF P w K H v d → noDict d = true → Dp K H v d
  | .none, _, h, _ => by cases h; exact .non
  | .bool _, _, h, _ => by cases h; exact .bl _
  | .int _, _, h, _ => by cases h; exact .int _
  | .str _, _, h, _ => by cases h; exact .str _
  | .list ds, _, h, n => by
    have n' : noDicts ds = true := by simpa [noDict] using n
    cases h with | lst e r => exact .lst (.inl (.inr ⟨_, e⟩)) (RepFs.dp ds _ r n')
  | .tuple ds, _, h, n => by
    have n' : noDicts ds = true := by simpa [noDict] using n
    cases h with | tup e r => exact .tup e.sq (RepFs.dp ds _ r n')
  | .dict _, _, _, n => by simp [noDict] at n
theorem RepFs.dp : ∀ (ds : List PyData) (vs : List V), RepFs P w K H vs ds → noDicts ds = true → DpAll K H vs ds
  | [], _, h, _ => by cases h; exact .nil
  | d :: ds, _, h, n => by
    have n' : noDict d = true ∧ noDicts ds = true := by simpa [noDicts] using n
    cases h with | cons a b => exact .cons (RepF.dp d _ a n'.1) (RepFs.dp ds _ b n'.2)
end
theorem RepP.dp {v : V} {d : PyData} (h : RepP P w K H v d) (n : noDict d = true) : Dp K H v d := by
  cases h with
  | fz q => exact q.dp d _ n
  | ow q => cases q with
    | lst e r => exact .lst (.inl (.inl e)) (RepFs.dp _ _ r (by simpa [noDict] using n))
    | dK _ _ => simp [noDict] at n
    | dN _ _ _ => simp [noDict] at n
mutual
theorem RepF.lay : ∀ (d : PyData) (v : V), RepF P w K H v d → noDict d = true → d.canLay0 = true
  | .none, _, _, _ => by simp [PyData.canLay0]
  | .bool _, _, _, _ => by simp [PyData.canLay0]
  | .int _, _, _, _ => by simp [PyData.canLay0]
  | .str _, _, h, _ => by cases h with | str _ z => simpa [PyData.canLay0] using z
  | .list ds, _, h, n => by
    have n' : noDicts ds = true := by simpa [noDict] using n
    cases h with | lst e r => simpa [PyData.canLay0] using RepFs.lay ds _ r n'
  | .tuple ds, _, h, n => by
    have n' : noDicts ds = true := by simpa [noDict] using n
    cases h with | tup e r => simpa [PyData.canLay0] using RepFs.lay ds _ r n'
  | .dict _, _, _, n => by simp [noDict] at n
theorem RepFs.lay : ∀ (ds : List PyData) (vs : List V), RepFs P w K H vs ds → noDicts ds = true → PyData.canLayAll0 ds = true
  | [], _, _, _ => by simp [PyData.canLayAll0]
  | d :: ds, _, h, n => by
    have n' : noDict d = true ∧ noDicts ds = true := by simpa [noDicts] using n
    cases h with | cons a b => simp [PyData.canLayAll0, RepF.lay d _ a n'.1, RepFs.lay ds _ b n'.2]
end
theorem RepP.lay {v : V} {d : PyData} (h : RepP P w K H v d) (n : noDict d = true) : d.canLay0 = true := by
  cases h with
  | fz q => exact q.lay d _ n
  | ow q => cases q with
    | lst e r => simpa [PyData.canLay0] using RepFs.lay _ _ r (by simpa [noDict] using n)
    | dK _ _ => simp [noDict] at n
    | dN _ _ _ => simp [noDict] at n
end

/-- what a rule hands on: frozen data, or a new list or dict -/
def GetsV (P : Program) (w : World) (K : PySem.W.Frag) (H : Hp) (r : Val) (Q : VK) : Prop := match r with
  | .d x => ∀ v H', Grow H H' → RepF P w K H' v x → Q v H'
  | .fresh x => ∀ a H', Grow H H' → H a = none → RepO P w K H' a x → Q (.ref a) H'
  | _ => False

section
variable {X : Cx} {pins : List (Addr × Obj)} {σ : St} {H : Hp} {s : Shared}
/-- a list that is read -/
theorem lstR {l : Addr} {xs : List V} (I : Inv X pins σ H s) (hR : Rd H l (.lst xs)) : xs.length ≤ sizeLine ∧ ∃ (its : List Value) (n : Nat), Vals xs its ∧ xs.length = its.length ∧ s.heap.get? l = some { cls := .type "list", data := .seq its.toArray n } := by
  obtain ⟨z, its, n, r, e⟩ := hR.ok I.hok
  exact ⟨z, its, n, r, r.length, e⟩
theorem RepFs.new {K : PySem.W.Frag} {P : Program} {w : World} {H : Hp} {p : Addr} {u : HO} {xs : List V} {ds : List PyData} (h : RepFs P w K H xs ds) (hp : H p = none) : RepFs P w K (upd H p u) xs ds := RepFs.later (Grow.new u hp).later _ _ h

/-- int, text, list, tuple: +, -, *, //, %, ** -/
def rBin (P : Program) (w : World) (K : PySem.W.Frag) (o : Bop) : R2 := fun v u H Q => ∃ x y r, RepP P w K H v x ∧ RepP P w K H u y ∧ binD o x y = some r ∧ GetsV P w K H r Q
theorem cat_lists {a b : Addr} {xs ys : List V} {Q : VK} (I : Inv X pins σ H s) (ha : Rd H a (.lst xs)) (hb : Rd H b (.lst ys)) (hz : xs.length + ys.length ≤ sizeLine)
    (q : ∀ p, H p = none → Q (.ref p) (upd H p (.lst (xs ++ ys)))) : wpAny (model X.prog X.w) X.A (binaryOp .Add (.ref a) (.ref b)) (EP X pins σ Q) X.xe s := by
  obtain ⟨_, its, n, r, hl, e⟩ := lstR I ha
  obtain ⟨_, its2, n2, r2, hl2, e2⟩ := lstR I hb
  refine PySem.P.add_list e e2 ?_ (by rw [List.size_toArray, List.size_toArray]; omega)
  rw [show its.toArray ++ its2.toArray = (its ++ its2).toArray by simp]
  exact ⟨.ref _, _, Inv.lnew (t' := s.toks) I (r.append r2) (by rw [List.length_append]; exact hz), rfl, q _ I.fresh⟩
theorem rep_list {a : Addr} {xs : List V} {k : Int} {t : Tok} {Q : VK} (I : Inv X pins σ H s) (ha : Rd H a (.lst xs)) (h1 : -(2 ^ 63) ≤ k) (h2 : k < 2 ^ 63) (hz : xs.length * k.toNat ≤ sizeLine)
    (q : ∀ p, H p = none → Q (.ref p) (upd H p (.lst (List.replicate k.toNat xs).flatten))) : wpAny (model X.prog X.w) X.A (binaryOp .Mult (.ref a) (.int k t)) (EP X pins σ Q) X.xe s := by
  obtain ⟨_, its, n, r, hl, e⟩ := lstR I ha
  have c1 : its.toArray.size * k.toNat ≤ sizeLine := by rw [List.size_toArray, ← hl]; exact hz
  have c2 : ¬ its.toArray.size * k.toNat > (2 ^ 63 - 1) / 8 := fun z => by
    have : (sizeLine : Nat) ≤ (2 ^ 63 - 1) / 8 := by decide
    omega
  have c3 : ¬ (!Builtin.List.listFitsIndex k) = true := by rw [fitsIndex_both h1 h2]; decide
  have c4 : ¬ Builtin.List.listTooLong (its.toArray.size * k.toNat) = true := by rw [notLongL c1]; decide
  have fld : (List.replicate (if its.toArray.isEmpty = true then 0 else k.toNat) its.toArray).foldl (fun x y => x ++ y) #[] = (List.replicate k.toNat its).flatten.toArray := by
    by_cases hi : its = []
    · subst hi; simp
    · have : its.toArray.isEmpty = false := by cases its with | nil => exact absurd rfl hi | cons _ _ => rfl
      rw [this]
      exact size_rep its k.toNat
  have ty : s.TypeIs (.ref a) "list" := ⟨_, e, rfl⟩
  refine wpAny_binaryOp_repeat_ref (T := "list") (U := "int") (by decide) ty (fun s' => typeIs_int s' k t) noFill_list_mul F.fills_int_mul F.slot_int_rmul repeat_list F.slot_int_index.lookup ?_
  refine call_meets F.slot_int_rmul (typeIs_int s k t) F.entry_int_rmul (F.args_int_rmul_2 _ _) (int___rmul___int_list k t a its.toArray n) ⟨e, rfl, ty, ?_⟩
  refine call_meets F.slot_list_mul ty F.entry_list_mul (F.args_list_mul_2 _ _) (AutoListH.list___mul___list_int_3 a its.toArray n k t c3 c2 c4) ⟨e, ?_⟩
  rw [fld]
  exact ⟨.ref _, _, Inv.lnew (t' := s.toks) I (r.rep k.toNat) (by rw [PyProof.Rows.lm_len_rep_flat, Nat.mul_comm]; exact hz), rfl, q _ I.fresh⟩
theorem cat_tups {a b : Addr} {xs ys : List V} {Q : VK} (I : Inv X pins σ H s) (ha : TP X.K H a xs) (hb : TP X.K H b ys) (hz : xs.length + ys.length ≤ sizeLine) (q1 : xs = [] → Q (.ref b) H) (q2 : ys = [] → Q (.ref a) H)
    (q : ∀ p o, H p = none → TP X.K (upd H p o) p (xs ++ ys) → Q (.ref p) (upd H p o)) : wpAny (model X.prog X.w) X.A (binaryOp .Add (.ref a) (.ref b)) (EP X pins σ Q) X.xe s := by
  obtain ⟨us, r1, t1, _⟩ := I.tuple ha.sq
  obtain ⟨ws, r2, t2, _⟩ := I.tuple hb.sq
  by_cases hx : xs = []
  · subst hx
    cases r1
    exact cat_tup0 t1 t2 ⟨.ref b, H, I, rfl, q1 rfl⟩
  · refine HT.cat_tup t1 t2 (fun z => hx (r1.nil_iff.mp z)) (fun z => ⟨.ref a, H, I, rfl, q2 (r2.nil_iff.mp z)⟩) (fun z => ?_) (by rw [← r1.length, ← r2.length]; exact hz)
    obtain ⟨hn, J⟩ := newTup (t' := s.toks) I (r1.append r2) (by rw [List.length_append]; exact hz)
    exact ⟨.ref s.heap.objs.size, _, J, rfl, q _ _ hn .new⟩
theorem rep_tup {a : Addr} {xs : List V} {k : Int} {t : Tok} {Q : VK} (I : Inv X pins σ H s) (ha : TP X.K H a xs) (h0 : xs ≠ []) (h1 : 2 ≤ k) (h2 : k ≤ 1000) (hz : xs.length ≤ 1000)
    (q : ∀ p o, H p = none → TP X.K (upd H p o) p (List.replicate k.toNat xs).flatten → Q (.ref p) (upd H p o)) : wpAny (model X.prog X.w) X.A (binaryOp .Mult (.ref a) (.int k t)) (EP X pins σ Q) X.xe s := by
  obtain ⟨us, r, ⟨⟨c, dd, dt, sl⟩, ho, hc, n, hd⟩, hs⟩ := I.tuple ha.sq
  simp only at hc hd
  subst hc hd
  have hl : us.length = xs.length := r.length.symm
  have hn : us ≠ [] := fun e => h0 (r.nil_iff.mp e)
  have hi : us.toArray.isEmpty = false := by cases us <;> first | exact absurd rfl hn | rfl
  have hp : ((us.toArray.size : Nat) : Int) * k ≤ 1000000 := by
    have : ((us.length : Nat) : Int) * k ≤ 1000 * k := Int.mul_le_mul_of_nonneg_right (by omega) (by omega)
    rw [List.size_toArray]
    omega
  have hf : (List.replicate k.toNat us).flatten.length ≤ sizeLine := by
    have : k.toNat * us.length ≤ 1000 * 1000 := Nat.mul_le_mul (by omega) (by omega)
    rw [lm_len_rep_flat, sizeLine_eq]
    omega
  have e1 : (decide (k < -(2 ^ 63)) || decide (k ≥ 2 ^ 63)) = false := by simp; omega
  have e2 : (us.toArray.isEmpty || k == 1) = false := by rw [hi, Bool.false_or]; exact beq_eq_false_iff_ne.mpr (by omega)
  have e3 : (decide (k ≤ 0) || us.toArray.isEmpty) = false := by rw [hi, Bool.or_false]; exact decide_eq_false (by omega)
  have e4 : Builtin.Tuple.tupleTooMany (((us.toArray.size : Nat) : Int) * k) = false := by
    unfold Builtin.Tuple.tupleTooMany
    rw [sizeLine_eq]
    exact decide_eq_false (by omega)
  have ty : s.TypeIs (.ref a) "tuple" := ⟨_, ho, rfl⟩
  refine wpAny_binaryOp_repeat_ref (T := "tuple") (U := "int") (by decide) ty (fun s' => typeIs_int s' k t) noFill_tuple_mul F.fills_int_mul F.slot_int_rmul repeat_tuple F.slot_int_index.lookup ?_
  refine call_meets F.slot_int_rmul (typeIs_int s k t) F.entry_int_rmul (F.args_int_rmul_2 _ _) (int_rmul_tuple k t a us.toArray n dd sl) ⟨ho, rfl, ty, ?_⟩
  refine call_meets F.slot_tuple_mul ty F.entry_tuple_mul (F.args_tuple_mul_2 _ _) (tuple_mulW a us.toArray n dd sl k t e1 e2 e3 (by omega) e4 (by rw [size_rep, List.size_toArray]; exact hf)) ⟨ho, ?_⟩
  rw [size_rep]
  obtain ⟨hn, J⟩ := newTup (t' := s.toks) I (r.rep k.toNat) (by rw [lm_len_rep_flat, ← hl]; rw [lm_len_rep_flat] at hf; exact hf)
  exact ⟨.ref s.heap.objs.size, _, J, rfl, q _ _ hn .new⟩
def opOf : Bop → Operator
  | .add => .Add
  | .sub => .Sub
  | .mul => .Mult
  | .fdiv => .FloorDiv
  | .mod => .Mod
  | .pow => .Pow
theorem ite_some {α : Type} {c : Prop} [Decidable c] {a b : α} (h : (if c then some a else none) = some b) : c ∧ a = b := by
  split at h
  · exact ⟨by assumption, Option.some.inj h⟩
  · cases h
theorem and3 {a b c : Bool} (h : (a && b && c) = true) : a = true ∧ b = true ∧ c = true := by
  rw [Bool.and_eq_true, Bool.and_eq_true] at h
  exact ⟨h.1.1, h.1.2, h.2⟩
theorem strOk_app {x y : Str} (hx : PyData.strOk x = true) (hy : PyData.strOk y = true) : PyData.strOk (x ++ y) = true := by
  have e : (x ++ y).cps = x.cps ++ y.cps := rfl
  unfold PyData.strOk at hx hy ⊢
  rw [e, Array.all_append, hx, hy]
  rfl
theorem op_bin (o : Bop) : OpR X (binaryOp (opOf o)) (rBin X.prog X.w X.K o) := by
  intro pins s σ H v u v' u' Q I rv ru h
  obtain ⟨x, y, r, hx, hy, hr, q⟩ := h
  unfold binD at hr
  split at hr
  · cases hr
    cases hx.intI; cases hy.intI
    exact op_add pins s σ H _ _ _ _ Q I rv ru ⟨_, _, rfl, rfl, q _ H (Grow.refl H) (.int _)⟩
  · obtain ⟨hz, hr⟩ := ite_some hr
    cases hr
    obtain ⟨rfl, s1⟩ := hx.strI
    obtain ⟨rfl, s2⟩ := hy.strI
    exact op_add_str pins s σ H _ _ _ _ Q I rv ru ⟨_, _, rfl, rfl, hz, q _ H (Grow.refl H) (.str _ (strOk_app s1 s2))⟩
  · obtain ⟨hz, hr⟩ := ite_some hr
    cases hr
    obtain ⟨a, xs, rfl, ha, ra⟩ := hx.listI
    obtain ⟨b, ys, rfl, hb, rb⟩ := hy.listI
    cases rv; cases ru
    exact cat_lists I ha hb (by rw [ra.length, rb.length]; exact hz) fun p hp => q p _ (Grow.new _ hp) hp (.lst upd_same ((ra.new hp).append (rb.new hp)))
  · obtain ⟨hz, hr⟩ := ite_some hr
    cases hr
    obtain ⟨a, xs, rfl, ha, ra⟩ := hx.tupI
    obtain ⟨b, ys, rfl, hb, rb⟩ := hy.tupI
    cases rv; cases ru
    exact cat_tups I ha hb (by rw [ra.length, rb.length]; exact hz) (fun e => by
        subst e
        cases ra
        exact q _ H (Grow.refl H) (.tup hb rb)) (fun e => by
        subst e
        cases rb
        exact q _ H (Grow.refl H) (.tup ha (by rw [List.append_nil]; exact ra))) fun p o hp t => q _ _ (Grow.new _ hp) (.tup t ((ra.new hp).append (rb.new hp)))
  · cases hr
    cases hx.intI; cases hy.intI
    exact op_sub pins s σ H _ _ _ _ Q I rv ru ⟨_, _, rfl, rfl, q _ H (Grow.refl H) (.int _)⟩
  · obtain ⟨hz, hr⟩ := ite_some hr
    cases hr
    cases hx.intI; cases hy.intI
    refine op_mul pins s σ H _ _ _ _ Q I rv ru ⟨_, _, rfl, rfl, ?_, q _ H (Grow.refl H) (.int _)⟩
    unfold mulOk at hz
    rw [Bool.or_eq_true, Bool.and_eq_true, Bool.and_eq_true] at hz
    exact hz.imp (fun z => ⟨of_decide_eq_true z.1, of_decide_eq_true z.2⟩) fun z => ⟨of_decide_eq_true z.1, of_decide_eq_true z.2⟩
  · obtain ⟨hz, hr⟩ := ite_some hr
    cases hr
    obtain ⟨z1, z2, z3⟩ := and3 hz
    obtain ⟨a, xs, rfl, ha, ra⟩ := hx.listI
    cases hy.intI
    cases rv
    obtain ⟨t, rfl⟩ := ru
    exact rep_list I ha (of_decide_eq_true z1) (of_decide_eq_true z2) (by rw [ra.length]; exact of_decide_eq_true z3) fun p hp => q p _ (Grow.new _ hp) hp (.lst upd_same ((ra.new hp).rep _))
  · obtain ⟨hz, hr⟩ := ite_some hr
    cases hr
    obtain ⟨z0, z1, z2⟩ := and3 hz
    obtain ⟨z0, z3⟩ := Bool.and_eq_true_iff.mp z0
    obtain ⟨a, xs, rfl, ha, ra⟩ := hx.tupI
    cases hy.intI
    cases rv
    obtain ⟨t, rfl⟩ := ru
    exact rep_tup I ha (fun e => by subst e; cases ra; cases z0) (of_decide_eq_true z3) (of_decide_eq_true z1) (by rw [ra.length]; exact of_decide_eq_true z2) fun p o hp t => q _ _ (Grow.new _ hp) (.tup t ((ra.new hp).rep _))
  · obtain ⟨hz, hr⟩ := ite_some hr
    cases hr
    obtain ⟨z1, z2⟩ := Bool.and_eq_true_iff.mp hz
    cases hx.intI; cases hy.intI
    exact op_fdiv pins s σ H _ _ _ _ Q I rv ru ⟨_, _, rfl, rfl, ⟨of_decide_eq_true z1, of_decide_eq_true z2⟩, q _ H (Grow.refl H) (.int _)⟩
  · obtain ⟨hz, hr⟩ := ite_some hr
    cases hr
    cases hx.intI; cases hy.intI
    exact op_mod pins s σ H _ _ _ _ Q I rv ru ⟨_, _, rfl, rfl, hz, q _ H (Grow.refl H) (.int _)⟩
  · obtain ⟨hz, hr⟩ := ite_some hr
    cases hr
    obtain ⟨z1, z2, z3⟩ := and3 hz
    cases hx.intI; cases hy.intI
    exact op_pow pins s σ H _ _ _ _ Q I rv ru ⟨_, _, rfl, rfl, ⟨of_decide_eq_true z1, of_decide_eq_true z2, of_decide_eq_true z3⟩, q _ H (Grow.refl H) (.int _)⟩
  · cases hr
end
end FJ

set_option Elab.async false
set_option linter.all false
set_option autoImplicit false
set_option maxRecDepth 100000
set_option maxHeartbeats 0
/-! Ev3b: keys of dicts, comparisons. -/
namespace FJ
open PySem PySem.Spec L2
open PyProof.Rows hiding St

/-! ### keys -/
mutual
theorem eqv_nkey : ∀ x y : PyData, nkOk x = true → nkOk y = true → PyData.eqv x y = decide (nkey x = nkey y)
  | .none, y, _, hy => by cases y <;> simp_all [PyData.eqv, nkey, nkOk]
  | .bool a, y, _, hy => by
    cases y with
    | bool b => cases a <;> cases b <;> simp [PyData.eqv, nkey]
    | int j => cases a <;> simp [PyData.eqv, nkey, Bool.beq_eq_decide_eq]
    | _ => simp_all [PyData.eqv, nkey, nkOk]
  | .int i, y, _, hy => by
    cases y with
    | bool b => cases b <;> simp [PyData.eqv, nkey, Bool.beq_eq_decide_eq]
    | int j => simp [PyData.eqv, nkey, Bool.beq_eq_decide_eq]
    | _ => simp_all [PyData.eqv, nkey, nkOk]
  | .str z, y, _, hy => by
    cases y with
    | str u => simp [PyData.eqv, nkey, Bool.beq_eq_decide_eq]
    | _ => simp_all [PyData.eqv, nkey, nkOk]
  | .tuple xs, y, hx, hy => by
    cases y with
    | tuple ys =>
      have h := eqvs_nkeys xs ys (by simpa [nkOk] using hx) (by simpa [nkOk] using hy)
      simp [PyData.eqv, nkey, h]
    | _ => simp_all [PyData.eqv, nkey, nkOk]
  | .list _, _, hx, _ => by simp [nkOk] at hx
  | .dict _, _, hx, _ => by simp [nkOk] at hx
theorem eqvs_nkeys : ∀ xs ys : List PyData, nksOk xs = true → nksOk ys = true → PyData.eqvAll xs ys = decide (nkeys xs = nkeys ys)
  | [], [], _, _ => by simp [PyData.eqvAll, nkeys]
  | [], _ :: _, _, _ => by simp [PyData.eqvAll, nkeys]
  | _ :: _, [], _, _ => by simp [PyData.eqvAll, nkeys]
  | x :: xs, y :: ys, hx, hy => by
    have hx' : nkOk x = true ∧ nksOk xs = true := by simpa [nksOk] using hx
    have hy' : nkOk y = true ∧ nksOk ys = true := by simpa [nksOk] using hy
    rw [PyData.eqvAll, eqv_nkey x y hx'.1 hy'.1, eqvs_nkeys xs ys hx'.2 hy'.2, nkeys, nkeys]
    by_cases h1 : nkey x = nkey y
    · by_cases h2 : nkeys xs = nkeys ys
      · simp [h1, h2]
      · simp [h1, h2]
    · simp [h1]
end
mutual
theorem nkey_depth : ∀ x : PyData, nkOk x = true → (nkey x).depth ≤ x.depth
  | .none, _ => by simp [nkey, NestedKey.depth]
  | .bool _, _ => by simp [nkey, NestedKey.depth]
  | .int _, _ => by simp [nkey, NestedKey.depth]
  | .str _, _ => by simp [nkey, NestedKey.depth]
  | .tuple xs, h => by
    have := nkeys_depth xs (by simpa [nkOk] using h)
    simp only [nkey, NestedKey.depth, PyData.depth]
    omega
  | .list _, h => by simp [nkOk] at h
  | .dict _, h => by simp [nkOk] at h
theorem nkeys_depth : ∀ xs : List PyData, nksOk xs = true → NestedKey.depthAll (nkeys xs) ≤ PyData.depthAll xs
  | [], _ => by simp [nkeys, NestedKey.depthAll]
  | x :: xs, h => by
    have h' : nkOk x = true ∧ nksOk xs = true := by simpa [nksOk] using h
    have h1 := nkey_depth x h'.1
    have h2 := nkeys_depth xs h'.2
    simp only [nkeys, NestedKey.depthAll, PyData.depthAll]
    omega
end
theorem tupKey_ok {d : PyData} (h : tupKey d = true) : nkOk d = true ∧ (nkey d).depth ≤ 8 := by
  cases d with
  | tuple xs =>
    have h' : nksOk xs = true ∧ PyData.depthAll xs ≤ 7 := by simpa [tupKey] using h
    have ok : nkOk (.tuple xs) = true := by simpa [nkOk] using h'.1
    refine ⟨ok, ?_⟩
    have := nkey_depth (.tuple xs) ok
    simp only [PyData.depth] at this
    omega
  | _ => simp [tupKey] at h

section
variable {X : Cx} {pins : List (Addr × Obj)} {σ : St} {H : Hp} {s : Shared}
mutual
/-- the value of such data is the key -/
theorem RepF.key (I : Inv X pins σ H s) : ∀ (d : PyData) (v : V) (u : Value), RepF X.prog X.w X.K H v d → RelV v u → nkOk d = true → NestedIs s.heap (nkey d) u
  | .none, _, _, h, r, _ => by cases h; cases r; exact .none
  | .bool b, _, _, h, r, _ => by cases h; cases r; exact .bool rfl
  | .int i, _, _, h, r, _ => by cases h; obtain ⟨t, rfl⟩ := r; exact .int _ t
  | .str x, _, _, h, r, _ => by cases h; obtain ⟨t, rfl⟩ := r; exact .text _ t
  | .tuple ds, _, _, h, r, n => by
    cases h with
    | tup e q =>
      cases r
      obtain ⟨its, rv, ⟨o, ho, hc, m, hd⟩, _⟩ := I.tuple e.sq
      exact .tup ho hc hd (RepFs.key I ds _ its q rv (by simpa [nkOk] using n))
  | .list _, _, _, _, _, n => by simp [nkOk] at n
  | .dict _, _, _, _, _, n => by simp [nkOk] at n
theorem RepFs.key (I : Inv X pins σ H s) : ∀ (ds : List PyData) (vs : List V) (us : List Value), RepFs X.prog X.w X.K H vs ds → Vals vs us → nksOk ds = true → NestedAll s.heap (nkeys ds) us
  | [], _, _, h, r, _ => by cases h; cases r; exact .nil
  | d :: ds, _, _, h, r, n => by
    have n' : nkOk d = true ∧ nksOk ds = true := by simpa [nksOk] using n
    cases h with
    | cons a b =>
      cases r with
      | cons r1 r2 => exact .cons (RepF.key I d _ _ a r1 n'.1) (RepFs.key I ds _ _ b r2 n'.2)
end

/-! ### what a dict holds -/
theorem FKey.inj {k k' : Key} {d : PyData} (h : FKey k d) (h' : FKey k' d) : k = k' := by
  cases h <;> cases h' <;> rfl
theorem FKey.flat {k : Key} {d : PyData} (h : FKey k d) : flatKey d = true := by cases h <;> rfl
theorem FKey.val {k : Key} {d : PyData} (h : FKey k d) {P : Program} {w : World} {K : PySem.W.Frag} {H : Hp} : RepF P w K H (kV k) d := by
  cases h with
  | int i => exact .int i
  | str x z => exact .str x z
theorem FKey.eqv {k k' : Key} {d d' : PyData} (h : FKey k d) (h' : FKey k' d') : PyData.eqv d d' = decide (k = k') := by
  cases h <;> cases h' <;> simp [PyData.eqv, Bool.beq_eq_decide_eq]
theorem flatKey_of {P : Program} {w : World} {K : PySem.W.Frag} {H : Hp} {v : V} {d : PyData} (h : RepP P w K H v d) (f : flatKey d = true) : ∃ k, FKey k d ∧ v = kV k := by
  cases d with
  | int i => exact ⟨_, .int i, h.intI⟩
  | str x => obtain ⟨e, z⟩ := h.strI; exact ⟨_, .str x z, e⟩
  | _ => simp [flatKey] at f
theorem find_cons {p : PyData × PyData} {r : List (PyData × PyData)} {x : PyData} : dfind (p :: r) x = if PyData.eqv p.1 x = true then some p.2 else dfind r x := by
  unfold dfind
  rw [List.find?_cons]
  cases PyData.eqv p.1 x <;> rfl
theorem RepKs.find {P : Program} {w : World} {K : PySem.W.Frag} {H : Hp} {k : Key} {x : PyData} (hk : FKey k x) : ∀ {kvs : List (Key × V)} {ps : List (PyData × PyData)}, RepKs P w K H kvs ps →
    (∀ e, dfind ps x = some e → ∃ v, valV kvs k = some v ∧ RepF P w K H v e) ∧ (dfind ps x = none → valV kvs k = none)
  | _, _, .nil => ⟨fun e h => by simp [dfind] at h, fun _ => rfl⟩
  | _, _, .cons (k := k1) (d := d1) (e := e1) z a t => by
    obtain ⟨i1, i2⟩ := RepKs.find hk t
    by_cases hq : k1 = k
    · have e : PyData.eqv d1 x = true := by rw [z.eqv hk]; exact decide_eq_true hq
      refine ⟨fun u h => ?_, fun h => ?_⟩
      · rw [find_cons, if_pos e] at h
        cases h
        exact ⟨_, valV_pos hq, a⟩
      · rw [find_cons, if_pos e] at h; cases h
    · have e : ¬ PyData.eqv d1 x = true := by rw [z.eqv hk]; simp [hq]
      refine ⟨fun u h => ?_, fun h => ?_⟩
      · rw [find_cons, if_neg e] at h
        obtain ⟨v, h1, h2⟩ := i1 u h
        exact ⟨v, by rw [valV_neg hq]; exact h1, h2⟩
      · rw [find_cons, if_neg e] at h
        rw [valV_neg hq]; exact i2 h
/-- tuple keys -/
theorem atKey_cons {y : NestedKey × Addr × Value} {r : List (NestedKey × Addr × Value)} {k : NestedKey} : atKey (y :: r) k = if y.1 = k then some y.2 else atKey r k := by
  unfold atKey
  rw [List.find?_cons]
  by_cases h : y.1 = k <;> simp [h]
theorem RepNs.find {P : Program} {w : World} {K : PySem.W.Frag} {H : Hp} {x : PyData} (hx : tupKey x = true) : ∀ {es : List NEnt} {ps : List (PyData × PyData)} {xs : List (NestedKey × Addr × Value)}, RepNs P w K H es ps → Paired NPair es xs →
    (∀ e, dfind ps x = some e → ∃ p v, atKey xs (nkey x) = some p ∧ RelV v p.2 ∧ RepF P w K H v e) ∧ (dfind ps x = none → atKey xs (nkey x) = none)
  | _, _, _, .nil, .nil => ⟨fun e h => by simp [dfind] at h, fun _ => rfl⟩
  | _, _, _, .cons (d := d1) z tk a t, .cons (b := q) pq pr => by
    obtain ⟨i1, i2⟩ := RepNs.find hx t pr
    obtain ⟨e1, e2, e3⟩ := pq
    have ee := eqv_nkey d1 x (tupKey_ok tk).1 (tupKey_ok hx).1
    by_cases hq : nkey d1 = nkey x
    · have e : PyData.eqv d1 x = true := by rw [ee]; exact decide_eq_true hq
      refine ⟨fun u h => ?_, fun h => ?_⟩
      · rw [find_cons, if_pos e] at h
        cases h
        refine ⟨q.2, _, by rw [atKey_cons, if_pos (e1.symm.trans hq)], e3, a⟩
      · rw [find_cons, if_pos e] at h; cases h
    · have e : ¬ PyData.eqv d1 x = true := by rw [ee]; simp [hq]
      have hq' : ¬ q.1 = nkey x := fun z => hq (e1.trans z)
      refine ⟨fun u h => ?_, fun h => ?_⟩
      · rw [find_cons, if_neg e] at h
        obtain ⟨p, v, h1, h2⟩ := i1 u h
        exact ⟨p, v, by rw [atKey_cons, if_neg hq']; exact h1, h2⟩
      · rw [find_cons, if_neg e] at h
        rw [atKey_cons, if_neg hq']; exact i2 h

/-- a dict that has tuple keys, or is empty -/
def NestAt (P : Program) (w : World) (K : PySem.W.Frag) (H : Hp) (a : Addr) (ps : List (PyData × PyData)) : Prop :=
  ∃ es, (Rd H a (NdO P w a es) ∨ (es = [] ∧ Rd H a (.dK []))) ∧ RepNs P w K H es ps
theorem nestAll (I : Inv X pins σ H s) : ∀ {es : List NEnt} {ps : List (PyData × PyData)} {xs : List (NestedKey × Addr × Value)}, RepNs X.prog X.w X.K H es ps → Paired NPair es xs → ∀ q ∈ xs, (nestedKind X.prog X.w).is s.heap q.1 q.2.1
  | _, _, _, .nil, .nil => fun q hq => by cases hq
  | _, _, _, .cons b tk a t, .cons pq pt => fun q hq => by
    obtain ⟨p1, p2, _⟩ := pq
    rcases List.mem_cons.mp hq with e | hq
    · subst e
      obtain ⟨k1, k2⟩ := tupKey_ok tk
      rw [← p1, ← p2]
      exact ⟨RepF.key I _ _ _ b rfl k1, k2⟩
    · exact nestAll I t pt q hq
theorem nestAt {a : Addr} {ps : List (PyData × PyData)} (I : Inv X pins σ H s) (h : NestAt X.prog X.w X.K H a ps) :
    ∃ es xs, RepNs X.prog X.w X.K H es ps ∧ es.length ≤ sizeLine ∧ (a == sysModules) = false ∧ Paired NPair es xs ∧ s.heap.DictOfH (nestedKind X.prog X.w) a xs := by
  obtain ⟨es, h, r⟩ := h
  rcases h with h | ⟨rfl, h⟩
  · obtain ⟨z, y, nd, xs, pr, o, ds, ep, e1, e2, e3, e4⟩ := NdO_of (h.ok I.hok)
    refine ⟨es, xs, r, z, y, pr, o, ds, ep, e1, e2, e3, e4, ?_, ?_⟩
    · exact nestAll I r pr
    · have keys : ∀ {es : List NEnt} {xs : List (NestedKey × Addr × Value)}, Paired NPair es xs → xs.map (·.1) = es.map (·.1) := by
        intro es xs pr
        induction pr with
        | nil => rfl
        | cons p _ ih => rw [List.map_cons, List.map_cons, ih, p.1]
      rw [keys pr]
      exact nd
  · cases r
    obtain ⟨_, y, vs, kv, o, ds, ep, e1, e2, e3, e4, e5, _⟩ := h.ok I.hok
    cases kv
    refine ⟨[], [], .nil, Nat.zero_le _, y, .nil, o, ds, ep, e1, e2, e3, ?_, ⟨(fun x hx => absurd hx List.not_mem_nil), List.nodup_nil⟩⟩
    have : ds.toList = [] := by
      have q : Pairs (mixKind X.prog X.w) ds.toList [] := e5
      cases q' : ds.toList with
      | nil => rfl
      | cons a b => rw [q'] at q; cases q
    rw [this]
    rfl
end
end FJ

set_option Elab.async false
set_option linter.all false
set_option autoImplicit false
set_option maxRecDepth 100000
set_option maxHeartbeats 0
/-! Ev3c: comparisons. -/
namespace FJ
open PySem PySem.Spec L2
open PyProof.Rows hiding St
section
variable {X : Cx} {pins : List (Addr × Obj)} {σ : St} {H : Hp} {s : Shared}

/-! ### the two kinds of dicts -/
theorem flat_tup {d : PyData} (h : flatKey d = true) (h' : tupKey d = true) : False := by
  cases d <;> simp [flatKey, tupKey] at h h'
theorem RepKs.flat {P : Program} {w : World} {K : PySem.W.Frag} {H : Hp} : ∀ {kvs : List (Key × V)} {ps : List (PyData × PyData)}, RepKs P w K H kvs ps → ps.all (fun p => tupKey p.1) = true → kvs = [] ∧ ps = []
  | _, _, .nil, _ => ⟨rfl, rfl⟩
  | _, _, .cons z a t, h => by
    rw [List.all_cons, Bool.and_eq_true] at h
    exact (flat_tup z.flat h.1).elim
theorem RepNs.tup {P : Program} {w : World} {K : PySem.W.Frag} {H : Hp} : ∀ {es : List NEnt} {ps : List (PyData × PyData)}, RepNs P w K H es ps → ps.all (fun p => flatKey p.1) = true → es = []
  | _, _, .nil, _ => rfl
  | _, _, .cons z tk a t, h => by
    rw [List.all_cons, Bool.and_eq_true] at h
    exact (flat_tup h.1 tk).elim
theorem RepP.dictF {P : Program} {w : World} {K : PySem.W.Frag} {H : Hp} {v : V} {ps : List (PyData × PyData)} (h : RepP P w K H v (.dict ps)) (f : ps.all (fun p => flatKey p.1) = true) : ∃ a kvs, v = .ref a ∧ Rd H a (.dK kvs) ∧ RepKs P w K H kvs ps := by
  obtain ⟨a, e, h⟩ := h.dictI
  rcases h with ⟨kvs, h, r⟩ | ⟨es, h, n, r⟩
  · exact ⟨a, kvs, e, h, r⟩
  · exact absurd (r.tup f) n
theorem RepP.dictN {P : Program} {w : World} {K : PySem.W.Frag} {H : Hp} {v : V} {ps : List (PyData × PyData)} (h : RepP P w K H v (.dict ps)) (f : ps.all (fun p => tupKey p.1) = true) : ∃ a, v = .ref a ∧ NestAt P w K H a ps := by
  obtain ⟨a, e, h⟩ := h.dictI
  rcases h with ⟨kvs, g, r⟩ | ⟨es, g, n, r⟩
  · obtain ⟨rfl, rfl⟩ := r.flat f
    exact ⟨a, e, [], .inr ⟨rfl, g⟩, .nil⟩
  · exact ⟨a, e, es, .inl g, r⟩
theorem keyFits_or {kvs : List (PyData × PyData)} {k : PyData} (h : keyFits kvs k = true) : (flatKey k = true ∧ kvs.all (fun p => flatKey p.1) = true) ∨ (tupKey k = true ∧ kvs.all (fun p => tupKey p.1) = true) := by
  unfold keyFits at h
  rw [Bool.or_eq_true, Bool.and_eq_true, Bool.and_eq_true] at h
  exact h
theorem tup_ref {P : Program} {w : World} {K : PySem.W.Frag} {H : Hp} {v : V} {k : PyData} (h : RepP P w K H v k) (f : tupKey k = true) : RepF P w K H v k ∧ ∃ a, v = .ref a := by
  cases h with
  | fz q => exact ⟨q, by cases q <;> first | exact ⟨_, rfl⟩ | simp [tupKey] at f⟩
  | ow q => cases q <;> simp [tupKey] at f
theorem nest_key {X : Cx} {pins : List (Addr × Obj)} {σ : St} {H : Hp} {s : Shared} (I : Inv X pins σ H s) {v : V} {u : Value} {k : PyData} (h : RepP X.prog X.w X.K H v k) (f : tupKey k = true) (r : RelV v u) : ∃ b, u = .ref b ∧ (nestedKind X.prog X.w).is s.heap (nkey k) b := by
  obtain ⟨q, a, rfl⟩ := tup_ref h f
  cases r
  obtain ⟨k1, k2⟩ := tupKey_ok f
  exact ⟨a, rfl, RepF.key I k _ _ q rfl k1, k2⟩
/-- k in the dict -/
theorem dict_in (hu : X.A.units + 200 < cLine) {v u : V} {v' u' : Value} {k : PyData} {ps : List (PyData × PyData)} {Q : Value → Shared → Prop} (I : Inv X pins σ H s) (hk : RepP X.prog X.w X.K H v k) (hd : RepP X.prog X.w X.K H u (.dict ps)) (rv : RelV v v') (ru : RelV u u') (f : keyFits ps k = true)
    (q : ∀ s', Inv X pins σ H s' → Q (.bool (dfind ps k).isSome) s') : wpAny (model X.prog X.w) X.A (compareOp .In v' u') Q X.xe s := by
  rcases keyFits_or f with ⟨f1, f2⟩ | ⟨f1, f2⟩
  · obtain ⟨a, kvs, rfl, hR, r⟩ := hd.dictF f2
    obtain ⟨c, hc, rfl⟩ := flatKey_of hk f1
    obtain ⟨i1, i2⟩ := RepKs.find hc r
    cases ru
    refine d_in (o := valV kvs c) (by omega) I (.inl ⟨kvs, c, hR, rfl, rfl⟩) rv fun s' I' => ?_
    have e : (valV kvs c).isSome = (dfind ps k).isSome := by
      cases hf : dfind ps k with
      | none => rw [i2 hf]; rfl
      | some z => obtain ⟨v, e, _⟩ := i1 z hf; rw [e]; rfl
    rw [e]
    exact q s' I'
  · obtain ⟨a, rfl, hN⟩ := hd.dictN f2
    obtain ⟨es, xs, r, z, y, pr, dd⟩ := nestAt I hN
    obtain ⟨b, rfl, hkey⟩ := nest_key I hk f1 rv
    obtain ⟨i1, i2⟩ := RepNs.find f1 r pr
    cases ru
    refine wpAny_in_heap (knd := nestedKind X.prog X.w) (show X.A.units + 1 + 8 < cLine by omega) hkey y dd ?_
    have e : (atKey xs (nkey k)).isSome = (dfind ps k).isSome := by
      cases hf : dfind ps k with
      | none => rw [i2 hf]; rfl
      | some z => obtain ⟨p, v, e, _⟩ := i1 z hf; rw [e]; rfl
    rw [e]
    exact q _ (I.tok _)
theorem dict_notin (hu : X.A.units + 200 < cLine) {v u : V} {v' u' : Value} {k : PyData} {ps : List (PyData × PyData)} {Q : Value → Shared → Prop} (I : Inv X pins σ H s) (hk : RepP X.prog X.w X.K H v k) (hd : RepP X.prog X.w X.K H u (.dict ps)) (rv : RelV v v') (ru : RelV u u') (f : keyFits ps k = true)
    (q : ∀ s', Inv X pins σ H s' → Q (.bool (!(dfind ps k).isSome)) s') : wpAny (model X.prog X.w) X.A (compareOp .NotIn v' u') Q X.xe s := by
  rcases keyFits_or f with ⟨f1, f2⟩ | ⟨f1, f2⟩
  · obtain ⟨a, kvs, rfl, hR, r⟩ := hd.dictF f2
    obtain ⟨c, hc, rfl⟩ := flatKey_of hk f1
    obtain ⟨i1, i2⟩ := RepKs.find hc r
    cases ru
    refine d_notIn (o := valV kvs c) (by omega) I (.inl ⟨kvs, c, hR, rfl, rfl⟩) rv fun s' I' => ?_
    have e : (valV kvs c).isSome = (dfind ps k).isSome := by
      cases hf : dfind ps k with
      | none => rw [i2 hf]; rfl
      | some z => obtain ⟨v, e, _⟩ := i1 z hf; rw [e]; rfl
    rw [e]
    exact q s' I'
  · obtain ⟨a, rfl, hN⟩ := hd.dictN f2
    obtain ⟨es, xs, r, z, y, pr, dd⟩ := nestAt I hN
    obtain ⟨b, rfl, hkey⟩ := nest_key I hk f1 rv
    obtain ⟨i1, i2⟩ := RepNs.find f1 r pr
    cases ru
    refine wpAny_notIn_heap (knd := nestedKind X.prog X.w) (show X.A.units + 1 + 8 < cLine by omega) hkey y dd ?_
    have e : (atKey xs (nkey k)).isSome = (dfind ps k).isSome := by
      cases hf : dfind ps k with
      | none => rw [i2 hf]; rfl
      | some z => obtain ⟨p, v, e, _⟩ := i1 z hf; rw [e]; rfl
    rw [e]
    exact q _ (I.tok _)

/-! ### ==, < -/
theorem eqOk_ok {x y : PyData} (h : eqOk x y = true) : noDict x = true ∧ noDict y = true ∧ min x.depth y.depth ≤ 64 := by
  unfold eqOk at h
  obtain ⟨a, b, c⟩ := and3 h
  exact ⟨a, b, of_decide_eq_true c⟩
theorem memOk {x : PyData} : ∀ {ys : List PyData}, ys.all (fun y => eqOk x y) = true → noDicts ys = true ∧ min (PyData.depthAll ys) x.depth ≤ 64
  | [], _ => ⟨by simp [noDicts], by simp [PyData.depthAll]⟩
  | y :: ys, h => by
    rw [List.all_cons, Bool.and_eq_true] at h
    obtain ⟨_, b, c⟩ := eqOk_ok h.1
    obtain ⟨d, e⟩ := memOk h.2
    refine ⟨by simp [noDicts, b, d], ?_⟩
    rw [PyData.depthAll]
    omega
theorem RepP.reads {X : Cx} {pins : List (Addr × Obj)} {σ : St} {H : Hp} {s : Shared} (I : Inv X pins σ H s) {v : V} {u : Value} {d : PyData} (h : RepP X.prog X.w X.K H v d) (n : noDict d = true) (r : RelV v u) : ∃ as, Reads s.heap u d as :=
  Dp.reads I d v u (h.dp n) r
def cmpOf : Cop → CmpOp
  | .eq => .Eq
  | .ne => .NotEq
  | .lt => .Lt
  | .le => .LtE
  | .gt => .Gt
  | .ge => .GtE
  | .isin => .In
  | .notin => .NotIn
  | .is => .Is
  | .isnot => .IsNot
def rCmp (P : Program) (w : World) (K : PySem.W.Frag) (o : Cop) : R2 := fun v u H Q => ∃ x y t, RepP P w K H v x ∧ RepP P w K H u y ∧ cmpD o x y = some t ∧ Q (.bl t) H
theorem eqD_ok {x y : PyData} {t : Bool} (h : eqD x y = some t) : (noDict x = true ∧ noDict y = true ∧ min x.depth y.depth ≤ 64) ∧ t = PyData.eqv x y := by
  unfold eqD at h
  obtain ⟨a, b⟩ := ite_some h
  exact ⟨eqOk_ok a, b.symm⟩
theorem memD_ok {x : PyData} {ys : List PyData} {t : Bool} (h : memD x ys = some t) : noDict x = true ∧ noDicts ys = true ∧ min (PyData.depthAll ys) x.depth ≤ 64 ∧ t = ys.any fun y => PyData.eqv y x := by
  unfold memD at h
  obtain ⟨a, b⟩ := ite_some h
  rw [Bool.and_eq_true] at a
  obtain ⟨c, d⟩ := memOk a.2
  exact ⟨a.1, c, d, b.symm⟩
theorem RepP.nonV {P : Program} {w : World} {K : PySem.W.Frag} {H : Hp} {v : V} {x : PyData} (h : RepP P w K H v x) : decide (v = .non) = isNonD x := by
  cases h with
  | fz q => cases q with
    | _ => rfl
  | ow q => cases q <;> rfl
theorem RepP.blV {P : Program} {w : World} {K : PySem.W.Frag} {H : Hp} {v : V} {u : Value} {x : PyData} {b : Bool} (h : RepP P w K H v x) (r : RelV v u) : plainIs u (.bool b) = true ∧ (u == Value.bool b) = isBlD b x := by
  cases h with
  | fz q => cases q with
    | bl c => cases r; exact ⟨rfl, by cases b <;> cases c <;> rfl⟩
    | non => cases r; exact ⟨rfl, rfl⟩
    | int i => obtain ⟨t, rfl⟩ := r; exact ⟨rfl, rfl⟩
    | str z _ => obtain ⟨t, rfl⟩ := r; exact ⟨rfl, rfl⟩
    | lst _ _ => cases r; exact ⟨rfl, rfl⟩
    | tup _ _ => cases r; exact ⟨rfl, rfl⟩
    | dK _ _ => cases r; exact ⟨rfl, rfl⟩
    | dN _ _ _ => cases r; exact ⟨rfl, rfl⟩
  | ow q => cases r; cases q <;> exact ⟨rfl, rfl⟩
theorem cmpD_some {o : Option Bool} {t : Bool} (h : o.map (fun b => !b) = some t) : ∃ b, o = some b ∧ t = !b := by
  cases o with
  | none => cases h
  | some b => exact ⟨b, rfl, (Option.some.inj h).symm⟩
theorem op_cmp (o : Cop) (hu : X.A.units + 200 < cLine) : OpR X (compareOp (cmpOf o)) (rCmp X.prog X.w X.K o) := by
  intro pins s σ H v u v' u' Q I rv ru h
  obtain ⟨x, y, t, hx, hy, hr, q⟩ := h
  have fin : ∀ s', Inv X pins σ H s' → EP X pins σ Q (.bool t) s' := fun s' I' => ⟨.bl t, H, I', rfl, q⟩
  unfold cmpD at hr
  split at hr
  · obtain ⟨⟨n1, n2, dd⟩, rfl⟩ := eqD_ok hr
    obtain ⟨as, r1⟩ := hx.reads I n1 rv
    obtain ⟨bs, r2⟩ := hy.reads I n2 ru
    exact SeqAt.compareEq_reads r1 r2 (hx.lay n1) (hy.lay n2) (by omega) (fin _ I)
  · obtain ⟨b, hb, rfl⟩ := cmpD_some hr
    obtain ⟨⟨n1, n2, dd⟩, rfl⟩ := eqD_ok hb
    obtain ⟨as, r1⟩ := hx.reads I n1 rv
    obtain ⟨bs, r2⟩ := hy.reads I n2 ru
    exact SeqAt.compareNe_reads r1 r2 (hx.lay n1) (hy.lay n2) (by omega) (fin _ I)
  · cases hr
    cases hx.intI; cases hy.intI
    exact op_lt pins s σ H _ _ _ _ Q I rv ru ⟨_, _, rfl, rfl, q⟩
  · obtain ⟨hz, hr⟩ := ite_some hr
    cases hr
    unfold ltOk at hz
    obtain ⟨z1, z2, z3⟩ := and3 hz
    have nn : x ≠ .none := fun z => by subst z; cases z3
    obtain ⟨n1, n2, dd⟩ := eqOk_ok z1
    obtain ⟨as, r1⟩ := hx.reads I n1 rv
    obtain ⟨bs, r2⟩ := hy.reads I n2 ru
    exact PySem.W.lt_data r1 r2 z2 nn (by omega) (fin _ I)
  · cases hr
    cases hx.intI; cases hy.intI
    exact op_le pins s σ H _ _ _ _ Q I rv ru ⟨_, _, rfl, rfl, q⟩
  · cases hr
    cases hx.intI; cases hy.intI
    exact op_gt pins s σ H _ _ _ _ Q I rv ru ⟨_, _, rfl, rfl, q⟩
  · cases hr
    cases hx.intI; cases hy.intI
    exact op_ge pins s σ H _ _ _ _ Q I rv ru ⟨_, _, rfl, rfl, q⟩
  · obtain ⟨n1, n2, dd, rfl⟩ := memD_ok hr
    have n2' : noDict (.list (by assumption)) = true := by rw [noDict]; exact n2
    obtain ⟨as, r1⟩ := hx.reads I n1 rv
    obtain ⟨bs, r2⟩ := hy.reads I n2' ru
    exact SeqAt.in_list_reads r2 r1 (by have := hy.lay n2'; rw [PyData.canLay0] at this; exact this) (hx.lay n1) (by omega) (fin _ I)
  · obtain ⟨n1, n2, dd, rfl⟩ := memD_ok hr
    have n2' : noDict (.tuple (by assumption)) = true := by rw [noDict]; exact n2
    obtain ⟨as, r1⟩ := hx.reads I n1 rv
    obtain ⟨bs, r2⟩ := hy.reads I n2' ru
    exact SeqAt.in_tuple_reads r2 r1 (by have := hy.lay n2'; rw [PyData.canLay0] at this; exact this) (hx.lay n1) (by omega) (fin _ I)
  · obtain ⟨f, hr⟩ := ite_some hr
    cases hr
    exact dict_in hu I hx hy rv ru f fin
  · obtain ⟨b, hb, rfl⟩ := cmpD_some hr
    obtain ⟨n1, n2, dd, rfl⟩ := memD_ok hb
    have n2' : noDict (.list (by assumption)) = true := by rw [noDict]; exact n2
    obtain ⟨as, r1⟩ := hx.reads I n1 rv
    obtain ⟨bs, r2⟩ := hy.reads I n2' ru
    exact SeqAt.notIn_list_reads r2 r1 (by have := hy.lay n2'; rw [PyData.canLay0] at this; exact this) (hx.lay n1) (by omega) (fin _ I)
  · obtain ⟨b, hb, rfl⟩ := cmpD_some hr
    obtain ⟨n1, n2, dd, rfl⟩ := memD_ok hb
    have n2' : noDict (.tuple (by assumption)) = true := by rw [noDict]; exact n2
    obtain ⟨as, r1⟩ := hx.reads I n1 rv
    obtain ⟨bs, r2⟩ := hy.reads I n2' ru
    exact SeqAt.notIn_tuple_reads r2 r1 (by have := hy.lay n2'; rw [PyData.canLay0] at this; exact this) (hx.lay n1) (by omega) (fin _ I)
  · obtain ⟨f, hr⟩ := ite_some hr
    cases hr
    exact dict_notin hu I hx hy rv ru f fin
  · cases hr
    cases hy.nonI; cases ru
    exact is_none_gen ⟨.bl _, H, I, by rw [rv.none_iff, hx.nonV]; rfl, q⟩
  · cases hr
    cases hy.nonI; cases ru
    exact isnot_none_gen ⟨.bl _, H, I, by rw [rv.none_iff, hx.nonV]; rfl, q⟩
  · cases hr
    cases hy.blI; cases ru
    obtain ⟨p1, p2⟩ := hx.blV (b := _) rv
    exact wpAny_is_plain p1 (by rw [p2]; exact fin _ I)
  · cases hr
    cases hy.blI; cases ru
    obtain ⟨p1, p2⟩ := hx.blV (b := _) rv
    refine wpAny_isNot_plain p1 ?_
    rw [p2]
    exact fin _ I
  · cases hr
end
end FJ

set_option Elab.async false
set_option linter.all false
set_option autoImplicit false
set_option maxRecDepth 100000
set_option maxHeartbeats 0
/-! Ev3d: dicts asked and changed. -/
namespace FJ
open PySem PySem.Spec L2
open PyProof.Rows hiding St

/-! ### stored -/
def nput (es : List NEnt) (k : NestedKey) (b : Addr) (v : V) : List NEnt := if es.any (fun e => decide (e.1 = k)) = true then es.map (fun e => if e.1 = k then (e.1, e.2.1, v) else e) else es ++ [(k, b, v)]
theorem nput_ne {es : List NEnt} {k : NestedKey} {b : Addr} {v : V} : nput es k b v ≠ [] := by
  unfold nput
  split
  · rename_i h
    intro z
    rw [List.map_eq_nil_iff] at z
    subst z
    simp at h
  · simp
theorem nput_len {es : List NEnt} {k : NestedKey} {b : Addr} {v : V} : (nput es k b v).length ≤ es.length + 1 := by
  unfold nput
  split <;> simp
theorem any_at {k : NestedKey} : ∀ {es : List NEnt} {xs : List (NestedKey × Addr × Value)}, Paired NPair es xs → es.any (fun e => decide (e.1 = k)) = (atKey xs k).isSome
  | _, _, .nil => rfl
  | _, _, .cons (a := e) (b := q) p r => by
    rw [List.any_cons, atKey_cons, any_at r, p.1]
    by_cases h : q.1 = k <;> simp [h]
theorem map_pair {k : NestedKey} {v : V} {u : Value} (rv : RelV v u) : ∀ {es : List NEnt} {xs : List (NestedKey × Addr × Value)}, Paired NPair es xs → Paired NPair (es.map (fun e => if e.1 = k then (e.1, e.2.1, v) else e)) (xs.map (putAt k u))
  | _, _, .nil => .nil
  | _, _, .cons (a := e) (b := q) p r => by
    rw [List.map_cons, List.map_cons]
    refine .cons ?_ (map_pair rv r)
    unfold putAt
    rw [p.1]
    by_cases h : q.1 = k
    · rw [if_pos h, if_pos h]; exact ⟨rfl, p.2.1, rv⟩
    · rw [if_neg h, if_neg h]; exact p
theorem app_pair : ∀ {es fs : List NEnt} {xs ys : List (NestedKey × Addr × Value)}, Paired NPair es xs → Paired NPair fs ys → Paired NPair (es ++ fs) (xs ++ ys)
  | _, _, _, _, .nil, s => s
  | _, _, _, _, .cons p r, s => .cons p (app_pair r s)
theorem nput_pair {es : List NEnt} {xs : List (NestedKey × Addr × Value)} {k : NestedKey} {b : Addr} {v : V} {u : Value} (pr : Paired NPair es xs) (rv : RelV v u) : Paired NPair (nput es k b v) (storedH xs k b u) := by
  unfold nput storedH
  rw [any_at pr]
  split
  · exact map_pair rv pr
  · exact app_pair pr (.cons ⟨rfl, rfl, rv⟩ .nil)
theorem keys_pair : ∀ {es : List NEnt} {xs : List (NestedKey × Addr × Value)}, Paired NPair es xs → es.map (·.1) = xs.map (·.1)
  | _, _, .nil => rfl
  | _, _, .cons p r => by rw [List.map_cons, List.map_cons, p.1, keys_pair r]

section
variable {P : Program} {w : World} {K : PySem.W.Frag} {H : Hp}
theorem RepKs.append : ∀ {xs ys : List (Key × V)} {ds es : List (PyData × PyData)}, RepKs P w K H xs ds → RepKs P w K H ys es → RepKs P w K H (xs ++ ys) (ds ++ es)
  | _, _, _, _, .nil, s => s
  | _, _, _, _, .cons k r t, s => .cons k r (RepKs.append t s)
theorem RepNs.append : ∀ {xs ys : List NEnt} {ds es : List (PyData × PyData)}, RepNs P w K H xs ds → RepNs P w K H ys es → RepNs P w K H (xs ++ ys) (ds ++ es)
  | _, _, _, _, .nil, s => s
  | _, _, _, _, .cons k z r t, s => .cons k z r (RepNs.append t s)
theorem RepKs.anyK {k : Key} {d : PyData} (hk : FKey k d) : ∀ {kvs : List (Key × V)} {ps : List (PyData × PyData)}, RepKs P w K H kvs ps → (kvs.any fun kv => decide (kv.1 = k)) = ps.any fun p => PyData.eqv p.1 d
  | _, _, .nil => rfl
  | _, _, .cons z a t => by rw [List.any_cons, List.any_cons, RepKs.anyK hk t, z.eqv hk]
theorem RepKs.mapK {k : Key} {v : V} {d x : PyData} (hk : FKey k d) (hx : RepF P w K H v x) : ∀ {kvs : List (Key × V)} {ps : List (PyData × PyData)}, RepKs P w K H kvs ps →
    RepKs P w K H (kvs.map fun kv => if kv.1 = k then (kv.1, v) else kv) (ps.map fun p => if PyData.eqv p.1 d = true then (p.1, x) else p)
  | _, _, .nil => .nil
  | _, _, .cons (k := k1) (d := d1) z a t => by
    rw [List.map_cons, List.map_cons]
    have e := z.eqv hk
    by_cases h : k1 = k
    · rw [if_pos h, if_pos (by rw [e]; exact decide_eq_true h)]
      exact .cons z hx (RepKs.mapK hk hx t)
    · rw [if_neg h, if_neg (by rw [e]; simp [h])]
      exact .cons z a (RepKs.mapK hk hx t)
theorem RepKs.put {k : Key} {v : V} {d x : PyData} (hk : FKey k d) (hx : RepF P w K H v x) {kvs : List (Key × V)} {ps : List (PyData × PyData)} (h : RepKs P w K H kvs ps) : RepKs P w K H (putK kvs k v) (dput ps d x) := by
  unfold putK dput
  rw [RepKs.anyK hk h]
  split
  · exact RepKs.mapK hk hx h
  · exact h.append (.cons hk hx .nil)
theorem RepNs.anyK {d : PyData} (hk : tupKey d = true) : ∀ {es : List NEnt} {ps : List (PyData × PyData)}, RepNs P w K H es ps → (es.any fun e => decide (e.1 = nkey d)) = ps.any fun p => PyData.eqv p.1 d
  | _, _, .nil => rfl
  | _, _, .cons z tk a t => by rw [List.any_cons, List.any_cons, RepNs.anyK hk t, eqv_nkey _ d (tupKey_ok tk).1 (tupKey_ok hk).1]
theorem RepNs.mapK {v : V} {d x : PyData} (hk : tupKey d = true) (hx : RepF P w K H v x) : ∀ {es : List NEnt} {ps : List (PyData × PyData)}, RepNs P w K H es ps →
    RepNs P w K H (es.map fun e => if e.1 = nkey d then (e.1, e.2.1, v) else e) (ps.map fun p => if PyData.eqv p.1 d = true then (p.1, x) else p)
  | _, _, .nil => .nil
  | _, _, .cons (d := d1) z tk a t => by
    rw [List.map_cons, List.map_cons]
    have e := eqv_nkey d1 d (tupKey_ok tk).1 (tupKey_ok hk).1
    by_cases h : nkey d1 = nkey d
    · rw [if_pos h, if_pos (by rw [e]; exact decide_eq_true h)]
      exact .cons z tk hx (RepNs.mapK hk hx t)
    · rw [if_neg h, if_neg (by rw [e]; simp [h])]
      exact .cons z tk a (RepNs.mapK hk hx t)
theorem RepNs.put {b : Addr} {v : V} {d x : PyData} (hb : RepF P w K H (.ref b) d) (hk : tupKey d = true) (hx : RepF P w K H v x) {es : List NEnt} {ps : List (PyData × PyData)} (h : RepNs P w K H es ps) : RepNs P w K H (nput es (nkey d) b v) (dput ps d x) := by
  unfold nput dput
  rw [RepNs.anyK hk h]
  split
  · exact RepNs.mapK hk hx h
  · exact h.append (.cons hb hk hx .nil)
theorem RepKs.length : ∀ {kvs : List (Key × V)} {ps : List (PyData × PyData)}, RepKs P w K H kvs ps → kvs.length = ps.length
  | _, _, .nil => rfl
  | _, _, .cons _ _ t => by rw [List.length_cons, List.length_cons, t.length]
theorem RepNs.length : ∀ {es : List NEnt} {ps : List (PyData × PyData)}, RepNs P w K H es ps → es.length = ps.length
  | _, _, .nil => rfl
  | _, _, .cons _ _ _ t => by rw [List.length_cons, List.length_cons, t.length]
/-- an owned thing is another one from now on -/
theorem Ownable.upd {a : Addr} {u u' : HO} (h : H a = some u) (o : Ownable P w a u) : Later H (upd H a u') := by
  refine ⟨fun b xs e => ?_, fun b ob x e => ?_⟩
  · by_cases hb : b = a
    · subst hb; rw [h] at e; cases e; cases o
    · rw [upd_ne hb]; exact e
  · by_cases hb : b = a
    · subst hb; rw [h] at e; cases e; cases o
    · rw [upd_ne hb]; exact e
theorem RepO.upd {a : Addr} {d : PyData} (r : RepO P w K H a d) (u' : HO) : Later H (upd H a u') := by
  obtain ⟨u, h, o⟩ := r.at_
  exact o.upd h
end

section
variable {X : Cx} {pins : List (Addr × Obj)} {σ : St} {H : Hp} {s : Shared} {a : Addr} {v u x : V} {v' u' x' : Value} {k d : PyData} {ps : List (PyData × PyData)}
/-- an owned dict with other entries -/
theorem nest_write {h' : Heap} {t' : Nat} {es : List NEnt} {xs : List (NestedKey × Addr × Value)} (I : Inv X pins σ H s) (mu : Mut (H a)) (hs : Heap.SameBut a s.heap h') (z : es.length ≤ sizeLine) (y : (a == sysModules) = false) (pr : Paired NPair es xs)
    (dd : h'.DictOfH (nestedKind X.prog X.w) a xs) : Inv X pins σ (upd H a (NdO X.prog X.w a es)) { s with heap := h', toks := t' } := by
  obtain ⟨o, ds, ep, h1, h2, h3, h4, _, h5⟩ := dd
  exact d_write I mu hs ⟨o, h1⟩ (NdH.ok ⟨z, y, by rw [keys_pair pr]; exact h5, xs, pr, o, ds, ep, h1, h2, h3, h4⟩)
/-- a[k] = x -/
theorem dict_put (hu : X.A.units + 200 < cLine) (I : Inv X pins σ H s) {Q : Unit → Shared → Prop} (ro : RepO X.prog X.w X.K H a (.dict ps)) (hk : RepF X.prog X.w X.K H v k) (rv : RelV v v') (hx : RepF X.prog X.w X.K H x d) (rx : RelV x x') (f : keyFits ps k = true) (hl : ps.length < sizeLine)
    (q : ∀ (s' : Shared) (o : HO), Inv X pins σ (upd H a o) s' → RepO X.prog X.w X.K (upd H a o) a (.dict (dput ps k d)) → Q () s') : wpAny (model X.prog X.w) X.A (setItem (.ref a) v' x') Q X.xe s := by
  rcases keyFits_or f with ⟨f1, f2⟩ | ⟨f1, f2⟩
  · obtain ⟨a', kvs, e, hR, r⟩ := (RepP.ow ro).dictF f2
    cases e
    have hA : H a = some (.dK kvs) := by
      rcases hR with h | ⟨o, h⟩
      · exact h
      · obtain ⟨u, hu', ow⟩ := ro.at_
        rw [h] at hu'; cases hu'; cases ow
    obtain ⟨c, hc, rfl⟩ := flatKey_of (.fz hk) f1
    refine d_setItem (v := x) (H' := upd H a (.dK (putK kvs c x))) (by omega) I (.inl ⟨kvs, c, hA, rfl, by rw [r.length]; exact hl, rfl⟩) rv rx fun s' I' => q s' _ I' ?_
    exact .dK upd_same (RepKs.put hc (hx.later (ro.upd _) _ _) (RepKs.later (ro.upd _) _ _ r))
  · obtain ⟨a', e, hN⟩ := (RepP.ow ro).dictN f2
    cases e
    obtain ⟨es, xs, r, z, y, pr, dd⟩ := nestAt I hN
    obtain ⟨b, rfl, hkey⟩ := nest_key I (.fz hk) f1 rv
    obtain ⟨u, hA, ow⟩ := ro.at_
    have hv : v = .ref b := by
      obtain ⟨_, c, rfl⟩ := tup_ref (RepP.fz hk) f1
      cases rv; rfl
    subst hv
    have hz : xs.length < sizeLine := by rw [← Paired.length pr, r.length]; exact hl
    refine wpAny_setItem_heap (knd := nestedKind X.prog X.w) (show X.A.units + 1 + 8 < cLine by omega) hkey dd (fun h' dd' hs => ?_) (Nat.le_of_lt hz)
    have hz2 : (nput es (nkey k) b x).length ≤ sizeLine := Nat.le_trans nput_len (by rw [Paired.length pr]; exact hz)
    refine q _ (NdO X.prog X.w a (nput es (nkey k) b x)) (nest_write I (by rw [hA]; exact ow.mut) hs hz2 y (nput_pair pr rx) dd') ?_
    exact .dN upd_same nput_ne (RepNs.put (hk.later (ro.upd _) _ _) f1 (hx.later (ro.upd _) _ _) (RepNs.later (ro.upd _) _ _ r))
/-- u[k] -/
theorem dict_get (hu : X.A.units + 200 < cLine) (I : Inv X pins σ H s) {Q : Value → Shared → Prop} (hk : RepP X.prog X.w X.K H v k) (hd : RepP X.prog X.w X.K H u (.dict ps)) (rv : RelV v v') (ru : RelV u u') (f : keyFits ps k = true) (hf : dfind ps k = some d)
    (q : ∀ (s' : Shared) (x : V) (x' : Value), Inv X pins σ H s' → RelV x x' → RepF X.prog X.w X.K H x d → Q x' s') : wpAny (model X.prog X.w) X.A (getItem u' v') Q X.xe s := by
  rcases keyFits_or f with ⟨f1, f2⟩ | ⟨f1, f2⟩
  · obtain ⟨a, kvs, rfl, hR, r⟩ := hd.dictF f2
    obtain ⟨c, hc, rfl⟩ := flatKey_of hk f1
    obtain ⟨i1, _⟩ := RepKs.find hc r
    obtain ⟨y, hy, ry⟩ := i1 _ hf
    cases ru
    exact d_getItem (v := y) (by omega) I (.inl ⟨kvs, c, hR, rfl, hy.symm⟩) rv fun w' s' I' rw' => q s' y w' I' rw' ry
  · obtain ⟨a, rfl, hN⟩ := hd.dictN f2
    obtain ⟨es, xs, r, z, y, pr, dd⟩ := nestAt I hN
    obtain ⟨b, rfl, hkey⟩ := nest_key I hk f1 rv
    obtain ⟨i1, _⟩ := RepNs.find f1 r pr
    obtain ⟨p, y', h1, h2, h3⟩ := i1 _ hf
    cases ru
    exact wpAny_getItem_heap (knd := nestedKind X.prog X.w) (show X.A.units + 1 + 8 < cLine by omega) hkey dd h1 (q _ y' p.2 (I.tok _) h2 h3)
theorem dict_typeP (I : Inv X pins σ H s) (hd : RepP X.prog X.w X.K H u (.dict ps)) (ru : RelV u u') : ∃ a, u' = .ref a ∧ s.TypeIs (.ref a) "dict" ∧ ∀ b, Value.ref a = .ref b → ∃ ob, s.heap.get? b = some ob ∧ ob.dict = none := by
  obtain ⟨a, rfl, h⟩ := hd.dictI
  cases ru
  refine ⟨a, rfl, ?_⟩
  rcases h with ⟨kvs, hR, r⟩ | ⟨es, hR, n, r⟩
  · obtain ⟨_, _, vs, _, ob, _, _, h1, h2, _⟩ := dk_rd I.hok hR
    exact ⟨⟨ob, h1, h2.1⟩, fun b e => by cases e; exact ⟨ob, h1, h2.2.1⟩⟩
  · obtain ⟨z, y, nd, xs, pr, o, ds, ep, e1, e2, e3, e4⟩ := NdO_of (hR.ok I.hok)
    exact ⟨⟨o, e1, e2.1⟩, fun b e => by cases e; exact ⟨o, e1, e2.2.1⟩⟩
/-- u.get(k, x) -/
theorem dict_getD (hu : X.A.units + 200 < cLine) (I : Inv X pins σ H s) {Q : Value → Shared → Prop} (hk : RepP X.prog X.w X.K H v k) (hd : RepP X.prog X.w X.K H u (.dict ps)) (rv : RelV v v') (ru : RelV u u') (f : keyFits ps k = true) (hx : RepF X.prog X.w X.K H x d) (rx : RelV x x')
    (q : ∀ (s' : Shared) (y : V) (y' : Value), Inv X pins σ H s' → RelV y y' → RepF X.prog X.w X.K H y ((dfind ps k).getD d) → Q y' s') : wpAny (model X.prog X.w) X.A (call (.builtin "dict.get") [u', v', x']) Q X.xe s := by
  rcases keyFits_or f with ⟨f1, f2⟩ | ⟨f1, f2⟩
  · obtain ⟨a, kvs, rfl, hR, r⟩ := hd.dictF f2
    obtain ⟨c, hc, rfl⟩ := flatKey_of hk f1
    obtain ⟨i1, i2⟩ := RepKs.find hc r
    cases ru
    refine d_get2 (o := valV kvs c) (by omega) I (.inl ⟨kvs, c, hR, rfl, rfl⟩) rv rx fun w' s' I' rw' => q s' _ w' I' rw' ?_
    cases hf : dfind ps k with
    | none => rw [i2 hf]; exact hx
    | some z => obtain ⟨y, h1, h2⟩ := i1 _ hf; rw [h1]; exact h2
  · obtain ⟨a, rfl, hN⟩ := hd.dictN f2
    obtain ⟨es, xs, r, z, y, pr, dd⟩ := nestAt I hN
    obtain ⟨b, rfl, hkey⟩ := nest_key I hk f1 rv
    obtain ⟨i1, i2⟩ := RepNs.find f1 r pr
    cases ru
    refine call_meetsIn PySem.F.slot_dict_get dd.typeIs PySem.F.entry_dict_get (PySem.F.args_dict_get_3 _ _ _) (meetsH_dict_get_default (nestedKind X.prog X.w) a b y x') ⟨show X.A.units + 1 + 8 < cLine by omega, nkey k, xs, hkey, dd, ?_⟩
    cases hf : dfind ps k with
    | none =>
      rw [hf] at q
      rw [i2 hf]
      exact q _ x x' (I.tok _) rx hx
    | some z =>
      rw [hf] at q
      obtain ⟨p, y', h1, h2, h3⟩ := i1 _ hf
      rw [h1]
      exact q _ y' p.2 (I.tok _) h2 h3
/-- len(u) -/
theorem dict_len (I : Inv X pins σ H s) {Q : Value → Shared → Prop} (hd : RepP X.prog X.w X.K H u (.dict ps)) (ru : RelV u u') (q : ∀ t s', Inv X pins σ H s' → Q (.int ps.length t) s') : wpAny (model X.prog X.w) X.A (call (.builtin "len") [u']) Q X.xe s := by
  obtain ⟨a, rfl, h⟩ := hd.dictI
  cases ru
  rcases h with ⟨kvs, hR, r⟩ | ⟨es, hR, n, r⟩
  · refine d_len I hR fun t s' I' => ?_
    rw [r.length]
    exact q t s' I'
  · obtain ⟨es', xs, r', z, y, pr, dd⟩ := nestAt I ⟨es, .inl hR, r⟩
    have hs := sizeLine_eq
    have hl : xs.length = ps.length := by rw [← Paired.length pr, r'.length]
    have hz : xs.length ≤ sizeLine := by rw [← Paired.length pr]; exact z
    refine call_len_dictH (knd := nestedKind X.prog X.w) y dd (by omega) ?_
    rw [hl]
    exact q _ _ (I.tok _)
end
end FJ

set_option Elab.async false
set_option linter.all false
set_option autoImplicit false
set_option maxRecDepth 100000
set_option maxHeartbeats 0
/-! Ev3e: calls of built-in functions. -/
namespace FJ
open PySem PySem.Spec L2
open PyProof.Rows hiding St

section
variable {P : Program} {w : World} {K : PySem.W.Frag} {H H' : Hp}
theorem RepFs.bls : ∀ {ds : List PyData} {xs : List V} {bs : List Bool}, RepFs P w K H xs ds → bools ds = some bs → xs = bs.map V.bl
  | [], _, _, .nil, h => by cases h; rfl
  | .bool b :: ds, _, bs, .cons r t, h => by
    cases r
    rw [bools] at h
    cases hb : bools ds with
    | none => rw [hb] at h; cases h
    | some cs => rw [hb] at h; cases h; rw [List.map_cons, ← t.bls hb]
  | .none :: _, _, _, _, h | .int _ :: _, _, _, _, h | .str _ :: _, _, _, _, h | .list _ :: _, _, _, _, h | .tuple _ :: _, _, _, _, h | .dict _ :: _, _, _, _, h => by simp [bools] at h
theorem RepFs.ints : ∀ {ds : List PyData} {xs : List V} {ns : List Int}, RepFs P w K H xs ds → intsD ds = some ns → xs = ns.map V.int
  | [], _, _, .nil, h => by cases h; rfl
  | .int b :: ds, _, bs, .cons r t, h => by
    cases r
    rw [intsD] at h
    cases hb : intsD ds with
    | none => rw [hb] at h; cases h
    | some cs => rw [hb] at h; cases h; rw [List.map_cons, ← t.ints hb]
  | .none :: _, _, _, _, h | .bool _ :: _, _, _, _, h | .str _ :: _, _, _, _, h | .list _ :: _, _, _, _, h | .tuple _ :: _, _, _, _, h | .dict _ :: _, _, _, _, h => by simp [intsD] at h
theorem maxI_is : ∀ (r : List Int) (i : Int), maxI i r ∈ i :: r ∧ ∀ y ∈ i :: r, y ≤ maxI i r
  | [], i => ⟨by simp [maxI], fun y h => by simp at h; subst h; exact Int.le_refl _⟩
  | j :: r, i => by
    obtain ⟨h1, h2⟩ := maxI_is r (if j > i then j else i)
    rw [maxI]
    by_cases hj : j > i
    · rw [if_pos hj] at h1 h2 ⊢
      refine ⟨List.mem_cons_of_mem _ h1, fun y hy => ?_⟩
      rcases List.mem_cons.mp hy with e | hy
      · have := h2 j (List.mem_cons_self ..); omega
      · exact h2 y hy
    · rw [if_neg hj] at h1 h2 ⊢
      refine ⟨?_, fun y hy => ?_⟩
      · rcases List.mem_cons.mp h1 with e | e
        · rw [e]; exact List.mem_cons_self ..
        · exact List.mem_cons_of_mem _ (List.mem_cons_of_mem _ e)
      · rcases List.mem_cons.mp hy with e | hy
        · subst e; exact h2 _ (List.mem_cons_self ..)
        · rcases List.mem_cons.mp hy with e | hy
          · have := h2 i (List.mem_cons_self ..); omega
          · exact h2 y (List.mem_cons_of_mem _ hy)
/-- a flat dict's keys are data -/
theorem RepKs.keysR : ∀ {kvs : List (Key × V)} {ps : List (PyData × PyData)}, RepKs P w K H kvs ps → RepFs P w K H (kvs.map fun kv => kV kv.1) (ps.map (·.1))
  | _, _, .nil => .nil
  | _, _, .cons z a t => .cons z.val t.keysR
end

/-! ### types -/
def tyN : PyData → String
  | .none => "NoneType"
  | .bool _ => "bool"
  | .int _ => "int"
  | .str _ => "str"
  | .list _ => "list"
  | .tuple _ => "tuple"
  | .dict _ => "dict"
def tyS : Ty → String
  | .int => "int"
  | .bool => "bool"
  | .str => "str"
  | .tuple => "tuple"
  | .list => "list"
  | .dict => "dict"
theorem kit_ty (K : PySem.W.Frag) (t : Ty) (x : PyData) : PySem.W.kitOne K (.type (tyN x)) (.type (tyS t)) = some (isTy t x) := by
  cases t <;> cases x <;> rfl
section
variable {X : Cx} {pins : List (Addr × Obj)} {σ : St} {H : Hp} {s : Shared} {v : V} {v' : Value} {x : PyData}
theorem RepP.kit (I : Inv X pins σ H s) (h : RepP X.prog X.w X.K H v x) (r : RelV v v') : ∃ P : Heap → Prop, PySem.W.KitX X.K v' (.type (tyN x)) P ∧ P s.heap ∧ v' ≠ .builtin "__main__.__loader__#opaque" := by
  cases x with
  | none => cases h.nonI; cases r; exact ⟨_, PySem.W.kitx_none, True.intro, fun z => nomatch z⟩
  | bool b => cases h.blI; cases r; exact ⟨_, PySem.W.kitx_bool, True.intro, fun z => nomatch z⟩
  | int i => cases h.intI; obtain ⟨t, rfl⟩ := r; exact ⟨_, PySem.W.kitx_int, True.intro, fun z => nomatch z⟩
  | str y => obtain ⟨e, _⟩ := h.strI; cases e; obtain ⟨t, rfl⟩ := r; exact ⟨_, PySem.W.kitx_str, True.intro, fun z => nomatch z⟩
  | list ds =>
    obtain ⟨a, xs, rfl, hR, _⟩ := h.listI
    cases r
    obtain ⟨_, its, n, _, _, e⟩ := lstR I hR
    exact ⟨_, PySem.W.kitx_list, ⟨_, e, rfl⟩, fun z => nomatch z⟩
  | tuple ds =>
    obtain ⟨a, xs, rfl, hT, _⟩ := h.tupI
    cases r
    obtain ⟨its, _, ⟨o, e, c, _⟩, _⟩ := I.tuple hT.sq
    exact ⟨_, PySem.W.kitx_tuple, ⟨o, e, c⟩, fun z => nomatch z⟩
  | dict ps =>
    obtain ⟨a, rfl, ⟨o, e, c⟩, _⟩ := dict_typeP I h r
    exact ⟨_, PySem.W.kitx_dict, ⟨o, e, c⟩, fun z => nomatch z⟩
/-- isinstance(x, T) -/
theorem call_isT (t : Ty) {Q : VK} (I : Inv X pins σ H s) (h : RepP X.prog X.w X.K H v x) (r : RelV v v') (q : Q (.bl (isTy t x)) H) : wpAny (model X.prog X.w) X.A (call (.builtin "isinstance") [v', .type (tyS t)]) (EP X pins σ Q) X.xe s := by
  obtain ⟨P, Z, p, hx⟩ := h.kit I r
  exact PySem.W.kia_one Z I.kIn p (kit_ty X.K t x) hx fun tk => ⟨.bl _, H, I.tok tk, rfl, q⟩

/-! ### dict(pairs) -/
/-- a pair as it lies: its tuple, its two values -/
abbrev PEnt := Addr × (V × Value) × (V × Value)
def PRel (X : Cx) (H : Hp) (s : Shared) (e : PEnt) (p : PyData × PyData) : Prop := RelV e.2.1.1 e.2.1.2 ∧ RelV e.2.2.1 e.2.2.2 ∧ RepF X.prog X.w X.K H e.2.1.1 p.1 ∧ RepF X.prog X.w X.K H e.2.2.1 p.2 ∧ s.heap.IsTuple e.1 #[e.2.1.2, e.2.2.2]
theorem pairs_at (I : Inv X pins σ H s) : ∀ {ds : List PyData} {xs : List V} {us : List Value} {ps : List (PyData × PyData)}, RepFs X.prog X.w X.K H xs ds → Vals xs us → pairsD ds = some ps → ∃ es : List PEnt, us = es.map (fun e => Value.ref e.1) ∧ Paired (PRel X H s) es ps
  | [], _, _, _, .nil, .nil, h => by cases h; exact ⟨[], rfl, .nil⟩
  | .tuple [k, v] :: ds, _, _, ps, .cons r t, .cons r' t', h => by
    rw [pairsD] at h
    cases hb : pairsD ds with
    | none => rw [hb] at h; cases h
    | some qs =>
      rw [hb] at h; cases h
      obtain ⟨es, e1, e2⟩ := pairs_at I t t' hb
      cases r with
      | @tup a ys _ hT hr =>
        cases r'
        cases hr with
        | cons rk hr =>
          cases hr with
          | cons rv hr =>
            cases hr
            obtain ⟨its, vs, tp, _⟩ := I.tuple hT.sq
            obtain ⟨ku, vu, rfl, r1, r2⟩ := vals2 vs
            exact ⟨(a, (_, ku), (_, vu)) :: es, by rw [List.map_cons, ← e1], .cons ⟨r1, r2, rk, rv, tp⟩ e2⟩
  | .tuple [] :: _, _, _, _, _, _, h | .tuple [_] :: _, _, _, _, _, _, h | .tuple (_ :: _ :: _ :: _) :: _, _, _, _, _, _, h => by simp [pairsD] at h
  | .none :: _, _, _, _, _, _, h | .bool _ :: _, _, _, _, _, _, h | .int _ :: _, _, _, _, _, _, h | .str _ :: _, _, _, _, _, _, h | .list _ :: _, _, _, _, _, _, h | .dict _ :: _, _, _, _, _, _, h => by simp [pairsD] at h
theorem fit_flat {kvs : List (PyData × PyData)} {k : PyData} (f : keyFits kvs k = true) (k1 : flatKey k = true) : kvs.all (fun p => flatKey p.1) = true := by
  rcases keyFits_or f with ⟨_, h⟩ | ⟨h, _⟩
  · exact h
  · exact (flat_tup k1 h).elim
theorem fit_tup {kvs : List (PyData × PyData)} {k : PyData} (f : keyFits kvs k = true) (k1 : tupKey k = true) : kvs.all (fun p => tupKey p.1) = true := by
  rcases keyFits_or f with ⟨h, _⟩ | ⟨_, h⟩
  · exact (flat_tup h k1).elim
  · exact h
theorem put_all {p : PyData → Bool} {kvs : List (PyData × PyData)} {k v : PyData} (h : kvs.all (fun q => p q.1) = true) (hk : p k = true) : (dput kvs k v).all (fun q => p q.1) = true := by
  unfold dput
  split
  · rw [List.all_map]
    rw [List.all_eq_true] at h ⊢
    intro q hq
    have := h q hq
    simp only [Function.comp]
    split <;> exact this
  · rw [List.all_append, h, List.all_cons, hk]; rfl
theorem put_ne {kvs : List (PyData × PyData)} {k v : PyData} : dput kvs k v ≠ [] := by
  unfold dput
  split
  · rename_i h
    intro z
    rw [List.map_eq_nil_iff] at z
    subst z
    simp at h
  · simp
/-- the pairs' keys are of one kind -/
theorem dmake_is : ∀ {ps acc kvs : List (PyData × PyData)}, dmake acc ps = some kvs → kvs = ps.foldl (fun a p => dput a p.1 p.2) acc ∧
    (ps.all (fun p => flatKey p.1) = true ∧ (ps = [] ∨ acc.all (fun p => flatKey p.1) = true) ∨ ps.all (fun p => tupKey p.1) = true ∧ (ps = [] ∨ acc.all (fun p => tupKey p.1) = true))
  | [], acc, kvs, h => by cases h; exact ⟨rfl, .inl ⟨rfl, .inl rfl⟩⟩
  | (k, v) :: ps, acc, kvs, h => by
    rw [dmake] at h
    by_cases hf : (keyFits acc k && decide (acc.length < sizeLine)) = true
    · rw [if_pos hf] at h
      rw [Bool.and_eq_true] at hf
      obtain ⟨e, h⟩ := dmake_is h
      refine ⟨e, ?_⟩
      rcases keyFits_or hf.1 with ⟨f1, f2⟩ | ⟨f1, f2⟩
      · refine .inl ⟨?_, .inr f2⟩
        rw [List.all_cons, f1, Bool.true_and]
        rcases h with ⟨h1, _⟩ | ⟨h1, h2⟩
        · exact h1
        · rcases h2 with rfl | h2
          · rfl
          · have := put_all (p := flatKey) (v := v) f2 f1
            cases hd : dput acc k v with
            | nil => exact absurd hd put_ne
            | cons a b =>
              rw [hd] at this h2
              rw [List.all_cons, Bool.and_eq_true] at this h2
              exact (flat_tup this.1 h2.1).elim
      · refine .inr ⟨?_, .inr f2⟩
        rw [List.all_cons, f1, Bool.true_and]
        rcases h with ⟨h1, h2⟩ | ⟨h1, _⟩
        · rcases h2 with rfl | h2
          · rfl
          · have := put_all (p := tupKey) (v := v) f2 f1
            cases hd : dput acc k v with
            | nil => exact absurd hd put_ne
            | cons a b =>
              rw [hd] at this h2
              rw [List.all_cons, Bool.and_eq_true] at this h2
              exact (flat_tup h2.1 this.1).elim
        · exact h1
    · rw [if_neg hf] at h; cases h
theorem dput_len {kvs : List (PyData × PyData)} {k v : PyData} : (dput kvs k v).length ≤ kvs.length + 1 := by
  unfold dput
  split <;> simp
theorem foldput_len : ∀ (ps acc : List (PyData × PyData)), (ps.foldl (fun a p => dput a p.1 p.2) acc).length ≤ acc.length + ps.length
  | [], acc => by simp
  | p :: ps, acc => by
    rw [List.foldl_cons, List.length_cons]
    have := foldput_len ps (dput acc p.1 p.2)
    have := dput_len (kvs := acc) (k := p.1) (v := p.2)
    omega
/-- the entries with flat keys -/
theorem ents_flat : ∀ {es : List PEnt} {ps : List (PyData × PyData)}, Paired (PRel X H s) es ps → ps.all (fun p => flatKey p.1) = true → ∃ (kvs : List (Key × V)) (vs : List (Key × Value)), KV kvs vs ∧ RepKs X.prog X.w X.K H kvs ps ∧
    vs.length = es.length ∧ ∀ (i : Nat) (e : PEnt), es[i]? = some e → ∃ k, vs[i]? = some (k, e.2.2.2) ∧ (mixKind X.prog X.w).is k e.2.1.2 = true
  | _, _, .nil, _ => ⟨[], [], .nil, .nil, rfl, fun i e h => by simp at h⟩
  | _, _, .cons (a := e) (b := p) h t, f => by
    rw [List.all_cons, Bool.and_eq_true] at f
    obtain ⟨kvs, vs, h1, h2, h3, h4⟩ := ents_flat t f.2
    obtain ⟨r1, r2, k1, k2, _⟩ := h
    obtain ⟨c, hc, ec⟩ := flatKey_of (.fz k1) f.1
    refine ⟨(c, e.2.2.1) :: kvs, (c, e.2.2.2) :: vs, .cons ⟨rfl, r2⟩ h1, .cons hc k2 h2, by rw [List.length_cons, List.length_cons, h3], fun i e' hi => ?_⟩
    cases i with
    | zero =>
      cases hi
      refine ⟨c, rfl, kV_is (by rw [← ec]; exact r1)⟩
    | succ i =>
      rw [List.getElem?_cons_succ] at hi ⊢
      exact h4 i e' hi
/-- the entries with tuple keys -/
theorem ents_tup (I : Inv X pins σ H s) : ∀ {es : List PEnt} {ps : List (PyData × PyData)}, Paired (PRel X H s) es ps → ps.all (fun p => tupKey p.1) = true → ∃ (ns : List NEnt) (xs : List (NestedKey × Addr × Value)), Paired NPair ns xs ∧ RepNs X.prog X.w X.K H ns ps ∧
    xs.length = es.length ∧ (∀ (i : Nat) (e : PEnt), es[i]? = some e → ∃ k b, xs[i]? = some (k, b, e.2.2.2) ∧ e.2.1.2 = .ref b) ∧ ∀ y ∈ xs, (nestedKind X.prog X.w).is s.heap y.1 y.2.1
  | _, _, .nil, _ => ⟨[], [], .nil, .nil, rfl, fun i e h => by simp at h, fun y h => absurd h List.not_mem_nil⟩
  | _, _, .cons (a := e) (b := p) h t, f => by
    rw [List.all_cons, Bool.and_eq_true] at f
    obtain ⟨ns, xs, h1, h2, h3, h4, h5⟩ := ents_tup I t f.2
    obtain ⟨r1, r2, k1, k2, _⟩ := h
    obtain ⟨b, eb, hk⟩ := nest_key I (.fz k1) f.1 r1
    have ev : e.2.1.1 = .ref b := by
      obtain ⟨_, c, ec⟩ := tup_ref (RepP.fz k1) f.1
      rw [ec] at r1 ⊢
      rw [eb] at r1
      cases r1; rfl
    refine ⟨(nkey p.1, b, e.2.2.1) :: ns, (nkey p.1, b, e.2.2.2) :: xs, .cons ⟨rfl, rfl, r2⟩ h1, .cons (by rw [← ev]; exact k1) f.1 k2 h2, by rw [List.length_cons, List.length_cons, h3], fun i e' hi => ?_, fun y hy => ?_⟩
    · cases i with
      | zero => cases hi; exact ⟨_, b, rfl, eb⟩
      | succ i =>
        rw [List.getElem?_cons_succ] at hi ⊢
        exact h4 i e' hi
    · rcases List.mem_cons.mp hy with e | hy
      · subst e; exact hk
      · exact h5 y hy
theorem fold_flat {P : Program} {w : World} {K : PySem.W.Frag} {H : Hp} : ∀ {more : List (Key × V)} {ps : List (PyData × PyData)}, RepKs P w K H more ps → ∀ {acc : List (Key × V)} {as : List (PyData × PyData)}, RepKs P w K H acc as →
    RepKs P w K H (mergeK acc more) (ps.foldl (fun a p => dput a p.1 p.2) as)
  | _, _, .nil, _, _, h => h
  | _, _, .cons z a t, _, _, h => by
    rw [List.foldl_cons]
    exact fold_flat t (RepKs.put z a h)
def nputs (acc more : List NEnt) : List NEnt := more.foldl (fun a e => nput a e.1 e.2.1 e.2.2) acc
theorem fold_tup {P : Program} {w : World} {K : PySem.W.Frag} {H : Hp} : ∀ {more : List NEnt} {ps : List (PyData × PyData)}, RepNs P w K H more ps → ∀ {acc : List NEnt} {as : List (PyData × PyData)}, RepNs P w K H acc as →
    RepNs P w K H (nputs acc more) (ps.foldl (fun a p => dput a p.1 p.2) as)
  | _, _, .nil, _, _, h => h
  | _, _, .cons z tk a t, _, _, h => by
    rw [List.foldl_cons]
    exact fold_tup t (RepNs.put z tk a h)
theorem fold_pair : ∀ {more : List NEnt} {xs : List (NestedKey × Addr × Value)}, Paired NPair more xs → ∀ {acc : List NEnt} {as : List (NestedKey × Addr × Value)}, Paired NPair acc as → Paired NPair (nputs acc more) (storedAllH as xs)
  | _, _, .nil, _, _, h => h
  | _, _, .cons p t, _, _, h => by
    unfold nputs storedAllH
    rw [List.foldl_cons, List.foldl_cons, p.1, p.2.1]
    exact fold_pair t (nput_pair h p.2.2)
theorem nputs_ne : ∀ {more acc : List NEnt}, more ≠ [] ∨ acc ≠ [] → nputs acc more ≠ []
  | [], _, h => by
    rcases h with h | h
    · exact absurd rfl h
    · exact h
  | e :: more, acc, _ => by
    unfold nputs
    rw [List.foldl_cons]
    exact nputs_ne (.inr nput_ne)
/-- dict(xs), xs pairs -/
theorem dict_pairs (hc : X.calm = true) (hu : X.A.units + 200 < cLine) {Q : VK} (I : Inv X pins σ H s) {T : String} {a : Addr} {es : List PEnt} {ps : List (PyData × PyData)} {fp : List Addr} {OK : Heap → Prop}
    (hp : Paired (PRel X H s) es ps) (hz : es.length ≤ sizeLine) (A : PairArg X.prog X.w T a fp [] es.length (PairRel (es.map fun e => (e.2.1.2, e.2.2.2))) OK) (ok : OK s.heap) {kvs : List (PyData × PyData)} (hm : dmake [] ps = some kvs)
    (q : GetsV X.prog X.w X.K H (.fresh (.dict kvs)) Q) : wpAny (model X.prog X.w) X.A (call (.type "dict") [.ref a]) (EP X pins σ Q) X.xe s := by
  obtain ⟨rfl, hk⟩ := dmake_is hm
  have hsm : (s.heap.objs.size == sysModules) = false := beq_eq_false_iff_ne.mpr (Nat.ne_of_gt I.big)
  have hfr : H s.heap.objs.size = none := I.hok.fresh (Nat.le_refl _)
  have hlen : es.length = ps.length := Paired.length hp
  have hfl := foldput_len ps []
  have flat : ps.all (fun p => flatKey p.1) = true → wpAny (model X.prog X.w) X.A (call (.type "dict") [.ref a]) (EP X pins σ Q) X.xe s := fun hf => by
    obtain ⟨kv, vs, h1, h2, h3, h4⟩ := ents_flat hp hf
    refine PySem.call_dict_pairs (knd := mixKind X.prog X.w) (kvs := vs) A (I.ok.hd hc) ok ⟨h3, fun i key v hi => ?_⟩ hz fun h' tk dd k => ?_
    · unfold PairRel at hi
      rw [List.getElem?_map] at hi
      cases he : es[i]? with
      | none => rw [he] at hi; cases hi
      | some e =>
        rw [he] at hi; cases hi
        exact h4 i e he
    · have rk := fold_flat h2 (acc := []) (as := []) .nil
      refine ⟨.ref s.heap.objs.size, upd H s.heap.objs.size (.dK (mergeK [] kv)), I.laid (t' := tk) (fun b u e => k b u List.not_mem_nil e) (Nat.le_refl _) (show ObjOk X.prog X.w _ _ _ (.dK (mergeK [] kv)) from ⟨?_, hsm, _, KV.merge h1 .nil, dd⟩), rfl, ?_⟩
      · rw [rk.length, ← hlen] at *
        simp only [List.length_nil] at hfl
        omega
      · exact q _ _ (Grow.new _ hfr) hfr (.dK upd_same (RepKs.later (Grow.new _ hfr).later _ _ rk))
  rcases hk with ⟨hf, _⟩ | ⟨hf, _⟩
  · exact flat hf
  · by_cases hn : ps = []
    · exact flat (by rw [hn]; rfl)
    · obtain ⟨ns, xs, h1, h2, h3, h4, h5⟩ := ents_tup I hp hf
      have hne : ns ≠ [] := fun z => by
        subst z
        have := h2.length
        exact hn (List.eq_nil_of_length_eq_zero this.symm)
      refine PySem.call_dict_pairsH (knd := nestedKind X.prog X.w) (ps := xs) A (I.ok.hd hc) (show X.A.units + 1 + 1 + 8 < cLine by omega) ok ⟨h3, fun i key v hi => ?_⟩ (fun h' hk x hx => ?_) hz fun h' tk dd k => ?_
      · unfold PairRel at hi
        rw [List.getElem?_map] at hi
        cases he : es[i]? with
        | none => rw [he] at hi; cases hi
        | some e =>
          rw [he] at hi; cases hi
          exact h4 i e he
      · obtain ⟨y1, y2⟩ := h5 x hx
        exact ⟨NestedIs.at (fun b o vs n e _ => hk b o (Nat.ne_of_lt (Heap.lt_size e)) List.not_mem_nil e) _ _ y1, y2⟩
      · have rk := fold_tup h2 (acc := []) (as := []) .nil
        have pk := fold_pair h1 (acc := []) (as := []) .nil
        obtain ⟨o, ds, ep, g1, g2, g3, g4, g5, g6⟩ := dd
        refine ⟨.ref s.heap.objs.size, upd H s.heap.objs.size (NdO X.prog X.w s.heap.objs.size (nputs [] ns)), I.laid (t' := tk) (fun b u e => k b u List.not_mem_nil e) (Nat.le_refl _) (NdH.ok ⟨?_, hsm, by rw [keys_pair pk]; exact g6, _, pk, o, ds, ep, g1, g2, g3, g4⟩), rfl, ?_⟩
        · rw [rk.length]
          simp only [List.length_nil] at hfl
          omega
        · exact q _ _ (Grow.new _ hfr) hfr (.dN upd_same (nputs_ne (.inl hne)) (RepNs.later (Grow.new _ hfr).later _ _ rk))
end
end FJ

set_option Elab.async false
set_option linter.all false
set_option autoImplicit false
set_option maxRecDepth 100000
set_option maxHeartbeats 0
/-! Ev3f: one-argument calls; min, max; items, slices. -/
namespace FJ
open PySem PySem.Spec L2
open PyProof.Rows hiding St

section
variable {X : Cx} {pins : List (Addr × Obj)} {σ : St} {H : Hp} {s : Shared}
theorem map_some {α β : Type} {o : Option α} {f : α → β} {b : β} (h : o.map f = some b) : ∃ a, o = some a ∧ f a = b := by
  cases o with
  | none => cases h
  | some a => exact ⟨a, rfl, Option.some.inj h⟩
theorem paired_get {α β : Type} {F : α → β → Prop} : ∀ {l : List α} {m : List β} {j : Nat} {x : α}, Paired F l m → l[j]? = some x → ∃ y, m[j]? = some y ∧ F x y
  | _, _, 0, _, .cons p _, h => by cases h; exact ⟨_, rfl, p⟩
  | _, _, j + 1, x, .cons _ t, h => by
    rw [List.getElem?_cons_succ] at h
    obtain ⟨y, e, f⟩ := paired_get (j := j) t h
    exact ⟨y, by rw [List.getElem?_cons_succ]; exact e, f⟩
/-- a tuple that is read -/
theorem tupR {a : Addr} {xs : List V} (I : Inv X pins σ H s) (h : TP X.K H a xs) : xs.length ≤ sizeLine ∧ ∃ (us : List Value) (o : Obj) (n : Nat), Vals xs us ∧ s.heap.get? a = some o ∧ o.cls = .type "tuple" ∧ o.dict = none ∧ o.data = .seq us.toArray n := by
  rcases h with ⟨o, h, hd⟩ | ⟨o, us, n, h1, h2, h3, h4, h5, h6⟩
  · obtain ⟨ho, z, us, r, o', e, c, n, d⟩ := (show ObjOk X.prog X.w H s.heap a (.frz o (.tup xs)) from I.hok a _ h)
    rw [ho] at e; cases e
    exact ⟨z, us, o, n, r, ho, c, hd, d⟩
  · refine ⟨?_, us.toList, o, n, h6, I.kIn a o h1, h2, h3, by rw [Array.toArray_toList]; exact h4⟩
    have := h6.length
    simp only [Array.length_toList] at this
    omega

/-! ### dict(xs) of a list, a tuple -/
theorem call_dict_seq (hc : X.calm = true) (hu : X.A.units + 200 < cLine) {v : V} {v' : Value} {ds : List PyData} {r : Val} {Q : VK} (I : Inv X pins σ H s) (h : RepP X.prog X.w X.K H v (.list ds) ∨ RepP X.prog X.w X.K H v (.tuple ds)) (rv : RelV v v') (e : dictD ds = some r)
    (q : GetsV X.prog X.w X.K H r Q) : wpAny (model X.prog X.w) X.A (call (.type "dict") [v']) (EP X pins σ Q) X.xe s := by
  unfold dictD at e
  cases hp : pairsD ds with
  | none => rw [hp] at e; cases e
  | some ps =>
    rw [hp] at e
    obtain ⟨kvs, hm, rfl⟩ := map_some e
    have items : ∀ (es : List PEnt), Paired (PRel X H s) es ps → PairItems s.heap (es.map fun e => Value.ref e.1).toArray (fun j => ((es[j]?).map (·.1)).getD 0) (es.map fun e => (e.2.1.2, e.2.2.2)) := fun es pr => by
      refine ⟨by simp, fun j k u hj => ?_⟩
      rw [List.getElem?_map] at hj
      cases he : es[j]? with
      | none => rw [he] at hj; cases hj
      | some y =>
        rw [he] at hj; cases hj
        obtain ⟨p, _, hr⟩ := paired_get pr he
        refine ⟨by simp [he], .inl ?_⟩
        simp only [he, Option.map_some, Option.getD_some]
        exact hr.2.2.2.2
    rcases h with h | h
    · obtain ⟨a, xs, rfl, hR, r⟩ := h.listI
      cases rv
      obtain ⟨hz, its, n, rv, hl, ho⟩ := lstR I hR
      obtain ⟨es, rfl, pr⟩ := pairs_at I r rv hp
      have A := PairArg.list (prog := X.prog) (w := X.w) a (es.map fun e => Value.ref e.1).toArray (fun j => ((es[j]?).map (·.1)).getD 0) (es.map fun e => (e.2.1.2, e.2.2.2))
      rw [List.length_map] at A
      exact dict_pairs hc hu I pr (by rw [List.length_map] at hl; omega) A ⟨⟨_, n, ho, rfl, rfl, rfl⟩, items es pr⟩ hm q
    · obtain ⟨a, xs, rfl, hT, r⟩ := h.tupI
      cases rv
      obtain ⟨hz, its, o, n, rv, h1, h2, h3, h4⟩ := tupR I hT
      obtain ⟨es, rfl, pr⟩ := pairs_at I r rv hp
      have hl := rv.length
      have A := PairArg.tuple (prog := X.prog) (w := X.w) a (es.map fun e => Value.ref e.1).toArray (fun j => ((es[j]?).map (·.1)).getD 0) (es.map fun e => (e.2.1.2, e.2.2.2))
      rw [List.length_map] at A hl
      exact dict_pairs hc hu I pr (by omega) A ⟨⟨o, n, h1, h2, h3, h4⟩, items es pr⟩ hm q

/-! ### sorted -/
theorem each_of : ∀ {ds : List PyData} {xs : List V} {us : List Value}, RepFs X.prog X.w X.K H xs ds → Vals xs us → PySem.W.EachIs (fun u d => ∃ v, RelV v u ∧ RepF X.prog X.w X.K H v d) us ds
  | [], _, _, .nil, .nil => .nil
  | _ :: _, _, _, .cons a t, .cons r r' => .cons ⟨_, r, a⟩ (each_of t r')
theorem of_each : ∀ {us : List Value} {ds : List PyData}, PySem.W.EachIs (fun u d => ∃ v, RelV v u ∧ RepF X.prog X.w X.K H v d) us ds → ∃ xs, Vals xs us ∧ RepFs X.prog X.w X.K H xs ds
  | _, _, .nil => ⟨[], .nil, .nil⟩
  | _, _, .cons ⟨v, r, a⟩ t => by
    obtain ⟨xs, h1, h2⟩ := of_each t
    exact ⟨v :: xs, .cons r h1, .cons a h2⟩
theorem noDicts_mem : ∀ {ds : List PyData}, noDicts ds = true → ∀ d ∈ ds, noDict d = true
  | [], _, _, h => absurd h List.not_mem_nil
  | x :: ds, h, d, hd => by
    rw [noDicts, Bool.and_eq_true] at h
    rcases List.mem_cons.mp hd with e | hd
    · subst e; exact h.1
    · exact noDicts_mem h.2 d hd
theorem each_reads (I : Inv X pins σ H s) : ∀ {us : List Value} {ds : List PyData}, PySem.W.EachIs (fun u d => ∃ v, RelV v u ∧ RepF X.prog X.w X.K H v d) us ds → noDicts ds = true → PySem.W.EachIs (fun u d => ∃ as, Reads s.heap u d as) us ds
  | _, _, .nil, _ => .nil
  | _, _, .cons ⟨v, r, a⟩ t, h => by
    rw [noDicts, Bool.and_eq_true] at h
    exact .cons (RepP.reads I (.fz a) h.1 r) (each_reads I t h.2)
theorem sortOk_is {ds : List PyData} (h : sortOk ds = true) : noDicts ds = true ∧ PySem.W.AllAlike ds ∧ (∀ d ∈ ds, d.depth ≤ 64) ∧ PySem.W.Sortable ds := by
  unfold sortOk at h
  rw [Bool.and_eq_true, Bool.and_eq_true, Bool.and_eq_true] at h
  obtain ⟨⟨⟨h1, h2⟩, h3⟩, h4⟩ := h
  rw [List.all_eq_true] at h2 h3
  refine ⟨h1, fun d hd d' hd' => ?_, fun d hd => of_decide_eq_true (h3 d hd), ?_⟩
  · have := h2 d hd
    rw [List.all_eq_true] at this
    exact this d' hd'
  · rw [Bool.or_eq_true, List.all_eq_true, List.all_eq_true] at h4
    rcases h4 with h4 | h4
    · refine .inl fun d hd => ?_
      have := h4 d hd
      cases d with
      | tuple xs => cases xs with
        | nil => cases this
        | cons x r => exact ⟨x, r, rfl⟩
      | _ => cases this
    · refine .inr fun d hd => ?_
      have := h4 d hd
      cases d with
      | int i => exact ⟨(fun z => nomatch z), (fun xs z => nomatch z)⟩
      | str i => exact ⟨(fun z => nomatch z), (fun xs z => nomatch z)⟩
      | _ => cases this
theorem sortD_eq (ds : List PyData) : ds.mergeSort (PySem.W.dataLe false id) = sortD ds := rfl
theorem call_sorted (hu : X.A.units + 200 < cLine) {v : V} {v' : Value} {ds : List PyData} {Q : VK} (I : Inv X pins σ H s) (h : RepP X.prog X.w X.K H v (.list ds)) (rv : RelV v v') (ok : sortOk ds = true)
    (q : GetsV X.prog X.w X.K H (.fresh (.list (sortD ds))) Q) : wpAny (model X.prog X.w) X.A (call (.builtin "sorted") [v']) (EP X pins σ Q) X.xe s := by
  obtain ⟨a, xs, rfl, hR, r⟩ := h.listI
  cases rv
  obtain ⟨hz, us, n, rv, hl, ho⟩ := lstR I hR
  obtain ⟨n1, n2, n3, n4⟩ := sortOk_is ok
  have ea := each_of r rv
  have hlen := r.length
  refine PySem.W.sorted_data (enc := id) ⟨_, ho, rfl, n, rfl⟩ ea (each_reads I ea n1) (by rw [List.map_id]; exact n2) (by rw [List.map_id]; exact n4) (by omega) (fun d hd => ?_) fun out hl' eo => ?_
  · have := n3 d hd
    show X.A.units + 2 + d.depth < cLine
    omega
  · rw [sortD_eq] at eo
    obtain ⟨ys, r1, r2⟩ := of_each eo
    obtain ⟨c, hc⟩ := sortedAll_at s.heap us out.toArray
    have hy : ys.length ≤ sizeLine := by rw [r1.length, hl']; omega
    have hn : H (s.heap.objs.size + 1) = none := I.hok.fresh (Nat.le_succ _)
    refine ⟨.ref (s.heap.objs.size + 1), upd H (s.heap.objs.size + 1) (.lst ys), I.laid (t' := s.toks) (fun _ _ => sortedAll_old) (Nat.le_succ _) (show ObjOk X.prog X.w _ _ _ (.lst ys) from ⟨hy, out, c, r1, hc⟩), rfl, ?_⟩
    exact q _ _ (Grow.new _ hn) hn (.lst upd_same (RepFs.later (Grow.new _ hn).later _ _ r2))

/-! ### all of them -/
def fnB1 : B1 → Value
  | .len => .builtin "len"
  | .tuple => .type "tuple"
  | .list => .type "list"
  | .int => .type "int"
  | .dict => .type "dict"
  | .sorted => .builtin "sorted"
  | .sset => .builtin "sorted"
  | .all => .builtin "all"
  | .any => .builtin "any"
  | .repr => .builtin "repr"
  | .max => .builtin "max"
def rB1 (P : Program) (w : World) (K : PySem.W.Frag) (b : B1) : List V → Hp → VK → Prop := fun vs H Q => ∃ v x r, vs = [v] ∧ RepP P w K H v x ∧ b1D b x = some r ∧ GetsV P w K H r Q
theorem strOk_bool (b : Bool) : PyData.strOk (if b = true then "True" else "False") = true := by cases b <;> decide +kernel
theorem call_b1 (hc : X.calm = true) (hu : X.A.units + 200 < cLine) (b : B1) : CallR X (fnB1 b) (rB1 X.prog X.w X.K b) := by
  intro pins s σ H vs us Q I r h
  obtain ⟨v, x, z, rfl, hx, hr, q⟩ := h
  have hr0 := hr
  unfold b1D at hr
  split at hr
  · cases hr
    obtain ⟨a, xs, rfl, hR, ra⟩ := hx.listI
    exact call_len_seq pins s σ H _ us Q I r ⟨a, xs, rfl, .inl (.inl hR), by rw [ra.length]; exact q _ H (Grow.refl H) (.int _)⟩
  · cases hr
    obtain ⟨a, xs, rfl, hT, ra⟩ := hx.tupI
    exact call_len_seq pins s σ H _ us Q I r ⟨a, xs, rfl, .inr hT.sq, by rw [ra.length]; exact q _ H (Grow.refl H) (.int _)⟩
  · cases hr
    obtain ⟨u, rfl, ru⟩ := vals1 r
    exact dict_len I hx ru fun t s' I' => ⟨.int _, H, I', ⟨t, rfl⟩, q _ H (Grow.refl H) (.int _)⟩
  · obtain ⟨hz, hr⟩ := ite_some hr
    cases hr
    obtain ⟨rfl, s1⟩ := hx.strI
    exact call_len_str pins s σ H _ us Q I r ⟨_, rfl, hz, q _ H (Grow.refl H) (.int _)⟩
  · cases hr
    obtain ⟨a, xs, rfl, hR, ra⟩ := hx.listI
    obtain ⟨u, rfl, ru⟩ := vals1 r
    cases ru
    obtain ⟨z, ws, n, rv, hl, ho⟩ := lstR I hR
    refine call_tuple_list ⟨_, ho, rfl, n, rfl⟩ (fun h' kp => ?_) (by rw [List.size_toArray]; omega)
    obtain ⟨hn, J⟩ := newTup (t' := s.toks) (I.kept (t' := s.toks) kp) rv z
    exact ⟨.ref h'.objs.size, _, J, rfl, q _ _ (Grow.new _ hn) (.tup .new (ra.new hn))⟩
  · cases hr
    obtain ⟨a, xs, rfl, hT, ra⟩ := hx.tupI
    exact call_tuple_of pins s σ H _ us Q I r ⟨a, xs, rfl, .inr ⟨hT.sq, q _ H (Grow.refl H) (.tup hT ra)⟩⟩
  · cases hr
    obtain ⟨a, xs, rfl, hR, ra⟩ := hx.listI
    exact call_list_of pins s σ H _ us Q I r ⟨a, xs, rfl, .inl (.inl hR), fun p hp => q p _ (Grow.new _ hp) hp (.lst upd_same (ra.new hp))⟩
  · cases hr
    obtain ⟨a, xs, rfl, hT, ra⟩ := hx.tupI
    exact call_list_of pins s σ H _ us Q I r ⟨a, xs, rfl, .inr hT.sq, fun p hp => q p _ (Grow.new _ hp) hp (.lst upd_same (ra.new hp))⟩
  · obtain ⟨hz, hr⟩ := ite_some hr
    cases hr
    obtain ⟨a, kvs, rfl, hR, ra⟩ := hx.dictF hz
    exact call_listD hc pins s σ H _ us Q I r ⟨a, kvs, rfl, hR, fun p hp => q p _ (Grow.new _ hp) hp (.lst upd_same (ra.keysR.new hp))⟩
  · cases hr
    cases hx.intI
    exact call_int1 pins s σ H _ us Q I r (.inl ⟨_, rfl, q _ H (Grow.refl H) (.int _)⟩)
  · cases hr
    cases hx.blI
    exact call_int1 pins s σ H _ us Q I r (.inr ⟨_, rfl, q _ H (Grow.refl H) (.int _)⟩)
  · obtain ⟨hz, hr⟩ := ite_some hr
    cases hr
    obtain ⟨a, kvs, rfl, hR, ra⟩ := hx.dictF hz
    exact call_dictD pins s σ H _ us Q I r ⟨a, kvs, rfl, hR, fun p hp => q p _ (Grow.new _ hp) hp (.dK upd_same (RepKs.later (Grow.new _ hp).later _ _ ra))⟩
  · obtain ⟨u, rfl, ru⟩ := vals1 r
    exact call_dict_seq hc hu I (.inl hx) ru hr q
  · obtain ⟨u, rfl, ru⟩ := vals1 r
    exact call_dict_seq hc hu I (.inr hx) ru hr q
  · obtain ⟨hz, hr⟩ := ite_some hr
    cases hr
    obtain ⟨u, rfl, ru⟩ := vals1 r
    exact call_sorted hu I hx ru hz q
  · obtain ⟨bs, hb, rfl⟩ := map_some hr
    obtain ⟨a, xs, rfl, hR, ra⟩ := hx.listI
    rw [ra.bls hb] at hR
    exact cr_all hc pins s σ H _ us Q I r ⟨a, bs, rfl, .inl hR, q _ H (Grow.refl H) (.bl _)⟩
  · obtain ⟨bs, hb, rfl⟩ := map_some hr
    obtain ⟨a, xs, rfl, hR, ra⟩ := hx.listI
    rw [ra.bls hb] at hR
    exact cr_any hc pins s σ H _ us Q I r ⟨a, bs, rfl, .inl hR, q _ H (Grow.refl H) (.bl _)⟩
  · split at hr
    · rename_i i l hi
      cases hr
      obtain ⟨a, xs, rfl, hR, ra⟩ := hx.listI
      rw [ra.ints hi] at hR
      obtain ⟨g1, g2⟩ := maxI_is l i
      refine cr_max hc pins s σ H _ us Q I r ⟨a, i :: l, rfl, .inl hR, by simp, fun m hm hle => ?_⟩
      have e : m = maxI i l := Int.le_antisymm (g2 m hm) (hle _ g1)
      rw [e]
      exact q _ H (Grow.refl H) (.int _)
    · cases hr
  · cases hr
    cases hx.blI
    obtain ⟨u, rfl, ru⟩ := vals1 r
    cases ru
    refine PySem.P.repr_of_bool ⟨.str _, H, I.tok _, ⟨_, rfl⟩, q _ H (Grow.refl H) (.str _ (strOk_bool _))⟩
  · cases hr
def fnB2 : B2 → Value
  | .min => .builtin "min"
  | .max => .builtin "max"
  | .lzip => .none
def rB2 (P : Program) (w : World) (K : PySem.W.Frag) (b : B2) : List V → Hp → VK → Prop := fun vs H Q => ∃ v u x y r, vs = [v, u] ∧ RepP P w K H v x ∧ RepP P w K H u y ∧ b2D b x y = some r ∧ GetsV P w K H r Q
theorem call_b2 (hc : X.calm = true) (b : B2) : CallR X (fnB2 b) (rB2 X.prog X.w X.K b) := by
  intro pins s σ H vs us Q I r h
  obtain ⟨v, u, x, y, z, rfl, hx, hy, hr, q⟩ := h
  unfold b2D at hr
  split at hr
  · cases hr
    cases hx.intI; cases hy.intI
    exact call_min2 hc pins s σ H _ us Q I r ⟨_, _, rfl, q _ H (Grow.refl H) (.int _)⟩
  · cases hr
    cases hx.intI; cases hy.intI
    exact call_max2 hc pins s σ H _ us Q I r ⟨_, _, rfl, q _ H (Grow.refl H) (.int _)⟩
  · cases hr
end
end FJ

set_option Elab.async false
set_option linter.all false
set_option autoImplicit false
set_option maxRecDepth 100000
set_option maxHeartbeats 0
/-! Ev3g: methods, items, slices. -/
namespace FJ
open PySem PySem.Spec L2
open PyProof.Rows hiding St

theorem ite_or {α : Type} {c : Prop} [Decidable c] {a : Option α} {b : α} (h : (if c then a else none) = some b) : c ∧ a = some b := by
  split at h
  · exact ⟨by assumption, h⟩
  · cases h
section
variable {X : Cx} {pins : List (Addr × Obj)} {σ : St} {H : Hp} {s : Shared}
/-- a list, tuple, dict: its type; it has no dict of its own -/
def boxT : PyData → String → Bool
  | .list _, T => T == "list"
  | .tuple _, T => T == "tuple"
  | .dict _, T => T == "dict"
  | _, _ => false
theorem RepP.plain {v : V} {v' : Value} {x : PyData} {T : String} (I : Inv X pins σ H s) (h : RepP X.prog X.w X.K H v x) (r : RelV v v') (b : boxT x T = true) : s.TypeIs v' T ∧ ∀ a, v' = .ref a → ∃ ob, s.heap.get? a = some ob ∧ ob.dict = none := by
  cases x with
  | list ds =>
    have e : T = "list" := by simpa [boxT] using b
    subst e
    obtain ⟨a, xs, rfl, hR, _⟩ := h.listI
    cases r
    obtain ⟨_, us, n, _, _, ho⟩ := lstR I hR
    exact ⟨⟨_, ho, rfl⟩, fun b e => by cases e; exact ⟨_, ho, rfl⟩⟩
  | tuple ds =>
    have e : T = "tuple" := by simpa [boxT] using b
    subst e
    obtain ⟨a, xs, rfl, hT, _⟩ := h.tupI
    cases r
    obtain ⟨_, us, o, n, _, ho, hc, hd, _⟩ := tupR I hT
    exact ⟨⟨o, ho, hc⟩, fun b e => by cases e; exact ⟨o, ho, hd⟩⟩
  | dict ps =>
    have e : T = "dict" := by simpa [boxT] using b
    subst e
    obtain ⟨a, rfl, hT, hd⟩ := dict_typeP I h r
    exact ⟨hT, hd⟩
  | _ => cases b
/-- o.m(e, ..) -/
def tMth (P : Program) (w : World) (K : PySem.W.Frag) (T : String) (r : V → List V → Hp → VK → Prop) (to : TE) (t : TA) : TE := fun σ H Q => to σ H fun x H1 => (∃ d, RepP P w K H1 x d ∧ boxT d T = true) ∧ t σ H1 fun xs H2 => r x xs H2 Q
theorem pe_mth {T id : String} {name : Str} {r : V → List V → Hp → VK → Prop} {o e : Expr} {es : List Expr} {to : TE} {t : TA} {apos cpos : Pos} (pa : PlainAttrs T) (sl : PySem.Slot T name id) (ty : typeOf (.builtin id) = pure (.type "method_descriptor")) (hm : MtR X id r) (ho : PE X o to) (ha : PA X (e :: es) t)
    (hb : attributeBase o name X.env (eval o X.env) = eval o X.env) (hf : ((backTo cpos (starEach (e :: es) X.env)).all (fun x => !x.1) && (backToKw cpos (keywordEach [] X.env)).all (fun x => x.1.isSome) && decide ((e :: es).length + ([] : List Keyword).length + (if ([] : List Keyword).isEmpty then 0 else 1) < 30)) = true)
    (hl : (apos.endLine == cpos.line) = true) (hs : starEach (e :: es) X.env = (false, eval e X.env) :: starEach es X.env) (hp : (backTo cpos (starEach es X.env)).any (·.1) = false) :
    PE X (.Call (.Attribute o name apos) (e :: es) [] cpos) (tMth X.prog X.w X.K T r to t) := by
  refine ⟨fun ps s0 τ G Q J h => wpAny_Call_method_late hb hf hl rfl (thn (ho.run ps s0 τ G _ J h) fun u s1 z => ?_)⟩
  obtain ⟨x, G1, J1, rx, ⟨d, hd, hk⟩, q⟩ := z
  obtain ⟨k1, k2⟩ := hd.plain J1 rx hk
  refine ⟨T, id, pa, sl, ty, k1, k2, ?_⟩
  have hA := ha.run cpos ps s1 τ G1 _ J1 q
  rw [hs] at hA ⊢
  refine Calls.callWith_builtin ?_ (Calls.evalArgs_plain (thn hA fun us s2 y => ?_))
  · show (false || (backTo cpos (starEach es X.env)).any (·.1)) = false
    rw [hp]
    rfl
  · obtain ⟨vs, G2, J2, rs, q2⟩ := y
    exact hm ps s2 τ G2 x vs u us Q J2 rx rs q2
theorem pe_mth0 {T id : String} {name : Str} {r : V → List V → Hp → VK → Prop} {o : Expr} {to : TE} {apos cpos : Pos} (pa : PlainAttrs T) (sl : PySem.Slot T name id) (ty : typeOf (.builtin id) = pure (.type "method_descriptor")) (hm : MtR X id r) (ho : PE X o to)
    (hb : attributeBase o name X.env (eval o X.env) = eval o X.env) (hl : (apos.endLine == cpos.line) = true) : PE X (.Call (.Attribute o name apos) [] [] cpos) (tMth X.prog X.w X.K T r to tNil) := by
  refine ⟨fun ps s0 τ G Q J h => wpAny_Call_method0_late hb hl (thn (ho.run ps s0 τ G _ J h) fun u s1 z => ?_)⟩
  obtain ⟨x, G1, J1, rx, ⟨d, hd, hk⟩, q⟩ := z
  obtain ⟨k1, k2⟩ := hd.plain J1 rx hk
  exact ⟨T, id, pa, sl, ty, k1, k2, Calls.callWith_builtin rfl (PySem.evalArgs_none (hm ps s1 τ G1 x [] u [] Q J1 rx .nil q))⟩

/-! ### the methods -/
def rGet (P : Program) (w : World) (K : PySem.W.Frag) : V → List V → Hp → VK → Prop := fun x vs H Q => ∃ k z d y u r, vs = [k, z] ∧ RepP P w K H x d ∧ RepP P w K H k y ∧ RepF P w K H z u ∧ getD d y u = some r ∧ GetsV P w K H (.d r) Q
theorem mt_get (hu : X.A.units + 200 < cLine) : MtR X "dict.get" (rGet X.prog X.w X.K) := by
  intro ps s0 τ G x vs x' us Q J rx rs h
  obtain ⟨k, z, d, y, u, r, rfl, hd, hk, hz, e, q⟩ := h
  obtain ⟨k', z', rfl, rk, rz⟩ := vals2 rs
  cases d with
  | dict kvs =>
    obtain ⟨f, e⟩ := ite_some e
    cases e
    exact dict_getD hu J hk hd rk rx f hz rz fun s' w w' J' rw hw => ⟨w, G, J', rw, q w G (Grow.refl G) hw⟩
  | _ => cases e
theorem strsD_map {P : Program} {w : World} {K : PySem.W.Frag} {H : Hp} : ∀ {ds : List PyData} {xs : List V} {ys : List Str}, RepFs P w K H xs ds → strsD ds = some ys → xs = ys.map V.str
  | [], _, _, .nil, h => by cases h; rfl
  | .str b :: ds, _, bs, .cons r t, h => by
    cases r
    rw [strsD] at h
    cases hb : strsD ds with
    | none => rw [hb] at h; cases h
    | some cs => rw [hb] at h; cases h; rw [List.map_cons, ← strsD_map t hb]
  | .none :: _, _, _, _, h | .bool _ :: _, _, _, _, h | .int _ :: _, _, _, _, h | .list _ :: _, _, _, _, h | .tuple _ :: _, _, _, _, h | .dict _ :: _, _, _, _, h => by simp [strsD] at h
theorem find_at {α : Type} {p : α → Bool} : ∀ {l : List α} {n : Nat}, l.findIdx? p = some n → (∃ z, l[n]? = some z ∧ p z = true) ∧ ∀ (m : Nat) z, m < n → l[m]? = some z → p z = false := by
  intro l n h
  rw [List.findIdx?_eq_some_iff_getElem] at h
  obtain ⟨hn, h1, h2⟩ := h
  refine ⟨⟨l[n], List.getElem?_eq_getElem hn, h1⟩, fun m z hm hz => ?_⟩
  have := h2 m hm
  have e : l[m] = z := by
    have := List.getElem?_eq_getElem (l := l) (i := m) (by omega)
    rw [hz] at this
    exact (Option.some.inj this).symm
  rw [← e]
  simpa using this
theorem memOk2 {x : PyData} {ys : List PyData} (h : ys.all (fun y => eqOk y x) = true) : noDicts ys = true ∧ min (PyData.depthAll ys) x.depth ≤ 64 := by
  refine memOk (x := x) ?_
  rw [List.all_eq_true] at h ⊢
  intro y hy
  have := h y hy
  unfold eqOk at this ⊢
  rw [Nat.min_comm, Bool.and_comm (noDict x)]
  exact this
def rIdx (P : Program) (w : World) (K : PySem.W.Frag) : V → List V → Hp → VK → Prop := fun x vs H Q => ∃ k d y r, vs = [k] ∧ RepP P w K H x d ∧ RepP P w K H k y ∧ indexD d y = some r ∧ GetsV P w K H r Q
theorem mt_idxL (hu : X.A.units + 200 < cLine) : MtR X "list.index" (fun x vs H Q => rIdx X.prog X.w X.K x vs H Q ∧ ∃ d, RepP X.prog X.w X.K H x (.list d)) := by
  intro ps s0 τ G x vs x' us Q J rx rs h
  obtain ⟨⟨k, d, y, r, rfl, hd, hk, e, q⟩, d2, hd2⟩ := h
  obtain ⟨k', rfl, rk⟩ := vals1 rs
  unfold indexD at e
  split at e
  · rename_i _ xs
    obtain ⟨f, e⟩ := ite_or e
    rw [Bool.and_eq_true] at f
    split at e
    · rename_i n hn
      cases e
      obtain ⟨⟨z, hz, hzp⟩, hno⟩ := find_at hn
      obtain ⟨a, vs, rfl, hR, ra⟩ := hd.listI
      cases rx
      obtain ⟨m1, m2⟩ := memOk2 (x := y) (ys := xs) (by
        have := f.2
        rw [List.all_eq_true] at this ⊢
        intro y hy
        have := this y hy
        unfold eqOk at this ⊢
        rw [Nat.min_comm, Bool.and_comm (noDict y)]
        exact this)
      have n2 : noDict (.list xs) = true := by rw [noDict]; exact m1
      obtain ⟨as, r1⟩ := hk.reads J f.1 rk
      obtain ⟨hz', ws, c, rv, hl, ho⟩ := lstR J hR
      obtain ⟨bs, r2⟩ := Dp.readsAll J xs vs ws (RepFs.dp xs vs ra m1) rv
      have lay : PyData.canLayAll0 xs = true := RepFs.lay xs vs ra m1
      have hm : ws.map (SeqAt.readOf s0.heap) = xs := SeqAt.readsAll_map xs ws bs lay r2
      have hlen : ws.length = xs.length := by rw [← hm, List.length_map]
      have hnl : n < ws.length := by rw [hlen]; exact (List.getElem?_eq_some_iff.mp hz).1
      have hs := sizeLine_eq
      have rd : ∀ (m : Nat) (h : m < ws.toArray.size) (z : PyData), xs[m]? = some z → SeqAt.readOf s0.heap ws.toArray[m] = z := fun m h z hz => by
        have h' : m < ws.length := by simpa using h
        rw [← hm, List.getElem?_map, List.getElem?_eq_getElem h'] at hz
        have := Option.some.inj hz
        simpa using this
      refine call_meets PySem.F.slot_list_index ⟨_, ho, rfl⟩ PySem.F.entry_list_index (PySem.F.args_list_index_2 _ _) (SeqAt.list_indexAt a ws.toArray c none #[] k' (fun u => PyData.eqv (SeqAt.readOf s0.heap u) y) n (by simpa using hnl) (by omega) ?_ ?_)
        ⟨ho, SeqAt.items_eqAt (vs := ws.toArray) r2 r1 lay (hk.lay f.1) (by omega), ⟨.int (n : Nat), G, J.tok _, ⟨_, rfl⟩, q _ G (Grow.refl G) (.int _)⟩⟩
      · show PyData.eqv (SeqAt.readOf s0.heap ws.toArray[n]) y = true
        rw [rd n (by simpa using hnl) z hz]
        exact hzp
      · intro m h hmn
        have hd : m < xs.length := by omega
        show PyData.eqv (SeqAt.readOf s0.heap ws.toArray[m]) y = false
        rw [rd m h _ (List.getElem?_eq_getElem hd)]
        exact hno m _ hmn (List.getElem?_eq_getElem hd)
    · cases e
  · exfalso
    cases hd2 with
    | fz h2 => cases h2 with | lst h2 _ => cases hd with
      | fz h1 => cases h1 with | tup h1 _ =>
        obtain ⟨us, o, n, r1, o1, c1, _⟩ := (tupR J h1).2
        obtain ⟨_, ws, n2, _, _, o2⟩ := lstR J (.inr ⟨_, h2⟩)
        rw [o1] at o2; cases o2; exact absurd (Value.type.inj c1) (by decide)
      | ow h1 => cases h1
    | ow h2 => cases h2 with | lst h2 _ => cases hd with
      | fz h1 => cases h1 with | tup h1 _ =>
        obtain ⟨us, o, n, r1, o1, c1, _⟩ := (tupR J h1).2
        obtain ⟨_, ws, n2, _, _, o2⟩ := lstR J (.inl h2)
        rw [o1] at o2; cases o2; exact absurd (Value.type.inj c1) (by decide)
      | ow h1 => cases h1
  · cases e
theorem mt_idxT : MtR X "tuple.index" (fun x vs H Q => rIdx X.prog X.w X.K x vs H Q ∧ ∃ d, RepP X.prog X.w X.K H x (.tuple d)) := by
  intro ps s0 τ G x vs x' us Q J rx rs h
  obtain ⟨⟨k, d, y, r, rfl, hd, hk, e, q⟩, d2, hd2⟩ := h
  unfold indexD at e
  split at e
  · exfalso
    obtain ⟨a, xs, rfl, hT, _⟩ := hd2.tupI
    obtain ⟨us, o, n, r1, o1, c1, _⟩ := (tupR J hT).2
    obtain ⟨a2, xs2, ea, hR, _⟩ := hd.listI
    cases ea
    obtain ⟨_, ws, n2, _, _, o2⟩ := lstR J hR
    rw [o1] at o2; cases o2; exact absurd (Value.type.inj c1) (by decide)
  · split at e
    · rename_i ys hy
      split at e
      · rename_i n hn
        cases e
        obtain ⟨a, xs, rfl, hT, ra⟩ := hd.tupI
        obtain ⟨rfl, _⟩ := hk.strI
        obtain ⟨⟨z, hz, hzp⟩, hno⟩ := find_at hn
        have e := strsD_map ra hy
        subst e
        exact mt_tup_index ps s0 τ G _ _ x' us Q J rx rs ⟨a, ys, _, n, rfl, rfl, hT.sq, by rw [hz, of_decide_eq_true hzp], fun m hm hz' => by
          have := hno m _ hm hz'
          simp at this, q _ G (Grow.refl G) (.int _)⟩
      · cases e
    · cases e
  · cases e
/-- xs.append(x), owned -/
def rApp (P : Program) (w : World) (K : PySem.W.Frag) : V → List V → Hp → VK → Prop := fun x vs H Q => ∃ a y ds d, x = .ref a ∧ vs = [y] ∧ RepO P w K H a (.list ds) ∧ RepF P w K H y d ∧ ds.length < sizeLine ∧ ∀ o, RepO P w K (upd H a o) a (.list (ds ++ [d])) → Q .non (upd H a o)
theorem mt_app : MtR X "list.append" (rApp X.prog X.w X.K) := by
  intro ps s0 τ G x vs x' us Q J rx rs h
  obtain ⟨a, y, ds, d, rfl, rfl, ro, hy, hl, q⟩ := h
  cases ro with
  | @lst xs _ h ra =>
    have lt : Later G (upd G a (.lst (xs ++ [y]))) := Ownable.upd h (.lst (P := X.prog) (w := X.w) (a := a) xs)
    exact mt_append ps s0 τ G _ _ x' us Q J rx rs ⟨a, xs, y, rfl, rfl, h, by rw [ra.length]; exact hl, q _ (.lst upd_same (RepFs.snoc (RepFs.later lt _ _ ra) (RepF.later lt _ _ hy)))⟩
/-- xs.extend(ys), xs owned -/
def rExtF (P : Program) (w : World) (K : PySem.W.Frag) : V → List V → Hp → VK → Prop := fun x vs H Q => ∃ a y ds es, x = .ref a ∧ vs = [y] ∧ RepO P w K H a (.list ds) ∧ RepF P w K H y (.list es) ∧ ds.length + es.length ≤ sizeLine ∧ ∀ o, RepO P w K (upd H a o) a (.list (ds ++ es)) → Q .non (upd H a o)
theorem mt_extF : MtR X "list.extend" (rExtF X.prog X.w X.K) := by
  intro ps s0 τ G x vs x' us Q J rx rs h
  obtain ⟨a, y, ds, es, rfl, rfl, ro, hy, hl, q⟩ := h
  cases ro with
  | @lst xs _ h ra =>
    obtain ⟨b, ys, rfl, hR, rb⟩ := (RepP.fz hy).listI
    have lt : Later G (upd G a (.lst (xs ++ ys))) := Ownable.upd h (.lst (P := X.prog) (w := X.w) (a := a) xs)
    obtain ⟨u, rfl, ru⟩ := vals1 rs
    cases rx; cases ru
    obtain ⟨z1, w1, n1, r1, l1, o1⟩ := lstR J (.inl h)
    obtain ⟨z2, w2, n2, r2, l2, o2⟩ := lstR J hR
    have k1 := ra.length
    have k2 := rb.length
    have sz : w1.toArray.size + w2.toArray.size ≤ sizeLine := by rw [List.size_toArray, List.size_toArray]; omega
    have nl : ¬ (!w1.toArray.isEmpty && Builtin.List.listTooLong (w1.toArray.size + w2.toArray.size)) = true := by rw [notLongL sz, Bool.and_false]; exact Bool.false_ne_true
    refine call_meets F.slot_list_extend ⟨_, o1, rfl⟩ F.entry_list_extend (F.args_list_extend_2 _ _) (AutoSeq1.list_extend_list_list_0 a w1.toArray n1 b w2.toArray n2 nl (by rw [List.size_toArray]; omega) (by omega)) ⟨o1, o2, ?_⟩
    exact ⟨.non, _, J.lset (its' := w1 ++ w2) h o1 (by simp) (r1.append r2) (by rw [List.length_append]; omega), rfl, q _ (.lst upd_same (RepFs.append (RepFs.later lt _ _ ra) (RepFs.later lt _ _ rb)))⟩
/-- xs.pop(), owned -/
def rPopF (P : Program) (w : World) (K : PySem.W.Frag) : V → List V → Hp → VK → Prop := fun x vs H Q => ∃ a ds d, x = .ref a ∧ vs = [] ∧ RepO P w K H a (.list ds) ∧ ds[ds.length - 1]? = some d ∧ ∀ o y, RepO P w K (upd H a o) a (.list ds.dropLast) → RepF P w K (upd H a o) y d → Q y (upd H a o)
theorem mt_popF : MtR X "list.pop" (rPopF X.prog X.w X.K) := by
  intro ps s0 τ G x vs x' us Q J rx rs h
  obtain ⟨a, ds, d, rfl, rfl, ro, hd, q⟩ := h
  cases ro with
  | @lst xs _ h ra =>
    obtain ⟨y, hy, ry⟩ := ra.get hd
    have lt : Later G (upd G a (.lst xs.dropLast)) := Ownable.upd h (.lst (P := X.prog) (w := X.w) (a := a) xs)
    rw [← ra.length] at hy
    exact mt_pop ps s0 τ G _ _ x' us Q J rx rs ⟨a, xs, y, rfl, rfl, h, hy, q _ _ (.lst upd_same (RepFs.dropLast (RepFs.later lt _ _ ra))) (RepF.later lt _ _ ry)⟩

/-! ### items -/
def rItem (P : Program) (w : World) (K : PySem.W.Frag) : R2 := fun v u H Q => ∃ x y d, RepP P w K H v x ∧ RepP P w K H u y ∧ itemD x y = some d ∧ GetsV P w K H (.d d) Q
theorem atI_rep {P : Program} {w : World} {K : PySem.W.Frag} {xs : List V} {ds : List PyData} {i : Int} {d : PyData} (r : RepFs P w K H xs ds) (h : atI ds i = some d) : ∃ v, atI xs i = some v ∧ RepF P w K H v d := by
  unfold atI at h ⊢
  rw [r.length]
  cases e : ixN ds.length i with
  | none => rw [e] at h; cases h
  | some j =>
    rw [e] at h
    exact r.get h
theorem ix_item (hu : X.A.units + 200 < cLine) : IxR X (rItem X.prog X.w X.K) := by
  intro value slice ps s0 τ G v u v' u' Q J rv ru h hs
  obtain ⟨x, y, d, hx, hy, e, q⟩ := h
  unfold itemD at e
  split at e
  · obtain ⟨a, xs, rfl, hR, ra⟩ := hx.listI
    cases hy.intI
    obtain ⟨z, hz, rz⟩ := atI_rep ra e
    exact ix_list value slice ps s0 τ G _ _ v' u' Q J rv ru ⟨a, xs, _, z, rfl, rfl, .inl hR, hz, q z G (Grow.refl G) rz⟩ hs
  · obtain ⟨a, xs, rfl, hT, ra⟩ := hx.tupI
    cases hy.intI
    obtain ⟨z, hz, rz⟩ := atI_rep ra e
    exact ix_tup value slice ps s0 τ G _ _ v' u' Q J rv ru ⟨a, xs, _, z, rfl, rfl, hT.sq, hz, q z G (Grow.refl G) rz⟩ hs
  · obtain ⟨f, e⟩ := ite_or e
    obtain ⟨a, rfl, hT, _⟩ := dict_typeP J hx rv
    exact tail_any hT PySem.F.slot_dict_getitem.lookup (dict_get hu J hy hx ru rv f e fun s' z z' J' rz hz => ⟨z, G, J', rz, q z G (Grow.refl G) hz⟩) hs
  · cases e

/-! ### slices -/
def rSlc (P : Program) (w : World) (K : PySem.W.Frag) : V → Option Int → Option Int → Hp → VK → Prop := fun v lo hi H Q => ∃ x r, RepP P w K H v x ∧ slcD x lo hi = some r ∧ GetsV P w K H r Q
theorem RepFs.cut {P : Program} {w : World} {K : PySem.W.Frag} {xs : List V} {ds : List PyData} (r : RepFs P w K H xs ds) (lo hi : Option Int) : RepFs P w K H (cutV xs lo hi) (cutD ds lo hi) := by
  unfold cutV cutD
  rw [r.length]
  exact (r.drop _).take _
theorem cutD_all {ds : List PyData} {lo hi : Option Int} (h : HT.sIx ds.length 0 lo = 0 ∧ HT.sIx ds.length ds.length hi = ds.length) : cutD ds lo hi = ds := by
  unfold cutD
  rw [h.1, h.2, List.drop_zero, Nat.sub_zero, List.take_length]
theorem sl_any : SlR X (rSlc X.prog X.w X.K) := by
  intro ps s0 τ G v v' vl vu lo hi sl Q J rv hs pl pu h
  obtain ⟨x, r, hx, e, q⟩ := h
  unfold slcD at e
  split at e
  · cases e
    obtain ⟨a, xs, rfl, hR, ra⟩ := hx.listI
    exact sl_list ps s0 τ G _ v' vl vu lo hi sl Q J rv hs pl pu ⟨a, xs, rfl, .inl hR, fun p hp => q p _ (Grow.new _ hp) hp (.lst upd_same ((ra.cut lo hi).new hp))⟩
  · cases e
    obtain ⟨a, xs, rfl, hT, ra⟩ := hx.tupI
    cases rv
    obtain ⟨us, r1, tp, hz⟩ := J.tuple hT.sq
    have hl : us.toArray.size = xs.length := by rw [List.size_toArray]; exact r1.length.symm
    refine ⟨"tuple", _, PyProof.Rows.slot_tuple_getitem.lookup, tp.typeIs, ?_⟩
    by_cases hw : HT.sIx us.toArray.size 0 lo = 0 ∧ HT.sIx us.toArray.size us.toArray.size hi = us.toArray.size
    · have e : cutD _ lo hi = _ := cutD_all (ds := by assumption) (lo := lo) (hi := hi) (by rw [← ra.length, ← hl]; exact hw)
      rw [e] at q
      exact getItem_tuple_whole tp hs pl pu hw ⟨.ref a, G, J, rfl, q _ G (Grow.refl G) (.tup hT ra)⟩
    · refine HT.getItem_tuple_cut tp hs pl pu hw ?_ (by rw [hl]; exact hz)
      rw [hl]
      have rc : Vals (cutV xs lo hi) ((us.drop (HT.sIx xs.length 0 lo)).take (HT.sIx xs.length xs.length hi - HT.sIx xs.length 0 lo)) := (r1.drop _).take _
      obtain ⟨hn, J'⟩ := newTup (t' := s0.toks) J rc (Nat.le_trans (cutV_length xs lo hi) hz)
      exact ⟨.ref s0.heap.objs.size, _, J', rfl, q _ _ (Grow.new _ hn) (.tup .new ((ra.cut lo hi).new hn))⟩
  · cases e
end
end FJ

set_option Elab.async false
set_option linter.all false
set_option autoImplicit false
set_option maxRecDepth 100000
set_option maxHeartbeats 0
/-! Ev3h: what is walked. -/
namespace FJ
open PySem PySem.Spec L2
open PyProof.Rows hiding St

/-! ### dicts, by their entries -/
def DPairs (P : Program) (w : World) (H : Hp) (d : Addr) (o : Obj) (es : List (V × V)) : Prop :=
  (∃ kvs, H d = some (.frz o (.dK kvs)) ∧ es = kvs.map fun p => (kV p.1, p.2)) ∨ ∃ ns, H d = some (.frz o (NdO P w d ns)) ∧ es = ns.map fun e => (V.ref e.2.1, e.2.2)
theorem DPairs.later {P : Program} {w : World} {H H' : Hp} {d : Addr} {o : Obj} {es : List (V × V)} (l : Later H H') (h : DPairs P w H d o es) : DPairs P w H' d o es := by
  rcases h with ⟨k, h, e⟩ | ⟨k, h, e⟩
  · exact .inl ⟨k, l.frz _ _ _ h, e⟩
  · exact .inr ⟨k, l.frz _ _ _ h, e⟩
section
variable {X : Cx} {pins : List (Addr × Obj)} {σ : St} {H : Hp} {s : Shared} {d : Addr} {o : Obj} {es : List (V × V)}
theorem DPairs.raw (I : Inv X pins σ H s) (h : DPairs X.prog X.w H d o es) : (d == sysModules) = false ∧ s.heap.get? d = some o ∧ o.ExactDict ∧ ∃ (ds : Array DictEntry) (ep : Nat), o.data = .dict ds ep ∧ ds.size = es.length ∧
    ∀ (i : Nat) e, es[i]? = some e → ∃ en, ds[i]? = some en ∧ RelV e.1 en.key ∧ RelV e.2 en.val := by
  rcases h with ⟨kvs, h, rfl⟩ | ⟨ns, h, rfl⟩
  · obtain ⟨h1, h2, h3, ds, ep, vs, h4, h5, kv, hm⟩ := I.frzK h
    refine ⟨h1, h2, h3, ds, ep, h4, by rw [List.length_map]; exact h5, fun i e he => ?_⟩
    rw [List.getElem?_map] at he
    cases hk : kvs[i]? with
    | none => rw [hk] at he; cases he
    | some p =>
      rw [hk] at he; cases he
      obtain ⟨q, hq, hr⟩ := paired_get kv hk
      obtain ⟨ov, es', hov, hx, hdt, hat⟩ := hm
      rw [h2] at hov; cases hov
      rw [h4] at hdt; cases hdt
      have hi : i < ds.size := by rw [h5]; exact (List.getElem?_eq_some_iff.mp hk).1
      have ge : ds.toList[i]? = some ds[i] := by simp [hi]
      obtain ⟨g1, g2⟩ := hat.2.1.get? ge hq
      refine ⟨ds[i], by simp [hi], ?_, ?_⟩
      · show RelV (kV p.1) _
        rw [hr.1]
        exact relV_key (show keyIs q.1 _ = true from g1)
      · show RelV p.2 _
        rw [g2]
        exact hr.2
  · obtain ⟨h2, hn⟩ := (show ObjOk X.prog X.w H s.heap d (.frz o (NdO X.prog X.w d ns)) from I.hok d _ h)
    obtain ⟨z, y, nd, xs, pr, o', ds, ep, e1, e2, e3, e4⟩ := NdO_of hn
    rw [h2] at e1; cases e1
    refine ⟨y, h2, e2, ds, ep, e3, ?_, fun i e he => ?_⟩
    · rw [List.length_map, Paired.length pr, size_of_entries e4]
    · rw [List.getElem?_map] at he
      cases hk : ns[i]? with
      | none => rw [hk] at he; cases he
      | some p =>
        rw [hk] at he; cases he
        obtain ⟨q, hq, hr⟩ := paired_get pr hk
        refine ⟨entryOfKey (nestedKind X.prog X.w) q, by rw [entry_at e4, hq]; rfl, ?_, hr.2.2⟩
        show RelV (V.ref p.2.1) (Value.ref q.2.1)
        rw [hr.2.1]
        rfl
/-- the keys, in their order -/
def ItD (P : Program) (w : World) (d : Addr) (o : Obj) (es : List (V × V)) : It :=
  ⟨fun i H => DPairs P w H d o es ∧ i < es.length, fun i H x H' => H' = H ∧ ∃ e, es[i]? = some e ∧ x = e.1, fun i H => DPairs P w H d o es ∧ es.length ≤ i⟩
/-- the pairs -/
def ItI (P : Program) (w : World) (d : Addr) (o : Obj) (es : List (V × V)) : It :=
  ⟨fun i H => DPairs P w H d o es ∧ i < es.length, fun i H x H' => ∃ T e, es[i]? = some e ∧ x = .ref T ∧ H T = none ∧ H' = upd H T (.tup [e.1, e.2]), fun i H => DPairs P w H d o es ∧ es.length ≤ i⟩
variable {P : Program} {w : World} {K : PySem.W.Frag} {tg : Expr} {ds : Array DictEntry} {ep : Nat}
theorem turnD (it : Addr) (ho : o.data = .dict ds ep) : Turn P w K tg (ItD P w d o es) [it] it (fun i h => h.IsKeyIter it d i es.length ep) where
  mem := List.mem_singleton.mpr rfl
  obj := fun i h st b hb => by
    obtain ⟨oi, e, c, dd⟩ := st
    cases List.mem_singleton.mp hb
    exact ⟨oi, e, fun v z => by rw [dd] at z; cases z⟩
  keep := fun i h h' st k => st.at fun oi e => k it (List.mem_singleton.mpr rfl) oi e
  item := by
    intro Y hP hw hK hc i ps s0 τ G E J hf st hg
    subst hP hw hK
    obtain ⟨hd, hi⟩ := hg
    obtain ⟨f0, f1, f2, f3, f4, f5⟩ := hf it (List.mem_singleton.mpr rfl)
    obtain ⟨_, g1, _, ds', ep', g2, g3, ent⟩ := hd.raw J
    rw [ho] at g2; cases g2
    obtain ⟨en, he, r1, _⟩ := ent i es[i] (List.getElem?_eq_getElem hi)
    refine next_key_item st g1 ho g3 he fun h' st' sb => ?_
    have J' : Inv Y ps τ G { s0 with heap := h' } := J.turned (t' := s0.toks) (fun b ob hb e => (sb.2 b hb).trans e) f0 f1 f3 f4 f5
    obtain ⟨oi, e, c, dd⟩ := id st'
    exact ⟨en.key, rfl, go_of (s := { s0 with heap := h' }) e c dd (by decide) ⟨_, G, J', r1, ⟨rfl, es[i], List.getElem?_eq_getElem hi, rfl⟩, st', fun b hb => (hf b hb).1⟩⟩
  done := by
    intro Y hP hw hK hc i ps s0 τ G E J hf st hg
    subst hP hw hK
    obtain ⟨hd, hi⟩ := hg
    obtain ⟨f0, f1, f2, f3, f4, f5⟩ := hf it (List.mem_singleton.mpr rfl)
    obtain ⟨_, g1, _, ds', ep', g2, g3, _⟩ := hd.raw J
    rw [ho] at g2; cases g2
    exact next_key_end (J.ok.hd hc) st g1 ho g3 hi fun h' eb => ⟨rfl, J.turned (t' := s0.toks) (fun b ob hb e => eb b ob hb e) f0 f1 f3 f4 f5⟩
  self := fun A i s0 Q E st h => by
    refine wpAny_pyIter_slot st.typeIs F.slot_dict_keyiterator_iter (wpAny_call_entry F.slot_dict_keyiterator_iter st.typeIs F.entry_dict_keyiterator_iter ?_ (F.args_dict_keyiterator_iter_1 _))
    show wpAny _ _ (ret (.ref it)) _ _ s0
    exact wpAny_pure ⟨.ref it, rfl, "dict_keyiterator", _, st.typeIs, F.slot_dict_keyiterator_next.lookup, h⟩
theorem turnI {elts : List Expr} {kk : Nat} {tp : Pos} (it : Addr) (ho : o.data = .dict ds ep) : Turn P w K (.Tuple elts kk tp) (ItI P w d o es) [it] it (fun i h => ∃ x y, IsItemIter h it d i es.length ep x y) where
  mem := List.mem_singleton.mpr rfl
  obj := fun i h st b hb => by
    obtain ⟨x, y, e⟩ := st
    cases List.mem_singleton.mp hb
    exact ⟨_, e, fun v z => nomatch z⟩
  keep := fun i h h' st k => let ⟨x, y, e⟩ := st; ⟨x, y, k it (List.mem_singleton.mpr rfl) _ e⟩
  item := by
    intro Y hP hw hK hc i ps s0 τ G E J hf st hg
    subst hP hw hK
    obtain ⟨hd, hi⟩ := hg
    obtain ⟨_, g1, gx, ds', ep', g2, g3, ent⟩ := hd.raw J
    rw [ho] at g2; cases g2
    obtain ⟨x, y, hit⟩ := st
    rw [← g3] at hit
    obtain ⟨en, he, r1, r2⟩ := ent i es[i] (List.getElem?_eq_getElem hi)
    have hlt : it < s0.heap.objs.size := Heap.lt_size hit
    have his : i < ds.size := by rw [g3]; exact hi
    have een : ds[i] = en := by
      have := Array.getElem?_eq_getElem his
      rw [he] at this
      exact (Option.some.inj this).symm
    refine wpAny_pyNext_items_item_raw hit ⟨o, g1, gx, ho⟩ his fun h' ho' hT hz hk => ?_
    rw [een] at ho' hT
    refine ⟨_, rfl, wpAny_letOwnedTupleGo_items (s := { s0 with heap := h' }) ho' fun h2 he2 sb => ?_⟩
    have hT2 : h2.get? s0.heap.objs.size = some { cls := .type "tuple", data := .seq #[en.key, en.val] } := (sb.2 _ (Nat.ne_of_gt hlt)).trans hT
    have nw : ObjOk Y.prog Y.w (upd G s0.heap.objs.size (.tup [es[i].1, es[i].2])) h2 s0.heap.objs.size (.tup [es[i].1, es[i].2]) := ⟨(by decide : 2 ≤ sizeLine), [en.key, en.val], .cons r1 (.cons r2 .nil), _, hT2, rfl, _, rfl⟩
    have J' : Inv Y ps τ (upd G s0.heap.objs.size (.tup [es[i].1, es[i].2])) { s0 with heap := h2 } :=
      J.turnedNew (t' := s0.toks) (ch := [it]) (fun b ob hb e => (sb.2 b (fun z => hb (List.mem_singleton.mpr z))).trans (hk b ob (fun z => hb (List.mem_singleton.mpr z)) e)) hf (Nat.le_refl _) nw
    refine ⟨.ref s0.heap.objs.size, _, J', rfl, ⟨_, es[i], List.getElem?_eq_getElem hi, rfl, J.hok.fresh (Nat.le_refl _), rfl⟩, ⟨en.key, en.val, ?_⟩, fun b hb => ?_⟩
    · rw [← g3]; exact he2
    · cases List.mem_singleton.mp hb
      rw [upd_ne (Nat.ne_of_lt hlt)]
      exact (hf it hb).1
  done := by
    intro Y hP hw hK hc i ps s0 τ G E J hf st hg
    subst hP hw hK
    obtain ⟨hd, hi⟩ := hg
    obtain ⟨f0, f1, f2, f3, f4, f5⟩ := hf it (List.mem_singleton.mpr rfl)
    obtain ⟨_, g1, gx, ds', ep', g2, g3, _⟩ := hd.raw J
    rw [ho] at g2; cases g2
    obtain ⟨x, y, hit⟩ := st
    rw [← g3] at hit
    exact wpAny_pyNext_items_end_raw (J.ok.hd hc) hit ⟨o, g1, gx, ho⟩ (by rw [g3]; exact hi) fun h' eb => ⟨rfl, J.turned (t' := s0.toks) (fun b ob hb e => eb b ob hb e) f0 f1 f3 f4 f5⟩
  self := fun A i s0 Q E st h => let ⟨_, _, e⟩ := st; PySem.W.kcp_self e h

/-! ### enumerate of a tuple -/
theorem enum_new1 {v : Value} {o : Obj} {B : Heap → Prop} (b : Begins v o B) :
    Meets (Builtin.«enumerate.__new__» ⟨[.type "enumerate", v], []⟩) (fun _ R s => B s.heap ∧ R (.ok (.ret (.ref (s.heap.push o).objs.size))) { s with heap := (s.heap.push o).push { cls := .type "enumerate", data := .fields #[.none, .bool false, .ref s.heap.objs.size, rawInt 0, .none, .none] } }) :=
  .of_wp fun prog w A R s h => by
    obtain ⟨hp, g, dd, tk, os⟩ := s
    obtain ⟨hB, h⟩ := h
    have hsub := sub_enumerate
    have go : ∀ {A' : Around} {E : Value → Shared → Prop} {Q : Value → Shared → Prop}, Q (.ref hp.objs.size) ⟨hp.push o, g, dd, tk, os⟩ → wpAny (model prog w) A' (pyIter v) Q E ⟨hp, g, dd, tk, os⟩ := fun q => b.iter prog w _ _ ⟨hp, g, dd, tk, os⟩ _ hB q
    wp_walk using go
    refine wpAny_stack_any fun st => wpAny_pure ?_
    split
    · rename_i c _ _ _ _ _
      cases (c == Value.type "enumerate") <;>
      · wp_walk using go
        exact ⟨_, rfl, h⟩
    · wp_walk using go
      exact ⟨_, rfl, h⟩
/-- the tuple at a, each item in a new pair -/
def ItE (K : PySem.W.Frag) (a : Addr) : It :=
  ⟨fun i H => ∃ (xs : List V) (x : V), SqT K H a xs ∧ xs[i]? = some x, fun i H v H' => ∃ T x, v = .ref T ∧ H T = none ∧ H' = upd H T (.tup [.int (i : Nat), x]) ∧ ∀ xs, SqT K H a xs → xs[i]? = some x, fun i H => ∃ xs : List V, SqT K H a xs ∧ xs.length = i⟩
theorem enum_apart {h : Heap} {e it a : Addr} {i : Int} {old : Value} {items : Array Value} (he : IsEnum h e it i old) (ht : h.IsTuple a items) : e ≠ a := fun z => by
  subst z
  obtain ⟨o, ho, hc, _⟩ := ht
  rw [he] at ho; cases ho
  exact absurd (Value.type.inj hc) (by decide)
theorem iter_apart {h : Heap} {it a : Addr} {i : Nat} {items : Array Value} (hi : h.IsTupleIter it a i) (ht : h.IsTuple a items) : a ≠ it := fun z => by
  subst z
  obtain ⟨o, ho, hc, _⟩ := ht
  obtain ⟨o2, ho2, hc2, _⟩ := hi
  rw [ho] at ho2; cases ho2
  rw [hc] at hc2
  exact absurd (Value.type.inj hc2) (by decide)
theorem turnE {elts : List Expr} {kk : Nat} {tp : Pos} (a e it : Addr) : Turn P w K (.Tuple elts kk tp) (ItE K a) [e, it] e (fun i h => (∃ old, IsEnum h e it ((i : Nat) : Int) old) ∧ h.IsTupleIter it a i ∧ e ≠ it) where
  mem := List.mem_cons_self ..
  obj := fun i h st b hb => by
    obtain ⟨⟨old, he⟩, ⟨o, ho, hc, hd⟩, _⟩ := st
    rcases List.mem_cons.mp hb with z | z
    · rw [z]; exact ⟨_, he, fun v q => nomatch q⟩
    · rw [List.mem_singleton.mp z]; exact ⟨o, ho, fun v q => by rw [hd] at q; cases q⟩
  keep := fun i h h' st k => let ⟨⟨old, he⟩, hi, hne⟩ := st; ⟨⟨old, k e (by simp) _ he⟩, hi.at fun o q => k it (by simp) o q, hne⟩
  item := by
    intro Y hP hw hK hc i ps s0 τ G E J hf st hg
    subst hP hw hK
    obtain ⟨⟨old, he⟩, hit, hne⟩ := st
    obtain ⟨xs, x, hq, hx⟩ := hg
    obtain ⟨us, rv, tp', hz⟩ := J.tuple hq
    have tp2 : s0.heap.IsTuple a us.toArray := tp'
    obtain ⟨u, hu, ru⟩ := rv.get hx
    have hel : e < s0.heap.objs.size := Heap.lt_size he
    have hil : it < s0.heap.objs.size := by obtain ⟨_, q, _⟩ := hit; exact Heap.lt_size q
    have hil' : i < us.toArray.size := by simpa using (List.getElem?_eq_some_iff.mp hu).1
    have D := Draws.tuple (prog := Y.prog) (w := Y.w) (A := Y.A.in1) (J.ok.hd hc) it a (iter_apart hit tp2) us.toArray
    refine wpAny_pyNext_enum_itemD D he ⟨hit, tp2⟩ hil' hne (by simp only [List.mem_cons, List.not_mem_nil, or_false, not_or]; exact ⟨hne, enum_apart he tp2⟩) fun z h' tk hz' ho hst hT hsz hk => ?_
    have ez : z = u := by
      have h1 : us.toArray[i]? = some z := hz'
      have h2 : us.toArray[i]? = some u := by simpa using hu
      rw [h1] at h2
      exact Option.some.inj h2
    subst ez
    refine ⟨_, rfl, wpAny_letOwnedTupleGo_enum (s := { s0 with heap := h', toks := tk + 1 }) ho fun h2 he2 sb => ?_⟩
    have hT2 : h2.get? s0.heap.objs.size = some { cls := .type "tuple", data := .seq #[.int i tk, z] } := (sb.2 _ (Nat.ne_of_gt hel)).trans hT
    have nw : ObjOk Y.prog Y.w (upd G s0.heap.objs.size (.tup [.int (i : Nat), x])) h2 s0.heap.objs.size (.tup [.int (i : Nat), x]) := ⟨(by decide : 2 ≤ sizeLine), [.int i tk, z], .cons ⟨_, rfl⟩ (.cons ru .nil), _, hT2, rfl, _, rfl⟩
    have J' : Inv Y ps τ (upd G s0.heap.objs.size (.tup [.int (i : Nat), x])) { s0 with heap := h2, toks := tk + 1 } :=
      J.turnedNew (ch := [e, it]) (fun b ob hb q => (sb.2 b (fun z => hb (by simp [z]))).trans (hk b ob (fun z => hb (by simp [z])) (fun z => hb (by simp [z])) q)) hf (Nat.le_refl _) nw
    refine ⟨.ref s0.heap.objs.size, _, J', rfl, ⟨_, x, rfl, J.hok.fresh (Nat.le_refl _), rfl, fun ys hy => by rw [J.tuple_inj hy hq]; exact hx⟩, ⟨⟨z, ?_⟩, hst.1.at fun o q => (sb.2 it (Ne.symm hne)).trans q, hne⟩, fun b hb => ?_⟩
    · have e1 : ((i + 1 : Nat) : Int) = (i : Int) + 1 := by omega
      rw [e1]; exact he2
    · have hb' : b < s0.heap.objs.size := by
        rcases List.mem_cons.mp hb with z | z
        · rw [z]; exact hel
        · rw [List.mem_singleton.mp z]; exact hil
      rw [upd_ne (Nat.ne_of_lt hb')]
      exact (hf b hb).1
  done := by
    intro Y hP hw hK hc i ps s0 τ G E J hf st hg
    subst hP hw hK
    obtain ⟨⟨old, he⟩, hit, hne⟩ := st
    obtain ⟨xs, hq, hx⟩ := hg
    obtain ⟨us, rv, tp', hz⟩ := J.tuple hq
    have tp2 : s0.heap.IsTuple a us.toArray := tp'
    obtain ⟨f0, f1, f2, f3, f4, f5⟩ := hf it (by simp)
    have hl := rv.length
    have D := Draws.tuple (prog := Y.prog) (w := Y.w) (A := Y.A.in1) (J.ok.hd hc) it a (iter_apart hit tp2) us.toArray
    have hi : i = us.toArray.size := by simp; omega
    subst hi
    refine wpAny_pyNext_enum_endD D he ⟨hit, tp2⟩ fun h' eb => ⟨rfl, J.turned (t' := s0.toks) (fun b o hb q => eb b o hb q) f0 f1 f3 f4 f5⟩
  self := fun A i s0 Q E st h => let ⟨⟨_, he⟩, _⟩ := st; wpAny_pyIter_enum he h
theorem pi_enumT {e : Expr} {ta : TA} {p pos tp : Pos} {elts : List Expr} {kk : Nat} (hg : Gl X "enumerate") (hm : X.mg "enumerate" = none) (ha : PA X [e] ta) (hs : starEach [e] X.env = [(false, eval e X.env)]) :
    PI X (.Tuple elts kk tp) (.Call (.Name "enumerate" p) [e] [] pos) (fun σ H R => ta σ H fun vs H1 => ∃ a xs, vs = [.ref a] ∧ ((SqL X.K H1 a xs ∧ R (Ite X.K a) H1) ∨ (SqT X.K H1 a xs ∧ R (ItE X.K a) H1))) := by
  refine ⟨fun ps s0 τ G R J h => Call_ (ld_blt J hg hm boot_enumerate (PyProof.Rows.callWith_type1 (thn (ha.run pos ps s0 τ G _ J h) fun us s1 y => ?_) hs rfl))⟩
  obtain ⟨vs, G1, J1, r1, a, xs, rfl, q⟩ := y
  obtain ⟨u, rfl, ru⟩ := vals1 r1
  cases ru
  have two : ∀ {h' : Heap} {T : Nat → Heap → Prop} {It0 : It}, (∀ b o, s1.heap.get? b = some o → h'.get? b = some o) → Turn X.prog X.w X.K (.Tuple elts kk tp) It0 [s1.heap.objs.size + 1, s1.heap.objs.size] (s1.heap.objs.size + 1) T → T 0 h' → R It0 G1 →
      PIE X ps τ (.Tuple elts kk tp) R (.ref (s1.heap.objs.size + 1)) { s1 with heap := h' } := fun hk tr t0 q => by
    refine ⟨s1.heap.objs.size + 1, [s1.heap.objs.size + 1, s1.heap.objs.size], _, _, G1, rfl, J1.kept (t' := s1.toks) hk, tr, t0, fun b hb => ?_, q⟩
    have hle : s1.heap.objs.size ≤ b := by
      rcases List.mem_cons.mp hb with z | z
      · rw [z]; exact Nat.le_succ _
      · rw [List.mem_singleton.mp z]; exact Nat.le_refl _
    exact J1.fpOk hle (J1.hok.fresh hle)
  rcases q with ⟨hq, q⟩ | ⟨hq, q⟩
  · obtain ⟨ws, _, pl, _⟩ := J1.list hq
    refine call_enumerate_list pl.isList fun h' he hit hsz hk => wpAny_pyIter_enum he ?_
    exact two hk (turn_enum a _ _) ⟨⟨.none, he⟩, hit, Nat.succ_ne_self _⟩ q
  · obtain ⟨ws, _, tpl, _⟩ := J1.tuple hq
    have B := begins_tuple a ws.toArray
    refine callType_new F.called_enumerate (by decide) (F.typeCall_enumerate_1 _) (F.newCall_enumerate_1 _) (fun obj => F.args_object_init_2 obj _) F.entry_enumerate_new (enum_new1 B) ⟨tpl, ?_⟩
    have hz : (s1.heap.push { cls := .type "tuple_iterator", data := .fields #[.ref a, .int 0 0] }).objs.size = s1.heap.objs.size + 1 := Heap.size_push ..
    show _ ∧ _
    rw [hz]
    have he : IsEnum ((s1.heap.push { cls := .type "tuple_iterator", data := .fields #[.ref a, .int 0 0] }).push { cls := .type "enumerate", data := .fields #[.none, .bool false, .ref s1.heap.objs.size, rawInt 0, .none, .none] }) (s1.heap.objs.size + 1) s1.heap.objs.size 0 .none := by
      have := Heap.get?_push_size (s1.heap.push { cls := .type "tuple_iterator", data := .fields #[.ref a, .int 0 0] }) (o := { cls := .type "enumerate", data := .fields #[.none, .bool false, .ref s1.heap.objs.size, rawInt 0, .none, .none] }) rfl
      rw [hz] at this
      exact this
    refine ⟨⟨_, he, rfl⟩, wpAny_pyIter_enum he ?_⟩
    exact two (fun b o x => Heap.get?_push_of_some _ (Heap.get?_push_of_some _ x)) (turnE a _ _) ⟨⟨.none, he⟩, ⟨_, Heap.get?_push_of_some _ (Heap.get?_push_size _ rfl), rfl, rfl⟩, Nat.succ_ne_self _⟩ q
end
end FJ

set_option Elab.async false
set_option linter.all false
set_option autoImplicit false
set_option maxRecDepth 100000
set_option maxHeartbeats 0
/-! Ev4a: what the evaluator says, as readings of the layer. -/
namespace FJ
open PySem PySem.Spec L2
open PyProof.Rows hiding St

/-- the outcome is a result with C -/
def Wp {α : Type} (o : Out α) (C : α → Rh → Prop) : Prop := match o with
  | .ok a r => C a r
  | _ => False
theorem Wp.bind {α β : Type} {o : Out α} {f : α → Rh → Out β} {C : β → Rh → Prop} (h : Wp (o.bind f) C) : Wp o fun a r => Wp (f a r) C := by
  cases o with
  | ok a r => exact h
  | exc c x => exact h
  | stuck => exact h
theorem Wp.mono {α : Type} {o : Out α} {C D : α → Rh → Prop} (h : Wp o C) (i : ∀ a r, C a r → D a r) : Wp o D := by
  cases o with
  | ok a r => exact i a r h
  | exc c x => exact h
  | stuck => exact h
theorem Wp.dat {β : Type} {o : Out Val} {f : PyData → Rh → Out β} {C : β → Rh → Prop} (h : Wp (dat o f) C) : Wp o fun v r => ∃ x, v = .d x ∧ Wp (f x r) C := by
  refine Wp.mono (Wp.bind h) fun v r q => ?_
  cases v with
  | d x => exact ⟨x, rfl, q⟩
  | _ => exact q.elim
theorem Wp.boo {β : Type} {o : Out Val} {f : Bool → Rh → Out β} {C : β → Rh → Prop} (h : Wp (boo o f) C) : Wp o fun v r => ∃ b, v = .d (.bool b) ∧ Wp (f b r) C := by
  refine Wp.mono (Wp.bind h) fun v r q => ?_
  cases v with
  | d x => cases x with
    | bool b => exact ⟨b, rfl, q⟩
    | _ => exact q.elim
  | _ => exact q.elim
theorem Wp.pkd {β : Type} {o : Out Val} {f : PyData → Rh → Out β} {C : β → Rh → Prop} (h : Wp (pkd o f) C) : Wp o fun v r => ∃ x, v.peek r = some x ∧ Wp (f x r) C := by
  refine Wp.mono (Wp.bind h) fun v r q => ?_
  cases e : v.peek r with
  | none => rw [e] at q; exact q.elim
  | some x => rw [e] at q; exact ⟨x, rfl, q⟩
theorem Wp.pk2 {β : Type} {v u : Val} {r : Rh} {f : PyData → PyData → Out β} {C : β → Rh → Prop} (h : Wp (pk2 v u r f) C) : ∃ x y, v.peek r = some x ∧ u.peek r = some y ∧ Wp (f x y) C := by
  unfold FJ.pk2 at h
  cases e : v.peek r with
  | none => rw [e] at h; exact h.elim
  | some x =>
    cases e2 : u.peek r with
    | none => rw [e, e2] at h; exact h.elim
    | some y => rw [e, e2] at h; exact ⟨x, y, rfl, rfl, h⟩
theorem Wp.ofO {o : Option Val} {r : Rh} {C : Val → Rh → Prop} (h : Wp (ofO o r) C) : (∃ x, o = some (.d x) ∧ C (.d x) r) ∨ ∃ x, o = some (.fresh x) ∧ C (.fresh x) r := by
  cases o with
  | none => exact h.elim
  | some v => cases v with
    | d x => exact .inl ⟨x, rfl, h⟩
    | fresh x => exact .inr ⟨x, rfl, h⟩
    | _ => exact h.elim
theorem Wp.boos {o : Out Val} {C : Bool → Rh → Prop} (h : Wp o fun v r => ∃ b, v = .d (.bool b) ∧ C b r) : Wp (FJ.boo o fun b r => .ok b r) C := by
  cases o with
  | ok v r => obtain ⟨b, rfl, q⟩ := h; exact q
  | exc c x => exact h
  | stuck => exact h

def hasD (r : Rh) (i : Nat) : Prop := (∃ y, r[i]? = some (Slot.ow y)) ∨ ∃ y, r[i]? = some (Slot.fz y)
/-- an expression went from r, H to r', H' -/
structure Stp (P : Program) (w : World) (K : PySem.W.Frag) (σ : St) (r r' : Rh) (H H' : Hp) : Prop where
  ext : Ext (Own σ r) H H'
  env : EnvR P w K H' σ r'
  ow : ∀ (i : Nat) y, r'[i]? = some (Slot.ow y) → ∃ z, r[i]? = some (Slot.ow z)
  dat : ∀ i, hasD r i → hasD r' i
/-- a new thing is new -/
def New (H : Hp) (u : V) (v : Val) : Prop := ∀ x, v = .fresh x → ∃ a, u = .ref a ∧ H a = none
section
variable {P : Program} {w : World} {K : PySem.W.Frag} {σ : St} {r r' r1 r2 : Rh} {H H' H1 H2 : Hp}
theorem Stp.refl (e : EnvR P w K H σ r) : Stp P w K σ r r H H := ⟨Ext.refl _ _, e, fun i y h => ⟨y, h⟩, fun i h => h⟩
theorem Stp.grow (e : EnvR P w K H σ r) (g : Grow H H') : Stp P w K σ r r H H' := ⟨g.ext _, e.grow g, fun i y h => ⟨y, h⟩, fun i h => h⟩
theorem Stp.own (S : Stp P w K σ r r' H H') {a : Addr} (h : Own σ r' a) : Own σ r a := by
  obtain ⟨i, ⟨d, h1⟩, h2⟩ := h
  exact ⟨i, S.ow i d h1, h2⟩
theorem Stp.trans (S : Stp P w K σ r r1 H H1) (T : Stp P w K σ r1 r2 H1 H2) : Stp P w K σ r r2 H H2 :=
  ⟨S.ext.trans T.ext fun c z => .inl (S.own z), T.env, fun i y h => let ⟨z, hz⟩ := T.ow i y h; S.ow i z hz, fun i h => T.dat i (S.dat i h)⟩
theorem Stp.none (S : Stp P w K σ r r' H H') {a : Addr} (h : H' a = .none) : H a = .none := by
  cases q : H a with
  | none => rfl
  | some o => exact absurd h (S.ext.dom a (by rw [q]; exact fun z => nomatch z))
theorem New.of (S : Stp P w K σ r r' H H') {u : V} {v : Val} (n : New H' u v) : New H u v := fun x e => by
  obtain ⟨a, e1, e2⟩ := n x e
  exact ⟨a, e1, S.none e2⟩
theorem New.d {u : V} {x : PyData} : New H u (.d x) := fun _ e => nomatch e
theorem Stp.val (e : EnvR P w K H σ r) (S : Stp P w K σ r r' H H') {u : V} {v : Val} (h : ValR P w K H σ r u v) : ValR P w K H' σ r' u v :=
  h.later e S.ext (fun a z => S.own z) fun i z => S.dat i z
theorem Stp.later (e : EnvR P w K H σ r) (S : Stp P w K σ r r' H H') : Later H H' := S.ext.later e.ownOk
theorem notOwn (e : EnvR P w K H σ r) {a : Addr} (h : H a = none) : ¬ Own σ r a := fun z => by
  obtain ⟨u, q, _⟩ := e.ownOk a z
  rw [h] at q; cases q

/-- the reading of an expression -/
def tE (P : Program) (w : World) (K : PySem.W.Frag) (m : Rh → Out Val) : TE := fun σ H Q => ∃ r, EnvR P w K H σ r ∧ Wp (m r) fun v r' => ∀ u H', Stp P w K σ r r' H H' → ValR P w K H' σ r' u v → New H u v → Q u H'
/-- a test -/
def tT (P : Program) (w : World) (K : PySem.W.Frag) (m : Rh → Out Bool) : TT := fun σ H Q => ∃ r, EnvR P w K H σ r ∧ Wp (m r) fun b r' => ∀ H', Stp P w K σ r r' H H' → Q b H'
/-- frozen data in a row -/
def tK (P : Program) (w : World) (K : PySem.W.Frag) (m : Rh → Out (List PyData)) : TA := fun σ H Q => ∃ r, EnvR P w K H σ r ∧ Wp (m r) fun ds r' => ∀ us H', Stp P w K σ r r' H H' → RepFs P w K H' us ds → Q us H'
/-- arguments -/
def fAddr : List V → List Val → List Addr
  | .ref a :: us, .fresh _ :: vs => a :: fAddr us vs
  | _ :: us, _ :: vs => fAddr us vs
  | _, _ => []
def NewL (H : Hp) (us : List V) (vs : List Val) : Prop := (fAddr us vs).Nodup ∧ ∀ a ∈ fAddr us vs, H a = none
def tA (P : Program) (w : World) (K : PySem.W.Frag) (m : Rh → Out (List Val)) : TA := fun σ H Q => ∃ r, EnvR P w K H σ r ∧ Wp (m r) fun vs r' => ∀ us H', Stp P w K σ r r' H H' → Paired (ValR P w K H' σ r') us vs → NewL H us vs → Q us H'
def tO (P : Program) (w : World) (K : PySem.W.Frag) (m : Rh → Out (Option Int)) : TO := fun σ H Q => ∃ r, EnvR P w K H σ r ∧ Wp (m r) fun o r' => ∀ H', Stp P w K σ r r' H H' → Q o H'

/-- a result's promise, from the wish -/
theorem gets {Q : VK} {v : Val} (S : Stp P w K σ r r' H H') (hv : (∃ x, v = .d x) ∨ ∃ x, v = .fresh x) (q : ∀ u H'', Stp P w K σ r r' H H'' → ValR P w K H'' σ r' u v → New H u v → Q u H'') : GetsV P w K H' v Q := by
  rcases hv with ⟨x, rfl⟩ | ⟨x, rfl⟩
  · exact fun u G g hu => q u G (S.trans (Stp.grow S.env g)) (.d hu) New.d
  · refine fun a G g hn hu => q (.ref a) G (S.trans (Stp.grow S.env g)) (.fresh hu ?_) fun y e => ⟨a, rfl, S.none hn⟩
    exact notOwn S.env hn
end

section
variable {X : Cx}
theorem _root_.L2.PE.imp {e : Expr} {t t' : TE} (h : PE X e t) (i : ∀ σ H Q, t' σ H Q → t σ H Q) : PE X e t' := ⟨fun ps s σ H Q I q => h.run ps s σ H Q I (i σ H Q q)⟩
theorem _root_.L2.PT.imp {e : Expr} {t t' : TT} (h : PT X e t) (i : ∀ σ H Q, t' σ H Q → t σ H Q) : PT X e t' := ⟨fun ps s σ H Q I q => h.run ps s σ H Q I (i σ H Q q)⟩
theorem _root_.L2.PW.imp {e : Expr} {t t' : TT} (h : PW X e t) (i : ∀ σ H Q, t' σ H Q → t σ H Q) : PW X e t' := ⟨fun wh ps s σ H Q I q => h.run wh ps s σ H Q I (i σ H Q q)⟩
theorem _root_.L2.PA.imp {e : List Expr} {t t' : TA} (h : PA X e t) (i : ∀ σ H Q, t' σ H Q → t σ H Q) : PA X e t' := ⟨fun pos ps s σ H Q I q => h.run pos ps s σ H Q I (i σ H Q q)⟩
theorem _root_.L2.PO.imp {e : Option Expr} {t t' : TO} (h : PO X e t) (i : ∀ σ H Q, t' σ H Q → t σ H Q) : PO X e t' := ⟨fun ps s σ H Q I q => h.run ps s σ H Q I (i σ H Q q)⟩
theorem _root_.L2.PI.imp {tg e : Expr} {t t' : TI} (h : PI X tg e t) (i : ∀ σ H Q, t' σ H Q → t σ H Q) : PI X tg e t' := ⟨fun ps s σ H Q I q => h.run ps s σ H Q I (i σ H Q q)⟩
theorem _root_.L2.PG.imp {e : Expr} {t t' : TG} (h : PG X e t) (i : ∀ v σ H Q, t' v σ H Q → t v σ H Q) : PG X e t' := ⟨fun ps s σ H v u Q I r q => h.run ps s σ H v u Q I r (i v σ H Q q)⟩
theorem _root_.L2.PGs.imp {e : List Expr} {t t' : TGs} (h : PGs X e t) (i : ∀ v σ H Q, t' v σ H Q → t v σ H Q) : PGs X e t' := ⟨fun ps s σ H v u Q I r q => h.run ps s σ H v u Q I r (i v σ H Q q)⟩
theorem _root_.L2.PS.imp {e : Stmt} {t t' : TS} (h : PS X e t) (i : ∀ D σ H, t' D σ H → t D σ H) : PS X e t' := ⟨fun ps s σ H D I q => h.run ps s σ H D I (i D σ H q)⟩
theorem _root_.L2.PSs.imp {e : List Stmt} {t t' : TS} (h : PSs X e t) (i : ∀ D σ H, t' D σ H → t D σ H) : PSs X e t' := ⟨fun ps s σ H D I q => h.run ps s σ H D I (i D σ H q)⟩
variable {P : Program} {w : World} {K : PySem.W.Frag} {σ : St} {H : Hp}
/-- an expression's value, wanted otherwise -/
theorem tE.imp {m : Rh → Out Val} {Q Q' : VK} (h : tE P w K m σ H Q) (i : ∀ u G, Q u G → Q' u G) : tE P w K m σ H Q' := by
  obtain ⟨r, e, h⟩ := h
  exact ⟨r, e, h.mono fun v r' q u G S V N => i u G (q u G S V N)⟩
/-- two expressions, one after another -/
theorem two {ma mb : Rh → Out Val} {α : Type} {f : Val → Val → Rh → Out α} {C : α → Rh → Prop} {R : V → V → Hp → Prop} {r : Rh} (e : EnvR P w K H σ r) (h : Wp ((ma r).bind fun v r1 => (mb r1).bind fun u r2 => f v u r2) C)
    (k : ∀ v u r2 x y H2, Stp P w K σ r r2 H H2 → ValR P w K H2 σ r2 x v → ValR P w K H2 σ r2 y u → Wp (f v u r2) C → R x y H2) : tE P w K ma σ H fun x H1 => tE P w K mb σ H1 fun y H2 => R x y H2 :=
  ⟨r, e, (Wp.bind h).mono fun v r1 h1 x H1 S1 V1 N1 => ⟨r1, S1.env, (Wp.bind h1).mono fun u r2 h2 y H2 S2 V2 N2 => k v u r2 x y H2 (S1.trans S2) (S2.val S1.env V1) V2 h2⟩⟩
end
end FJ

set_option Elab.async false
set_option linter.all false
set_option autoImplicit false
set_option maxRecDepth 100000
set_option maxHeartbeats 0
/-! Ev4b: expressions: names, freezing, operators, displays. -/
namespace FJ
open PySem PySem.Spec L2
open PyProof.Rows hiding St

section
variable {X : Cx} {pins : List (Addr × Obj)} {σ : St} {H H' : Hp} {s : Shared} {r r' : Rh}
/-- a thing is frozen: nobody owns it by name -/
theorem freeze_new {a : Addr} {x : PyData} (S : Stp X.prog X.w X.K σ r r' H H') (I : Inv X pins σ H' s) (ro : RepO X.prog X.w X.K H' a x) (no : ¬ Own σ r' a) (nw : H a = none) :
    ∃ H2, Inv X pins σ H2 s ∧ Stp X.prog X.w X.K σ r r' H H2 ∧ RepF X.prog X.w X.K H2 (.ref a) x := by
  obtain ⟨u, hu, ow⟩ := ro.at_
  obtain ⟨od, J⟩ := I.lock hu ow.mut
  have lt : Later H' (upd H' a (.frz od u)) := ow.upd hu
  refine ⟨_, J, ⟨⟨fun b o e n t => ?_, fun b h => ?_⟩, S.env.later lt fun b hb => upd_ne (fun z => no (z ▸ hb)), S.ow, S.dat⟩, ro.frozen lt hu upd_same⟩
  · rw [upd_ne (fun z => by subst z; rw [nw] at e; cases e)]
    exact S.ext.keep b o e n t
  · by_cases hb : b = a
    · rw [hb, upd_same]; exact fun z => nomatch z
    · rw [upd_ne hb]; exact S.ext.dom b h
theorem freeze_own {i : Nat} {a : Addr} {x : PyData} (S : Stp X.prog X.w X.K σ r r' H H') (I : Inv X pins σ H' s) (hi : r'[i]? = some (.ow x)) (ha : σ[i]? = some (some (.ref a))) :
    ∃ H2, Inv X pins σ H2 s ∧ Stp X.prog X.w X.K σ r (r'.set i (.fz x)) H H2 ∧ RepF X.prog X.w X.K H2 (.ref a) x := by
  obtain ⟨a', ha', ro, ow'⟩ := S.env.owned hi
  rw [ha] at ha'; cases ha'
  obtain ⟨u, hu, ow⟩ := ro.at_
  obtain ⟨od, J⟩ := I.lock hu ow.mut
  have lt : Later H' (upd H' a (.frz od u)) := ow.upd hu
  have rf : RepF X.prog X.w X.K (upd H' a (.frz od u)) (.ref a) x := ro.frozen lt hu upd_same
  have own : Own σ r a := S.own ⟨i, ow'⟩
  have hl := (List.getElem?_eq_some_iff.mp hi).1
  refine ⟨_, J, ⟨⟨fun b o e n t => ?_, fun b h => ?_⟩, S.env.own_set hi ha lt (fun b hb => .inl (upd_ne hb)) (.fz rf), fun j y h => ?_, fun j h => ?_⟩, rf⟩
  · rw [upd_ne (fun z => n (by rw [z]; exact own))]
    exact S.ext.keep b o e n t
  · by_cases hb : b = a
    · rw [hb, upd_same]; exact fun z => nomatch z
    · rw [upd_ne hb]; exact S.ext.dom b h
  · by_cases hj : j = i
    · subst hj
      rw [List.getElem?_set_self hl] at h
      cases h
    · rw [List.getElem?_set_ne (Ne.symm hj)] at h
      exact S.ow j y h
  · by_cases hj : j = i
    · subst hj
      exact .inr ⟨x, List.getElem?_set_self hl⟩
    · have := S.dat j h
      unfold hasD at this ⊢
      rw [List.getElem?_set_ne (Ne.symm hj)]
      exact this
theorem keep_ow {i : Nat} {x : PyData} (h : r[i]? = some (.ow x)) : (Val.bor i).keep r = .ok (.d x) (r.set i (.fz x)) := by simp [Val.keep, h]
theorem keep_fz {i : Nat} {x : PyData} (h : r[i]? = some (.fz x)) : (Val.bor i).keep r = .ok (.d x) r := by simp [Val.keep, h]
theorem pe_keep {e : Expr} {m : Rh → Out Val} (h : PE X e (tE X.prog X.w X.K m)) : PE X e (tE X.prog X.w X.K fun r => (m r).bind fun v r1 => v.keep r1) := by
  refine ⟨fun ps s0 τ G Q J hq => ?_⟩
  obtain ⟨r, en, hw⟩ := hq
  have hw := Wp.bind hw
  refine thn (h.run ps s0 τ G (fun u G1 => ∃ v r1, Stp X.prog X.w X.K τ r r1 G G1 ∧ ValR X.prog X.w X.K G1 τ r1 u v ∧ New G u v ∧ Wp (v.keep r1) fun v2 r2 => ∀ u2 G2, Stp X.prog X.w X.K τ r r2 G G2 → ValR X.prog X.w X.K G2 τ r2 u2 v2 → New G u2 v2 → Q u2 G2) J ⟨r, en, hw.mono fun v r1 q u G1 S V N => ⟨v, r1, S, V, N, q⟩⟩) fun u' s1 z => ?_
  obtain ⟨u, G1, J1, ru, v, r1, S, V, N, q⟩ := z
  cases V with
  | d hx => exact ⟨u, G1, J1, ru, q u G1 S (.d hx) New.d⟩
  | @fresh a x ro no =>
    obtain ⟨a', e1, nw⟩ := N x rfl
    cases e1
    obtain ⟨G2, J2, S2, rf⟩ := freeze_new S J1 ro no nw
    exact ⟨_, G2, J2, ru, q _ G2 S2 (.d rf) New.d⟩
  | @bor i v hs hr =>
    rcases hr with ⟨x, hx⟩ | ⟨x, hx⟩
    · rw [keep_ow hx] at q
      obtain ⟨a, ha, _, _⟩ := S.env.owned hx
      rw [hs] at ha; cases ha
      obtain ⟨G2, J2, S2, rf⟩ := freeze_own S J1 hx hs
      exact ⟨_, G2, J2, ru, q _ G2 S2 (.d rf) New.d⟩
    · rw [keep_fz hx] at q
      obtain ⟨b, hb, rf⟩ := S.env.frozen hx
      rw [hs] at hb; cases hb
      exact ⟨_, G1, J1, ru, q _ G1 S (.d rf) New.d⟩
  | fn x => exact ⟨_, G1, J1, ru, q _ G1 S (.fn x) fun y e => nomatch e⟩
  | scr h => exact ⟨_, G1, J1, ru, q _ G1 S (.scr h) fun y e => nomatch e⟩
variable (Φ : Str → List FJ.Slot → Res)
theorem e_fz {e : Expr} {x : IE} (h : PE X e (tE X.prog X.w X.K (den Φ x))) : PE X e (tE X.prog X.w X.K (den Φ (.fz x))) := (pe_keep h).imp fun τ G Q q => by
  obtain ⟨r, en, hw⟩ := q
  refine ⟨r, en, ?_⟩
  have e1 : den Φ (.fz x) r = (den Φ x r).bind fun v r1 => v.keep r1 := by rw [den]
  rw [e1] at hw
  exact hw
theorem e_pk {i : Nat} {x : Str} {pos : Pos} (hN : X.N[i]? = some x) (hv : Vis X.env.scope x) (hd : (x == ("__debug__" : Str)) = false) (hc : (x == ("__classdict__" : Str)) = false) : PE X (.Name x pos) (tE X.prog X.w X.K (den Φ (.pk i))) :=
  (pe_var hN hv hd hc).imp fun τ G Q q => by
    obtain ⟨r, en, hw⟩ := q
    rw [den] at hw
    cases hs : r[i]? with
    | none => rw [hs] at hw; exact hw.elim
    | some sl =>
      rw [hs] at hw
      cases sl with
      | un => exact hw.elim
      | fz d =>
        obtain ⟨v, e1, rf⟩ := en.frozen hs
        exact ⟨v, e1, hw v G (Stp.refl en) (.d rf) New.d⟩
      | ow d =>
        obtain ⟨a, e1, _, _⟩ := en.owned hs
        exact ⟨_, e1, hw _ G (Stp.refl en) (.bor e1 (.inl ⟨d, hs⟩)) fun y e => nomatch e⟩
      | fn z =>
        obtain ⟨v, e1, rs⟩ := en.rep i _ hs (fun z => nomatch z)
        cases rs
        exact ⟨_, e1, hw _ G (Stp.refl en) (.fn z) fun y e => nomatch e⟩
      | scr ns =>
        obtain ⟨v, e1, rs⟩ := en.rep i _ hs (fun z => nomatch z)
        cases rs with
        | scr hh => exact ⟨_, e1, hw _ G (Stp.refl en) (.scr hh) fun y e => nomatch e⟩
theorem e_loc {i : Nat} {x : Str} {pos : Pos} (hN : X.N[i]? = some x) (hv : Vis X.env.scope x) (hd : (x == ("__debug__" : Str)) = false) (hc : (x == ("__classdict__" : Str)) = false) : PE X (.Name x pos) (tE X.prog X.w X.K (den Φ (.loc i))) :=
  (pe_keep (e_pk Φ hN hv hd hc)).imp fun τ G Q q => by
    obtain ⟨r, en, hw⟩ := q
    refine ⟨r, en, ?_⟩
    have e1 : den Φ (.loc i) r = (den Φ (.pk i) r).bind fun v r1 => v.keep r1 := by
      rw [den, den]
      cases hs : r[i]? with
      | none => rfl
      | some sl => cases sl <;> first | rfl | (exact (keep_ow hs).symm)
    rw [e1] at hw
    exact hw
/-- a value that is known -/
theorem e_known {e : Expr} {v : V} {d : PyData} (h : PE X e (tC v)) (hr : ∀ G, RepF X.prog X.w X.K G v d) : PE X e (tE X.prog X.w X.K (den Φ (.cst d))) := h.imp fun τ G Q q => by
  obtain ⟨r, en, hw⟩ := q
  rw [den] at hw
  exact hw v G (Stp.refl en) (.d (hr G)) New.d
theorem e_fnc {e : Expr} {x : Str} (h : PE X e (tC (.ref (He.ga X.K x)))) : PE X e (tE X.prog X.w X.K (den Φ (.fnc x))) := h.imp fun τ G Q q => by
  obtain ⟨r, en, hw⟩ := q
  rw [den] at hw
  exact hw _ G (Stp.refl en) (.fn x) fun y e => nomatch e
theorem e_bin {a b : Expr} {x y : IE} {o : Bop} {pos : Pos} (ha : PE X a (tE X.prog X.w X.K (den Φ x))) (hb : PE X b (tE X.prog X.w X.K (den Φ y))) : PE X (.BinOp a (opOf o) b pos) (tE X.prog X.w X.K (den Φ (.bin o x y))) :=
  (pe_op (op_bin o) ha hb).imp fun τ G Q q => by
    obtain ⟨r, en, hw⟩ := q
    rw [den] at hw
    refine two en hw fun v u r2 z1 z2 G2 S V U h => ?_
    obtain ⟨d1, d2, e1, e2, h⟩ := Wp.pk2 h
    rcases Wp.ofO h with ⟨d, hd, q⟩ | ⟨d, hd, q⟩
    · exact ⟨d1, d2, _, V.peek S.env e1, U.peek S.env e2, hd, gets S (.inl ⟨d, rfl⟩) q⟩
    · exact ⟨d1, d2, _, V.peek S.env e1, U.peek S.env e2, hd, gets S (.inr ⟨d, rfl⟩) q⟩
theorem e_neg {a : Expr} {x : IE} {pos : Pos} (ha : PE X a (tE X.prog X.w X.K (den Φ x))) : PE X (.UnaryOp .USub a pos) (tE X.prog X.w X.K (den Φ (.neg x))) :=
  (pe_un un_neg ha).imp fun τ G Q q => by
    obtain ⟨r, en, hw⟩ := q
    rw [den] at hw
    refine ⟨r, en, (Wp.dat hw).mono fun v r1 h u G1 S V N => ?_⟩
    obtain ⟨d, rfl, h⟩ := h
    cases V with
    | d hx =>
      cases d with
      | int i =>
        cases hx
        exact ⟨i, rfl, h _ G1 S (.d (.int _)) New.d⟩
      | _ => exact h.elim
theorem RepF.blI {P : Program} {w : World} {K : PySem.W.Frag} {G : Hp} {v : V} {b : Bool} (h : RepF P w K G v (.bool b)) : v = .bl b := by cases h; rfl
/-- a comparison's end -/
theorem cmp_end {P : Program} {w : World} {K : PySem.W.Frag} {o : Cop} {v u : Val} {r2 : Rh} {z1 z2 : V} {G2 : Hp} {C : Val → Rh → Prop} {R : VK} (en : EnvR P w K G2 σ r2) (V : ValR P w K G2 σ r2 z1 v) (U : ValR P w K G2 σ r2 z2 u)
    (h : Wp (pk2 v u r2 fun x y => ofO ((cmpD o x y).map fun t => Val.d (.bool t)) r2) C) (q : ∀ b, C (.d (.bool b)) r2 → R (.bl b) G2) : rCmp P w K o z1 z2 G2 R := by
  obtain ⟨d1, d2, e1, e2, h⟩ := Wp.pk2 h
  cases e3 : cmpD o d1 d2 with
  | none => rw [e3] at h; exact h.elim
  | some t =>
    rw [e3] at h
    exact ⟨d1, d2, t, V.peek en e1, U.peek en e2, e3, q t h⟩
theorem e_cmp (hu : X.A.units + 200 < cLine) {a b : Expr} {x y : IE} {o : Cop} {pos : Pos} (ha : PE X a (tE X.prog X.w X.K (den Φ x))) (hb : PE X b (tE X.prog X.w X.K (den Φ y))) (hm : behindInMarks (cmpOf o) b = false) :
    PE X (.Compare a [cmpOf o] [b] pos) (tE X.prog X.w X.K (den Φ (.cmp o x y))) := (pe_cmpR (op_cmp o hu) ha hb hm).imp fun τ G Q q => by
  obtain ⟨r, en, hw⟩ := q
  rw [den] at hw
  exact two en hw fun v u r2 z1 z2 G2 S V U h => cmp_end S.env V U h fun b k => k _ G2 S (.d (.bl b)) New.d
/-- a test that is an expression's value -/
theorem t_val {e : Expr} {m : Rh → Out Val} (h : PE X e (tE X.prog X.w X.K m)) (he : ∀ whole, isTrue e X.env whole = (do let v ← whole; standAt e.pos; holding [v] (truthy v))) : PT X e (tT X.prog X.w X.K fun r => boo (m r) fun b r1 => .ok b r1) :=
  (pt_val h he).imp fun τ G Q q => by
    obtain ⟨r, en, hw⟩ := q
    refine ⟨r, en, (Wp.boo hw).mono fun v r1 k u G1 S V N => ?_⟩
    obtain ⟨b, rfl, k⟩ := k
    cases V with
    | d hx => exact ⟨b, RepF.blI hx, k G1 S⟩
theorem t_cmp (hu : X.A.units + 200 < cLine) {a b : Expr} {x y : IE} {o : Cop} {pos : Pos} (ha : PE X a (tE X.prog X.w X.K (den Φ x))) (hb : PE X b (tE X.prog X.w X.K (den Φ y))) (hm : behindInMarks (cmpOf o) b = false) :
    PT X (.Compare a [cmpOf o] [b] pos) (tT X.prog X.w X.K fun r => boo (den Φ (.cmp o x y) r) fun b r1 => .ok b r1) := (pt_cmpR (op_cmp o hu) ha hb hm).imp fun τ G Q q => by
  obtain ⟨r, en, hw⟩ := q
  have hw := Wp.boo hw
  rw [den] at hw
  refine two en hw fun v u r2 z1 z2 G2 S V U h => ?_
  exact cmp_end S.env V U h fun b k => by
    obtain ⟨b', e, k⟩ := k
    cases e
    exact ⟨b, rfl, k G2 S⟩
end
end FJ

set_option Elab.async false
set_option linter.all false
set_option autoImplicit false
set_option maxRecDepth 100000
set_option maxHeartbeats 0
/-! Ev4c: and, or, not, if; lists, tuples, dicts written out. -/
namespace FJ
open PySem PySem.Spec L2
open PyProof.Rows hiding St

section
variable {X : Cx} (Φ : Str → List FJ.Slot → Res)
/-- what an expression is as a value, as a test -/
abbrev GE (X : Cx) (Φ : Str → List FJ.Slot → Res) (e : Expr) (x : IE) : Prop := PE X e (tE X.prog X.w X.K (den Φ x))
abbrev tB' (X : Cx) (Φ : Str → List FJ.Slot → Res) (x : IE) : TT := tT X.prog X.w X.K fun r => boo (den Φ x r) fun b r1 => .ok b r1
abbrev GT (X : Cx) (Φ : Str → List FJ.Slot → Res) (e : Expr) (x : IE) : Prop := PT X e (tB' X Φ x)
variable {Φ} {a b c : Expr} {x y z : IE} {pos : Pos}
theorem e_and {rest : List Expr} (ha : GE X Φ a x) (hb : GE X Φ (.BoolOp .And (b :: rest) pos) y) : GE X Φ (.BoolOp .And (a :: b :: rest) pos) (.and x y) := (pe_and ha hb).imp fun τ G Q q => by
  obtain ⟨r, en, hw⟩ := q
  rw [den] at hw
  refine ⟨r, en, (Wp.boo hw).mono fun v r1 h u G1 S V N => ?_⟩
  obtain ⟨t, rfl, h⟩ := h
  cases V with
  | d hx =>
    refine ⟨t, RepF.blI hx, ?_⟩
    cases t with
    | true => exact ⟨r1, S.env, (Wp.boo h).mono fun v r2 k u2 G2 S2 V2 N2 => by
        obtain ⟨t2, rfl, k⟩ := k
        exact k u2 G2 (S.trans S2) V2 New.d⟩
    | false => exact h _ G1 S (.d (.bl _)) New.d
theorem e_or {rest : List Expr} (ha : GE X Φ a x) (hb : GE X Φ (.BoolOp .Or (b :: rest) pos) y) : GE X Φ (.BoolOp .Or (a :: b :: rest) pos) (.or x y) := (pe_or ha hb).imp fun τ G Q q => by
  obtain ⟨r, en, hw⟩ := q
  rw [den] at hw
  refine ⟨r, en, (Wp.boo hw).mono fun v r1 h u G1 S V N => ?_⟩
  obtain ⟨t, rfl, h⟩ := h
  cases V with
  | d hx =>
    refine ⟨t, RepF.blI hx, ?_⟩
    cases t with
    | false => exact ⟨r1, S.env, (Wp.boo h).mono fun v r2 k u2 G2 S2 V2 N2 => by
        obtain ⟨t2, rfl, k⟩ := k
        exact k u2 G2 (S.trans S2) V2 New.d⟩
    | true => exact h _ G1 S (.d (.bl _)) New.d
theorem e_not (ha : GE X Φ a x) : GE X Φ (.UnaryOp .Not a pos) (.not x) := (pe_not ha).imp fun τ G Q q => by
  obtain ⟨r, en, hw⟩ := q
  rw [den] at hw
  refine ⟨r, en, (Wp.boo hw).mono fun v r1 h u G1 S V N => ?_⟩
  obtain ⟨t, rfl, h⟩ := h
  cases V with
  | d hx => exact ⟨t, RepF.blI hx, h _ G1 S (.d (.bl _)) New.d⟩
theorem e_ife (hc : GT X Φ c z) (ha : GE X Φ a x) (hb : GE X Φ b y) : GE X Φ (.IfExp c a b pos) (.ife z x y) := (pe_ifExp hc ha hb).imp fun τ G Q q => by
  obtain ⟨r, en, hw⟩ := q
  rw [den] at hw
  refine ⟨r, en, Wp.boos ((Wp.boo hw).mono fun v r1 h => ?_)⟩
  obtain ⟨t, rfl, h⟩ := h
  refine ⟨t, rfl, fun G1 S => ?_⟩
  cases t with
  | true => exact ⟨r1, S.env, Wp.mono h fun v r2 k u G2 S2 V2 N2 => k u G2 (S.trans S2) V2 (N2.of S)⟩
  | false => exact ⟨r1, S.env, Wp.mono h fun v r2 k u G2 S2 V2 N2 => k u G2 (S.trans S2) V2 (N2.of S)⟩
/-! as tests -/
theorem w_and {rest : List Expr} (ha : GT X Φ a x) (hb : PW X (.BoolOp .And (b :: rest) pos) (tB' X Φ y)) : PW X (.BoolOp .And (a :: b :: rest) pos) (tB' X Φ (.and x y)) := (pw_and ha hb).imp fun τ G Q q => by
  obtain ⟨r, en, hw⟩ := q
  have hw := Wp.boo hw
  rw [den] at hw
  refine ⟨r, en, Wp.boos ((Wp.boo hw).mono fun v r1 h => ?_)⟩
  obtain ⟨t, rfl, h⟩ := h
  refine ⟨t, rfl, fun G1 S => ?_⟩
  cases t with
  | true =>
    exact ⟨r1, S.env, Wp.boos ((Wp.boo h).mono fun v r2 k => by
      obtain ⟨t2, rfl, b2, e, k⟩ := k
      cases e
      exact ⟨t2, rfl, fun G2 S2 => k G2 (S.trans S2)⟩)⟩
  | false =>
    obtain ⟨b2, e, k⟩ := h
    cases e
    exact k G1 S
theorem w_or {rest : List Expr} (ha : GT X Φ a x) (hb : PW X (.BoolOp .Or (b :: rest) pos) (tB' X Φ y)) : PW X (.BoolOp .Or (a :: b :: rest) pos) (tB' X Φ (.or x y)) := (pw_or ha hb).imp fun τ G Q q => by
  obtain ⟨r, en, hw⟩ := q
  have hw := Wp.boo hw
  rw [den] at hw
  refine ⟨r, en, Wp.boos ((Wp.boo hw).mono fun v r1 h => ?_)⟩
  obtain ⟨t, rfl, h⟩ := h
  refine ⟨t, rfl, fun G1 S => ?_⟩
  cases t with
  | false =>
    exact ⟨r1, S.env, Wp.boos ((Wp.boo h).mono fun v r2 k => by
      obtain ⟨t2, rfl, b2, e, k⟩ := k
      cases e
      exact ⟨t2, rfl, fun G2 S2 => k G2 (S.trans S2)⟩)⟩
  | true =>
    obtain ⟨b2, e, k⟩ := h
    cases e
    exact k G1 S
theorem t_not (ha : GT X Φ a x) : GT X Φ (.UnaryOp .Not a pos) (.not x) := (pt_not ha).imp fun τ G Q q => by
  obtain ⟨r, en, hw⟩ := q
  have hw := Wp.boo hw
  rw [den] at hw
  refine ⟨r, en, Wp.boos ((Wp.boo hw).mono fun v r1 h => ?_)⟩
  obtain ⟨t, rfl, b2, e, k⟩ := h
  cases e
  exact ⟨t, rfl, fun G1 S => k G1 S⟩
theorem t_ife (hc : GT X Φ c z) (ha : GT X Φ a x) (hb : GT X Φ b y) : GT X Φ (.IfExp c a b pos) (.ife z x y) := by
  refine ⟨fun ps s0 τ G Q J q => ?_⟩
  obtain ⟨r, en, hw⟩ := q
  have hw := Wp.boo hw
  rw [den] at hw
  refine PyProof.Rows.isTrue_IfExp (thn (hc.run ps s0 τ G (fun t G1 => ∃ r1, Stp X.prog X.w X.K τ r r1 G G1 ∧ Wp (if t = true then den Φ x r1 else den Φ y r1) fun v r2 => ∃ b, v = .d (.bool b) ∧ ∀ G2, Stp X.prog X.w X.K τ r r2 G G2 → Q b G2) J ⟨r, en, Wp.boos ((Wp.boo hw).mono fun v r1 h => ?_)⟩) fun t s1 k => ?_)
  · obtain ⟨t, rfl, h⟩ := h
    exact ⟨t, rfl, fun G1 S => ⟨r1, S, h⟩⟩
  · obtain ⟨G1, J1, r1, S, h⟩ := k
    cases t with
    | true => exact ha.run ps s1 τ G1 Q J1 ⟨r1, S.env, Wp.boos (Wp.mono h fun v r2 k => by
        obtain ⟨b, rfl, k⟩ := k
        exact ⟨b, rfl, fun G2 S2 => k G2 (S.trans S2)⟩)⟩
    | false => exact hb.run ps s1 τ G1 Q J1 ⟨r1, S.env, Wp.boos (Wp.mono h fun v r2 k => by
        obtain ⟨b, rfl, k⟩ := k
        exact ⟨b, rfl, fun G2 S2 => k G2 (S.trans S2)⟩)⟩

/-! ### chains -/
theorem chn_end {o o' : Cop} {C : Val → Rh → Prop} {σ : St} {G : Hp} {Q : VK} {r : Rh} (en : EnvR X.prog X.w X.K G σ r) (h : Wp (den Φ (.chn o o' x y z) r) C) (q : ∀ b r' H', C (.d (.bool b)) r' → Stp X.prog X.w X.K σ r r' G H' → Q (.bl b) H') :
    tChain (rCmp X.prog X.w X.K o) (rCmp X.prog X.w X.K o') (tE X.prog X.w X.K (den Φ x)) (tE X.prog X.w X.K (den Φ y)) (tE X.prog X.w X.K (den Φ z)) σ G Q := by
  rw [den] at h
  refine two en h fun v u r2 z1 z2 G2 S V U h => ?_
  obtain ⟨d1, d2, e1, e2, h⟩ := Wp.pk2 h
  cases e3 : cmpD o d1 d2 with
  | none => rw [e3] at h; exact h.elim
  | some t =>
    rw [e3] at h
    refine ⟨d1, d2, t, V.peek S.env e1, U.peek S.env e2, e3, t, rfl, ?_⟩
    cases t with
    | false => exact q false r2 G2 h S
    | true =>
      refine ⟨r2, S.env, (Wp.bind h).mono fun w r3 h3 z3 G3 S3 V3 N3 => ?_⟩
      exact cmp_end S3.env (S3.val S.env U) V3 h3 fun b k => q b r3 G3 k (S.trans S3)
theorem e_chn (hu : X.A.units + 200 < cLine) {o o' : Cop} (ha : GE X Φ a x) (hb : GE X Φ b y) (hc : GE X Φ c z) (hm : lastMarks [cmpOf o, cmpOf o'] [b, c] = false) : GE X Φ (.Compare a [cmpOf o, cmpOf o'] [b, c] pos) (.chn o o' x y z) :=
  (pe_chain (op_cmp o hu) (op_cmp o' hu) ha hb hc hm).imp fun τ G Q q => by
    obtain ⟨r, en, hw⟩ := q
    exact chn_end en hw fun b r' H' k S => k _ H' S (.d (.bl b)) New.d
theorem t_chn (hu : X.A.units + 200 < cLine) {o o' : Cop} (ha : GE X Φ a x) (hb : GE X Φ b y) (hc : GE X Φ c z) (hm : lastMarks [cmpOf o, cmpOf o'] [b, c] = false) : GT X Φ (.Compare a [cmpOf o, cmpOf o'] [b, c] pos) (.chn o o' x y z) :=
  (pt_chain (op_cmp o hu) (op_cmp o' hu) ha hb hc hm).imp fun τ G Q q => by
    obtain ⟨r, en, hw⟩ := q
    refine chn_end (Q := fun u G' => ∃ k, u = .bl k ∧ Q k G') en (Wp.boo hw) fun b r' H' k S => ?_
    obtain ⟨b', e, k⟩ := k
    cases e
    exact ⟨b, rfl, k H' S⟩

/-! ### rows of expressions -/
abbrev GK (X : Cx) (Φ : Str → List FJ.Slot → Res) (es : List Expr) (x : IL) : Prop := PA X es (tK X.prog X.w X.K (denK Φ x))
abbrev GA (X : Cx) (Φ : Str → List FJ.Slot → Res) (es : List Expr) (x : IL) : Prop := PA X es (tA X.prog X.w X.K (denV Φ x))
/-- not a star -/
def noStar (e : Expr) : Prop := ∀ es env, starEach (e :: es) env = (false, eval e env) :: starEach es env
theorem k_nil : GK X Φ [] .nil := pa_nil.imp fun τ G Q q => by
  obtain ⟨r, en, hw⟩ := q
  rw [denK] at hw
  exact hw [] G (Stp.refl en) .nil
theorem k_cons {e : Expr} {es : List Expr} {xs : IL} (h : GE X Φ e x) (t : GK X Φ es xs) (ns : noStar e) : GK X Φ (e :: es) (.cons x xs) := (pa_cons h t (ns es X.env)).imp fun τ G Q q => by
  obtain ⟨r, en, hw⟩ := q
  rw [denK] at hw
  refine ⟨r, en, (Wp.dat hw).mono fun v r1 h1 u G1 S V N => ?_⟩
  obtain ⟨d, rfl, h1⟩ := h1
  refine ⟨r1, S.env, (Wp.bind h1).mono fun ds r2 h2 us G2 S2 R => ?_⟩
  cases V with
  | d hx => exact h2 (u :: us) G2 (S.trans S2) (.cons (RepF.later (S2.later S.env) _ _ hx) R)
theorem k_star {e : Expr} {es : List Expr} {xs : IL} {p : Pos} (h : GE X Φ e x) (t : GK X Φ es xs) : GK X Φ (.Starred e p :: es) (.star x xs) := (StX.pa_star h t rfl).imp fun τ G Q q => by
  obtain ⟨r, en, hw⟩ := q
  rw [denK] at hw
  refine ⟨r, en, (Wp.dat hw).mono fun v r1 h1 u G1 S V N => ?_⟩
  obtain ⟨d, rfl, h1⟩ := h1
  cases V with
  | d hx =>
    unfold starD at h1
    have fin : ∀ {vs : List V} {ys : List PyData}, RepFs X.prog X.w X.K G1 vs ys → Wp ((denK Φ xs r1).bind fun zs r2 => Out.ok (ys ++ zs) r2) (fun ds r' => ∀ us H', Stp X.prog X.w X.K τ r r' G H' → RepFs X.prog X.w X.K H' us ds → Q us H') →
        tK X.prog X.w X.K (denK Φ xs) τ G1 fun us G2 => Q (vs ++ us) G2 := fun hv hh => ⟨r1, S.env, (Wp.bind hh).mono fun ds r2 h2 us G2 S2 R => h2 _ G2 (S.trans S2) (RepFs.append (RepFs.later (S2.later S.env) _ _ hv) R)⟩
    split at h1
    · rename_i ys hy
      split at hy
      · cases hy
        obtain ⟨l, vs, rfl, hR, ra⟩ := (RepP.fz hx).listI
        exact ⟨l, vs, rfl, .inr (.inl hR), fin ra h1⟩
      · cases hy
        obtain ⟨l, vs, rfl, hT, ra⟩ := (RepP.fz hx).tupI
        exact ⟨l, vs, rfl, .inl hT.sq, fin ra h1⟩
      · cases hy
    · exact h1.elim
theorem e_tup {es : List Expr} {xs : IL} {k : Nat} (h : GK X Φ es xs) : GE X Φ (.Tuple es k pos) (.tup xs) := by
  refine ⟨fun ps s0 τ G Q J q => ?_⟩
  obtain ⟨r, en, hw⟩ := q
  rw [den] at hw
  refine wpAny_Tuple_spliced (thn (h.run pos ps s0 τ G (fun us G1 => ∃ ds r1, Stp X.prog X.w X.K τ r r1 G G1 ∧ RepFs X.prog X.w X.K G1 us ds ∧ ds.length ≤ sizeLine ∧ ∀ u H', Stp X.prog X.w X.K τ r r1 G H' → ValR X.prog X.w X.K H' τ r1 u (.d (.tuple ds)) → New G u (.d (.tuple ds)) → Q u H') J ⟨r, en, (Wp.bind hw).mono fun ds r1 h1 us G1 S R => ?_⟩) fun us s1 y => ?_)
  · by_cases hl : ds.length ≤ sizeLine
    · rw [if_pos hl] at h1
      exact ⟨ds, r1, S, R, hl, h1⟩
    · rw [if_neg hl] at h1; exact h1.elim
  · obtain ⟨vs, G1, J1, rv, ds, r1, S, R, hl, q⟩ := y
    have hz : vs.length ≤ sizeLine := by rw [R.length]; exact hl
    refine ⟨by rw [← rv.length]; exact hz, ?_⟩
    obtain ⟨hn, J2⟩ := newTup (t' := s1.toks) J1 rv hz
    exact ⟨.ref s1.heap.objs.size, _, J2, rfl, q _ _ (S.trans (Stp.grow S.env (Grow.new _ hn))) (.d (.tup .new (R.new hn))) New.d⟩
theorem e_lst {es : List Expr} {xs : IL} (h : GK X Φ es xs) : GE X Φ (.List es pos) (.lst xs) := (pe_lst h).imp fun τ G Q q => by
  obtain ⟨r, en, hw⟩ := q
  rw [den] at hw
  refine ⟨r, en, (Wp.bind hw).mono fun ds r1 h1 us G1 S R => ?_⟩
  by_cases hl : ds.length ≤ sizeLine
  · rw [if_pos hl] at h1
    refine ⟨by rw [R.length]; exact hl, fun p hp => ?_⟩
    exact gets S (.inr ⟨_, rfl⟩) h1 p _ (Grow.new _ hp) hp (.lst upd_same (R.new hp))
  · rw [if_neg hl] at h1; exact h1.elim
/-! ### dicts written out -/
abbrev pairsI : IL → List (IE × IE)
  | .cons k (.cons v r) => (k, v) :: pairsI r
  | _ => []
/-- the pairs' readings -/
inductive GD (X : Cx) (Φ : Str → List FJ.Slot → Res) : List (Option Expr) → List Expr → IL → Prop
  | nil : GD X Φ [] [] .nil
  | cons {k v : Expr} {ks : List (Option Expr)} {vs : List Expr} {x y : IE} {r : IL} : GE X Φ k x → GE X Φ v y → GD X Φ ks vs r → GD X Φ (some k :: ks) (v :: vs) (.cons x (.cons y r))
inductive RepPs (P : Program) (w : World) (K : PySem.W.Frag) (H : Hp) : List (V × V) → List (PyData × PyData) → Prop
  | nil : RepPs P w K H [] []
  | cons {u v : V} {d e : PyData} {ps : List (V × V)} {ds : List (PyData × PyData)} : RepF P w K H u d → RepF P w K H v e → RepPs P w K H ps ds → RepPs P w K H ((u, v) :: ps) ((d, e) :: ds)
theorem RepPs.later {P : Program} {w : World} {K : PySem.W.Frag} {H H' : Hp} (l : Later H H') : ∀ {ps : List (V × V)} {ds : List (PyData × PyData)}, RepPs P w K H ps ds → RepPs P w K H' ps ds
  | _, _, .nil => .nil
  | _, _, .cons a b t => .cons (RepF.later l _ _ a) (RepF.later l _ _ b) (t.later l)
theorem RepPs.flat {P : Program} {w : World} {K : PySem.W.Frag} {H : Hp} : ∀ {ps : List (V × V)} {ds : List (PyData × PyData)}, RepPs P w K H ps ds → ds.all (fun p => flatKey p.1) = true → ∃ kvs : List (Key × V), ps = kvs.map (fun kv => (kV kv.1, kv.2)) ∧ RepKs P w K H kvs ds
  | _, _, .nil, _ => ⟨[], rfl, .nil⟩
  | _, _, .cons a b t, h => by
    rw [List.all_cons, Bool.and_eq_true] at h
    obtain ⟨kvs, e, r⟩ := t.flat h.2
    obtain ⟨k, hk, ek⟩ := flatKey_of (RepP.fz a) h.1
    exact ⟨(k, _) :: kvs, by rw [List.map_cons, e, ek], .cons hk b r⟩
def tD (P : Program) (w : World) (K : PySem.W.Frag) (m : Rh → Out (List (PyData × PyData))) : St → Hp → (List (V × V) → Hp → Prop) → Prop := fun σ H Q => ∃ r, EnvR P w K H σ r ∧ Wp (m r) fun ds r' => ∀ us H', Stp P w K σ r r' H H' → RepPs P w K H' us ds → Q us H'
theorem GD.pps (pos : Pos) : ∀ {ks : List (Option Expr)} {vs : List Expr} {xs : IL}, GD X Φ ks vs xs → ∃ trs, PPs X pos ks vs trs ∧ (∀ τ G Q, tD X.prog X.w X.K (denP Φ xs) τ G Q → tPairs trs τ G Q) ∧ ks.all (·.isSome) = true ∧ ks.length = vs.length
  | _, _, _, .nil => ⟨[], pps_nil, fun τ G Q q => by
      obtain ⟨r, en, hw⟩ := q
      rw [denP] at hw
      exact hw [] G (Stp.refl en) .nil, rfl, rfl⟩
  | _, _, _, .cons hk hv t => by
    obtain ⟨trs, h1, h2, h3, h4⟩ := t.pps pos
    refine ⟨_, pps_cons hk hv h1, fun τ G Q q => ?_, by rw [List.all_cons, h3]; rfl, by rw [List.length_cons, List.length_cons, h4]⟩
    obtain ⟨r, en, hw⟩ := q
    rw [denP] at hw
    refine ⟨r, en, (Wp.dat hw).mono fun v r1 k1 u G1 S V N => ?_⟩
    obtain ⟨d, rfl, k1⟩ := k1
    refine ⟨r1, S.env, (Wp.dat k1).mono fun v r2 k2 u2 G2 S2 V2 N2 => ?_⟩
    obtain ⟨e, rfl, k2⟩ := k2
    refine h2 τ G2 _ ⟨r2, S2.env, (Wp.bind k2).mono fun ds r3 k3 us G3 S3 R => ?_⟩
    cases V with
    | d hx => cases V2 with
      | d hy =>
        have S12 := S.trans S2
        exact k3 _ G3 (S12.trans S3) (.cons (RepF.later (S3.later S2.env) _ _ (RepF.later (S2.later S.env) _ _ hx)) (RepF.later (S3.later S2.env) _ _ hy) R)
theorem e_dsp {ks : List (Option Expr)} {vs : List Expr} {xs : IL} (h : GD X Φ ks vs xs) (hl : ks.length ≤ 15) : GE X Φ (.Dict ks vs pos) (.dsp xs) := by
  by_cases h0 : ks = []
  · subst h0
    cases h
    refine (pe_dnewK (X := X) (pos := pos)).imp fun τ G Q q => ?_
    obtain ⟨r, en, hw⟩ := q
    rw [den, denP] at hw
    intro p hp
    exact gets (Stp.refl en) (.inr ⟨_, rfl⟩) hw p _ (Grow.new _ hp) hp (.dK upd_same .nil)
  · obtain ⟨trs, h1, h2, h3, h4⟩ := h.pps pos
    refine (pe_disp h1 h3 h4 h0 hl).imp fun τ G Q q => ?_
    obtain ⟨r, en, hw⟩ := q
    rw [den] at hw
    intro p hp
    have g := Grow.new (.dK []) hp
    have en1 := en.grow g
    refine h2 τ _ _ ⟨r, en1, (Wp.bind hw).mono fun ds r1 k us G2 S R => ?_⟩
    by_cases hf : ((ds.all fun p => flatKey p.1) && decide (ds.length ≤ 15)) = true
    · rw [if_pos hf] at k
      rw [Bool.and_eq_true] at hf
      have np : ¬ Own τ r p := notOwn en hp
      have hp2 : G2 p = some (.dK []) := S.ext.keep p _ upd_same np fun ps e => nomatch e
      obtain ⟨kvs, e, rk⟩ := R.flat hf.1
      refine ⟨hp2, kvs, e, by rw [rk.length]; exact of_decide_eq_true hf.2, ?_⟩
      have lt : Later G2 (upd G2 p (.dK (mergeK [] kvs))) := Ownable.upd hp2 (.dK (P := X.prog) (w := X.w) (a := p) [])
      have no2 : ¬ Own τ r1 p := fun z => np (S.own z)
      refine k (.ref p) _ ⟨⟨fun b o e n t => ?_, fun b hb => ?_⟩, S.env.later lt fun b hb => upd_ne (fun z => no2 (by rw [← z]; exact hb)), S.ow, S.dat⟩ (.fresh (.dK upd_same (fold_flat (RepKs.later lt _ _ rk) .nil)) no2) fun _ _ => ⟨p, rfl, hp⟩
      · have hb : b ≠ p := fun z => by rw [z, hp] at e; cases e
        rw [upd_ne hb]
        exact S.ext.keep b o (by rw [upd_ne hb]; exact e) n t
      · by_cases hbp : b = p
        · rw [hbp, upd_same]; exact fun z => nomatch z
        · rw [upd_ne hbp]; exact S.ext.dom b (by rw [upd_ne hbp]; exact hb)
    · rw [if_neg hf] at k; exact k.elim
end
end FJ

set_option Elab.async false
set_option linter.all false
set_option autoImplicit false
set_option maxRecDepth 100000
set_option maxHeartbeats 0
/-! Ev4d: calls. -/
namespace FJ
open PySem PySem.Spec L2
open PyProof.Rows hiding St

/-! ### lent slots -/
def isOw (r : Rh) (j : Nat) : Prop := ∃ y, r[j]? = some (FJ.Slot.ow y)
theorem back1_ne {v : Val} {s : FJ.Slot} {r : Rh} {j : Nat} (h : v ≠ .bor j ∨ ¬ isOw r j) : (back1 v s r)[j]? = r[j]? := by
  unfold back1
  split
  · rename_i i
    split
    · rename_i y hy
      by_cases hij : i = j
      · subst hij
        rcases h with h | h
        · exact absurd rfl h
        · exact absurd ⟨y, hy⟩ h
      · rw [List.getElem?_set_ne hij]
    · rfl
  · rfl
theorem back1_at {s : FJ.Slot} {r : Rh} {j : Nat} (h : isOw r j) : (back1 (.bor j) s r)[j]? = some s := by
  obtain ⟨y, hy⟩ := h
  have e : back1 (.bor j) s r = r.set j s := by simp only [back1, hy]
  rw [e]
  exact List.getElem?_set_self (List.getElem?_eq_some_iff.mp hy).1
theorem back1_len {v : Val} {s : FJ.Slot} {r : Rh} : (back1 v s r).length = r.length := by
  unfold back1
  split
  · split <;> simp
  · rfl
theorem backA_len : ∀ (vs : List Val) (ss : List FJ.Slot) (r : Rh), (backA vs ss r).length = r.length
  | [], _, r => by unfold backA; rfl
  | _ :: _, [], r => by unfold backA; rfl
  | v :: vs, s :: ss, r => by rw [backA, backA_len vs ss, back1_len]
theorem mem_bors : ∀ {vs : List Val} {j : Nat}, j ∈ borsOf vs ↔ .bor j ∈ vs
  | [], j => by simp [borsOf]
  | v :: vs, j => by
    cases v <;> simp [borsOf, mem_bors (vs := vs) (j := j)]
theorem backA_ne : ∀ {vs : List Val} {ss : List FJ.Slot} {r : Rh} {j : Nat}, Val.bor j ∉ vs ∨ ¬ isOw r j → (backA vs ss r)[j]? = r[j]?
  | [], _, r, j, _ => by unfold backA; rfl
  | _ :: _, [], r, j, _ => by unfold backA; rfl
  | v :: vs, s :: ss, r, j, h => by
    have e : (back1 v s r)[j]? = r[j]? := back1_ne (h.imp (fun h e => h (by rw [e]; exact List.mem_cons_self ..)) id)
    rw [backA, backA_ne (h.imp (fun h e => h (List.mem_cons_of_mem _ e)) fun h ⟨y, hy⟩ => h ⟨y, by rw [← e]; exact hy⟩), e]
theorem backA_at : ∀ {vs : List Val} {ss : List FJ.Slot} {r : Rh} {j k : Nat}, (borsOf vs).Nodup → vs[k]? = some (.bor j) → k < ss.length → isOw r j → (backA vs ss r)[j]? = ss[k]?
  | [], _, _, _, _, _, h, _, _ => by simp at h
  | v :: vs, [], _, _, _, _, _, h, _ => by simp at h
  | v :: vs, s :: ss, r, j, 0, nd, h, _, ow => by
    cases h
    have nj : Val.bor j ∉ vs := fun z => by
      rw [borsOf, List.nodup_cons] at nd
      exact nd.1 (mem_bors.mpr z)
    rw [backA, backA_ne (.inl nj), back1_at ow]
    rfl
  | v :: vs, s :: ss, r, j, k + 1, nd, h, hl, ow => by
    rw [List.getElem?_cons_succ] at h
    have hm : Val.bor j ∈ vs := List.mem_of_getElem? h
    have nv : v ≠ .bor j := fun z => by
      subst z
      rw [borsOf, List.nodup_cons] at nd
      exact nd.1 (mem_bors.mpr hm)
    have nd' : (borsOf vs).Nodup := by
      cases v <;> simp only [borsOf] at nd <;> first | exact nd | exact (List.nodup_cons.mp nd).2
    have e : (back1 v s r)[j]? = r[j]? := back1_ne (.inl nv)
    rw [backA, backA_at nd' h (by simpa using hl) (by obtain ⟨y, hy⟩ := ow; exact ⟨y, by rw [e]; exact hy⟩), List.getElem?_cons_succ]
theorem argsOf_len {r : Rh} : ∀ {vs : List Val} {as : List FJ.Slot}, argsOf r vs = some as → as.length = vs.length
  | [], as, h => by cases h; rfl
  | v :: vs, as, h => by
    rw [argsOf] at h
    split at h
    · rename_i s ss h1 h2
      cases h
      rw [List.length_cons, List.length_cons, argsOf_len h2]
    · cases h
theorem argsOf_at {r : Rh} : ∀ {vs : List Val} {as : List FJ.Slot} {k : Nat} {v : Val}, argsOf r vs = some as → vs[k]? = some v → ∃ s, as[k]? = some s ∧ argOf r v = some s
  | v :: vs, as, 0, u, h, hk => by
    cases hk
    rw [argsOf] at h
    split at h
    · rename_i s ss h1 h2
      cases h
      exact ⟨s, rfl, h1⟩
    · cases h
  | v :: vs, as, k + 1, u, h, hk => by
    rw [argsOf] at h
    split at h
    · rename_i s ss h1 h2
      cases h
      rw [List.getElem?_cons_succ] at hk
      obtain ⟨t, e1, e2⟩ := argsOf_at h2 hk
      exact ⟨t, by rw [List.getElem?_cons_succ]; exact e1, e2⟩
    · cases h
theorem fAddr_mem : ∀ {us : List V} {vs : List Val} {k : Nat} {a : Addr} {x : PyData}, us[k]? = some (.ref a) → vs[k]? = some (.fresh x) → a ∈ fAddr us vs
  | u :: us, v :: vs, 0, a, x, h1, h2 => by
    cases h1; cases h2
    rw [fAddr]
    exact List.mem_cons_self ..
  | u :: us, v :: vs, k + 1, a, x, h1, h2 => by
    rw [List.getElem?_cons_succ] at h1 h2
    have := fAddr_mem h1 h2
    cases u <;> cases v <;> simp only [fAddr] <;> first | exact this | exact List.mem_cons_of_mem _ this
theorem fAddr_uniq : ∀ {us : List V} {vs : List Val} {k l : Nat} {a : Addr} {x y : PyData}, (fAddr us vs).Nodup → us[k]? = some (.ref a) → vs[k]? = some (.fresh x) → us[l]? = some (.ref a) → vs[l]? = some (.fresh y) → k = l
  | u :: us, v :: vs, 0, 0, a, x, y, nd, h1, h2, h3, h4 => rfl
  | u :: us, v :: vs, 0, l + 1, a, x, y, nd, h1, h2, h3, h4 => by
    cases h1; cases h2
    rw [List.getElem?_cons_succ] at h3 h4
    rw [fAddr, List.nodup_cons] at nd
    exact absurd (fAddr_mem h3 h4) nd.1
  | u :: us, v :: vs, k + 1, 0, a, x, y, nd, h1, h2, h3, h4 => by
    cases h3; cases h4
    rw [List.getElem?_cons_succ] at h1 h2
    rw [fAddr, List.nodup_cons] at nd
    exact absurd (fAddr_mem h1 h2) nd.1
  | u :: us, v :: vs, k + 1, l + 1, a, x, y, nd, h1, h2, h3, h4 => by
    rw [List.getElem?_cons_succ] at h1 h2 h3 h4
    have nd' : (fAddr us vs).Nodup := by
      cases u <;> cases v <;> simp only [fAddr] at nd <;> first | exact nd | exact (List.nodup_cons.mp nd).2
    rw [fAddr_uniq nd' h1 h2 h3 h4]

section
variable {P : Program} {w : World} {K : PySem.W.Frag} {H H0 H' : Hp} {σ : St} {r r0 : Rh}
/-- what a call returns -/
inductive RetR (P : Program) (w : World) (K : PySem.W.Frag) (H H' : Hp) : V → FJ.Slot → Prop
  | fz {u : V} {x : PyData} : RepF P w K H' u x → RetR P w K H H' u (.fz x)
  | ow {a : Addr} {x : PyData} : RepO P w K H' a x → H a = none → RetR P w K H H' (.ref a) (.ow x)
def isD : FJ.Slot → Prop
  | .fz _ => True
  | .ow _ => True
  | _ => False
/-- a def's promise -/
def spF (P : Program) (w : World) (K : PySem.W.Frag) (Φ : Str → List FJ.Slot → Res) (f : Str) : Sp := fun vs H Q _ => ∃ as, EnvR P w K H (vs.map some) as ∧ match Φ f as with
  | .ok s outs => outs.length = as.length ∧ ∀ u H', Ext (Own (vs.map some) as) H H' → (∀ (j : Nat) d, as[j]? = some (.ow d) → ∃ t v, outs[j]? = some t ∧ isD t ∧ vs[j]? = some v ∧ RepS P w K H' v t) → RetR P w K H H' u s → Q u H'
  | _ => False
/-- the arguments as a def gets them -/
theorem args_env {us : List V} {vs : List Val} {as : List FJ.Slot} (en : EnvR P w K H σ r) (pr : Paired (ValR P w K H σ r) us vs) (nw : (fAddr us vs).Nodup) (nb : (borsOf vs).Nodup) (ha : argsOf r vs = some as) :
    EnvR P w K H (us.map some) as ∧ ∀ (k : Nat) a, Owns (us.map some) as k a → (∃ j, vs[k]? = some (.bor j) ∧ Owns σ r j a) ∨ ∃ x, vs[k]? = some (.fresh x) ∧ us[k]? = some (.ref a) := by
  have hl := Paired.length pr
  have al := argsOf_len ha
  have src : ∀ (k : Nat) a, Owns (us.map some) as k a → (∃ j, vs[k]? = some (.bor j) ∧ Owns σ r j a) ∨ ∃ x, vs[k]? = some (.fresh x) ∧ us[k]? = some (.ref a) := by
    rintro k a ⟨⟨d, h1⟩, h2⟩
    rw [List.getElem?_map] at h2
    cases hu : us[k]? with
    | none => rw [hu] at h2; cases h2
    | some u =>
      rw [hu] at h2; cases h2
      obtain ⟨v, hv, hr⟩ := paired_get pr hu
      obtain ⟨s, e1, e2⟩ := argsOf_at ha hv
      rw [h1] at e1; cases e1
      cases hr with
      | d q => cases e2
      | fresh ro no => cases e2; exact .inr ⟨_, hv, rfl⟩
      | @bor j v hs hr =>
        rcases hr with ⟨x, hx⟩ | ⟨x, hx⟩
        · exact .inl ⟨j, hv, ⟨x, hx⟩, hs⟩
        · rw [argOf, hx] at e2; cases e2
      | fn x => cases e2
      | scr q => cases e2
  refine ⟨⟨by rw [List.length_map, hl, al], fun i s h n => ?_, fun i j a hi hj => ?_⟩, src⟩
  · have hi : i < us.length := by rw [hl, ← al]; exact (List.getElem?_eq_some_iff.mp h).1
    have hu : us[i]? = some us[i] := List.getElem?_eq_getElem hi
    obtain ⟨v, hv, hr⟩ := paired_get pr hu
    obtain ⟨s', e1, e2⟩ := argsOf_at ha hv
    rw [h] at e1; cases e1
    refine ⟨us[i], by rw [List.getElem?_map, hu]; rfl, ?_⟩
    generalize us[i] = u at hr
    cases hr with
    | d q => cases e2; exact .fz q
    | fresh ro no => cases e2; exact .ow ro
    | @bor j v hs hr =>
      rcases hr with ⟨x, hx⟩ | ⟨x, hx⟩
      · rw [argOf, hx] at e2; cases e2
        obtain ⟨a, ha', ro, _⟩ := en.owned hx
        rw [hs] at ha'; cases ha'
        exact .ow ro
      · rw [argOf, hx] at e2; cases e2
        obtain ⟨b, hb, rf⟩ := en.frozen hx
        rw [hs] at hb; cases hb
        exact .fz rf
    | fn x => cases e2; exact .fn x
    | scr q => cases e2; exact .scr q
  · rcases src i a hi with ⟨k, h1, h2⟩ | ⟨x, h1, h2⟩
    · rcases src j a hj with ⟨l, h3, h4⟩ | ⟨y, h3, h4⟩
      · have e := en.one k l a h2 h4
        subst e
        exact bor_uniq nb h1 h3
      · obtain ⟨v, hv, hr⟩ := paired_get pr h4
        rw [h3] at hv; cases hv
        cases hr with
        | fresh ro no => exact absurd ⟨k, h2⟩ no
    · rcases src j a hj with ⟨l, h3, h4⟩ | ⟨y, h3, h4⟩
      · obtain ⟨v, hv, hr⟩ := paired_get pr h2
        rw [h1] at hv; cases hv
        cases hr with
        | fresh ro no => exact absurd ⟨l, h4⟩ no
      · exact fAddr_uniq nw h2 h1 h4 h3
where bor_uniq : ∀ {vs : List Val} {i j k : Nat}, (borsOf vs).Nodup → vs[i]? = some (.bor k) → vs[j]? = some (.bor k) → i = j
  | v :: vs, 0, 0, _, _, _, _ => rfl
  | v :: vs, 0, j + 1, k, nd, h1, h2 => by
    cases h1
    rw [List.getElem?_cons_succ] at h2
    rw [borsOf, List.nodup_cons] at nd
    exact absurd (mem_bors.mpr (List.mem_of_getElem? h2)) nd.1
  | v :: vs, i + 1, 0, k, nd, h1, h2 => by
    cases h2
    rw [List.getElem?_cons_succ] at h1
    rw [borsOf, List.nodup_cons] at nd
    exact absurd (mem_bors.mpr (List.mem_of_getElem? h1)) nd.1
  | v :: vs, i + 1, j + 1, k, nd, h1, h2 => by
    rw [List.getElem?_cons_succ] at h1 h2
    have nd' : (borsOf vs).Nodup := by
      cases v <;> simp only [borsOf] at nd <;> first | exact nd | exact (List.nodup_cons.mp nd).2
    rw [bor_uniq nd' h1 h2]
/-- behind a call -/
theorem call_step {us : List V} {vs : List Val} {as outs : List FJ.Slot} (S : Stp P w K σ r0 r H0 H) (pr : Paired (ValR P w K H σ r) us vs) (nw : NewL H0 us vs) (nb : (borsOf vs).Nodup) (ha : argsOf r vs = some as)
    (x : Ext (Own (us.map some) as) H H') (ho : outs.length = as.length) (hb : ∀ (j : Nat) d, as[j]? = some (.ow d) → ∃ t v, outs[j]? = some t ∧ isD t ∧ us[j]? = some v ∧ RepS P w K H' v t) : Stp P w K σ r0 (backA vs outs r) H0 H' := by
  obtain ⟨ea, src⟩ := args_env S.env pr nw.1 nb ha
  have al := argsOf_len ha
  have lt : Later H H' := x.later ea.ownOk
  -- a lent slot's new content
  have lent : ∀ (j : Nat) y, r[j]? = some (.ow y) → Val.bor j ∈ vs → ∃ t v, (backA vs outs r)[j]? = some t ∧ isD t ∧ σ[j]? = some (some v) ∧ RepS P w K H' v t := fun j y hj hm => by
    obtain ⟨k, hk, hkv⟩ := List.mem_iff_getElem.mp hm
    have hv : vs[k]? = some (.bor j) := by rw [List.getElem?_eq_getElem hk, hkv]
    obtain ⟨s, e1, e2⟩ := argsOf_at ha hv
    rw [argOf, hj] at e2
    cases e2
    obtain ⟨t, v, h1, h2, h3, h4⟩ := hb k y e1
    obtain ⟨v', hv', hr⟩ := paired_get pr h3
    rw [hv] at hv'; cases hv'
    cases hr with
    | bor hs _ => exact ⟨t, v, by rw [backA_at nb hv (by rw [ho, al]; exact hk) ⟨y, hj⟩]; exact h1, h2, hs, h4⟩
  have ow : ∀ (i : Nat) y, (backA vs outs r)[i]? = some (FJ.Slot.ow y) → ∃ z, r[i]? = some (FJ.Slot.ow z) := fun i y h => by
    by_cases hi : isOw r i
    · exact hi
    · rw [backA_ne (.inr hi)] at h
      exact ⟨y, h⟩
  -- what is owned and was not lent stays
  have same : ∀ (i : Nat) a, Owns σ r i a → Val.bor i ∉ vs → H' a = H a := fun i a hi hn => by
    obtain ⟨u, hu, om⟩ := S.env.ownOk a ⟨i, hi⟩
    rw [hu]
    refine x.keep a u hu ?_ fun ps e => by subst e; cases om
    rintro ⟨k, hk⟩
    rcases src k a hk with ⟨j, h1, h2⟩ | ⟨y, h1, h2⟩
    · have := S.env.one i j a hi h2
      subst this
      exact hn (List.mem_of_getElem? h1)
    · obtain ⟨v', hv', hr⟩ := paired_get pr h2
      rw [h1] at hv'; cases hv'
      cases hr with
      | fresh ro no => exact no ⟨i, hi⟩
  refine ⟨⟨fun b o e n t => ?_, fun b hb' => x.dom b (S.ext.dom b hb')⟩, ⟨by rw [backA_len]; exact S.env.len, fun i s h n => ?_, fun i j a hi hj => ?_⟩, fun i y h => let ⟨z, hz⟩ := ow i y h; S.ow i z hz, fun i h => ?_⟩
  · refine x.keep b o (S.ext.keep b o e n t) ?_ t
    rintro ⟨k, hk⟩
    rcases src k b hk with ⟨j, h1, h2⟩ | ⟨y, h1, h2⟩
    · exact n (S.own ⟨j, h2⟩)
    · rw [nw.2 b (fAddr_mem h2 h1)] at e; cases e
  · by_cases hl : isOw r i ∧ Val.bor i ∈ vs
    · obtain ⟨⟨y, hy⟩, hm⟩ := hl
      obtain ⟨t, v, h1, h2, h3, h4⟩ := lent i y hy hm
      rw [h] at h1; cases h1
      exact ⟨v, h3, h4⟩
    · have e : (backA vs outs r)[i]? = r[i]? := by
        by_cases hi : isOw r i
        · exact backA_ne (.inl fun z => hl ⟨hi, z⟩)
        · exact backA_ne (.inr hi)
      rw [e] at h
      obtain ⟨v, hv, rs⟩ := S.env.rep i s h n
      refine ⟨v, hv, ?_⟩
      cases rs with
      | fz q => exact .fz (RepF.later lt _ _ q)
      | @ow a d q =>
        have hown : Owns σ r i a := ⟨⟨d, h⟩, hv⟩
        exact .ow (q.later lt (same i a hown fun z => hl ⟨⟨d, h⟩, z⟩))
      | fn y => exact .fn y
      | scr q => exact .scr fun H2 l2 => q H2 (lt.trans l2)
  · obtain ⟨⟨d, h1⟩, h2⟩ := hi
    obtain ⟨⟨d', h1'⟩, h2'⟩ := hj
    exact S.env.one i j a ⟨ow i d h1, h2⟩ ⟨ow j d' h1', h2'⟩
  · have h' := S.dat i h
    by_cases hl : isOw r i ∧ Val.bor i ∈ vs
    · obtain ⟨⟨y, hy⟩, hm⟩ := hl
      obtain ⟨t, v, h1, h2, _, _⟩ := lent i y hy hm
      cases t with
      | fz z => exact .inr ⟨z, h1⟩
      | ow z => exact .inl ⟨z, h1⟩
      | _ => exact h2.elim
    · have e : (backA vs outs r)[i]? = r[i]? := by
        by_cases hi : isOw r i
        · exact backA_ne (.inl fun z => hl ⟨hi, z⟩)
        · exact backA_ne (.inr hi)
      unfold hasD at h' ⊢
      rw [e]
      exact h'
/-- the call's promise, from the wish -/
theorem sp_of (en : EnvR P w K H0 σ r0) {Φ : Str → List FJ.Slot → Res} {f : Str} {us : List V} {vs : List Val} {Q : VK} {E : XK} (S : Stp P w K σ r0 r H0 H) (pr : Paired (ValR P w K H σ r) us vs) (nw : NewL H0 us vs)
    (h : Wp (called Φ f vs r) fun v r' => ∀ u H', Stp P w K σ r0 r' H0 H' → ValR P w K H' σ r' u v → New H0 u v → Q u H') : spF P w K Φ f us H Q E := by
  unfold called at h
  by_cases nb : (borsOf vs).Nodup
  · rw [if_pos nb] at h
    cases ha : argsOf r vs with
    | none => rw [ha] at h; exact h.elim
    | some as =>
      simp only [ha] at h
      refine ⟨as, (args_env S.env pr nw.1 nb ha).1, ?_⟩
      cases hf : Φ f as with
      | exc c x => simp only [hf] at h; exact h.elim
      | stuck => simp only [hf] at h; exact h.elim
      | ok s outs =>
        simp only [hf] at h ⊢
        by_cases ho : outs.length = as.length
        · refine ⟨ho, fun u H' x hb ret => ?_⟩
          rw [if_pos ho] at h
          have S' := call_step S pr nw nb ha x ho hb
          cases ret with
          | fz q => exact h u H' S' (.d q) New.d
          | @ow a y q hn =>
            refine h _ H' S' (.fresh q fun z => ?_) fun _ _ => ⟨a, rfl, S.none hn⟩
            have z' : Own σ r0 a := S'.own z
            obtain ⟨i', z2⟩ := z'
            have : H a ≠ none := S.ext.dom a fun e => by
              exact notOwn en e ⟨i', z2⟩
            exact this hn
        · rw [if_neg ho] at h; exact h.elim
  · rw [if_neg nb] at h; exact h.elim
end
end FJ

set_option Elab.async false
set_option linter.all false
set_option autoImplicit false
set_option maxRecDepth 100000
set_option maxHeartbeats 0
/-! Ev4e: calls as expressions: defs, built-ins, methods, items, slices. -/
namespace FJ
open PySem PySem.Spec L2
open PyProof.Rows hiding St

section
variable {X : Cx} {Φ : Str → List FJ.Slot → Res} {a b c : Expr} {x y z : IE} {pos : Pos}
/-! ### arguments -/
theorem a_nil : GA X Φ [] .nil := pa_nil.imp fun τ G Q q => by
  obtain ⟨r, en, hw⟩ := q
  rw [denV] at hw
  exact hw [] G (Stp.refl en) .nil ⟨List.nodup_nil, fun a h => absurd h List.not_mem_nil⟩
theorem a_cons {e : Expr} {es : List Expr} {xs : IL} (h : GE X Φ e x) (t : GA X Φ es xs) (ns : noStar e) : GA X Φ (e :: es) (.cons x xs) := (pa_cons h t (ns es X.env)).imp fun τ G Q q => by
  obtain ⟨r, en, hw⟩ := q
  rw [denV] at hw
  refine ⟨r, en, (Wp.bind hw).mono fun v r1 h1 u G1 S V N => ⟨r1, S.env, (Wp.bind h1).mono fun vs r2 h2 us G2 S2 R NL => ?_⟩⟩
  have S' := S.trans S2
  refine h2 (u :: us) G2 S' (.cons (S2.val S.env V) R) ?_
  have old : ∀ a ∈ fAddr us vs, G a = none := fun a ha => S.none (NL.2 a ha)
  cases u with
  | ref a =>
    cases v with
    | fresh d =>
      obtain ⟨a', ea, hn⟩ := N d rfl
      cases ea
      have hne : G1 a ≠ none := by
        cases V with
        | fresh ro no =>
          obtain ⟨u, hu, _⟩ := ro.at_
          rw [hu]
          exact fun z => nomatch z
      refine ⟨List.nodup_cons.mpr ⟨fun z => hne (NL.2 a z), NL.1⟩, fun b hb => ?_⟩
      rcases List.mem_cons.mp hb with e | hb
      · rw [e]; exact hn
      · exact old b hb
    | _ => exact ⟨NL.1, old⟩
  | _ => cases v <;> exact ⟨NL.1, old⟩
/-- the names' facts -/
structure FnR' (X : Cx) (Φ : Str → List FJ.Slot → Res) (k : Nat) (f : Str) : Prop where
  ex : ∃ (fd : FuncData) (ps : List Str), FnOk X.prog X.w X.K X.mg X.base CX0 k (He.ga X.K f) fd ps (spF X.prog X.w X.K Φ f) ∧ Binds X.K fd ps []
  kp : PySem.W.keepIn X.K (.ref (He.ga X.K f)) = true
  mg : X.mg f = some (.ref (He.ga X.K f))
theorem noStar_any {es : List Expr} {env : Env} {pos : Pos} (h : ∀ e ∈ es, noStar e) : (backTo pos (starEach es env)).any (·.1) = false := by
  induction es with
  | nil => rfl
  | cons e es ih =>
    rw [h e (List.mem_cons_self ..) es env]
    show (false || (backTo pos (starEach es env)).any (·.1)) = false
    rw [ih fun e' he => h e' (List.mem_cons_of_mem _ he)]
    rfl
theorem sp_nil {f : Str} {vs : List V} {G : Hp} {Q : VK} {E : XK} (h : spF X.prog X.w X.K Φ f vs G Q E) : spF X.prog X.w X.K Φ f (vs ++ []) G Q E := by
  rw [List.append_nil]
  exact h
theorem e_call0 {f : Str} {k : Nat} {p : Pos} (F : FnR' X Φ k f) (hr : Room k X.A) (hg : Gl X f) (hd : (f == ("__debug__" : Str)) = false) : GE X Φ (.Call (.Name f p) [] [] pos) (.call f .nil) := by
  obtain ⟨fd, ps, F1, F2⟩ := F.ex
  refine (pe_call0 (E := E0) F1 hr hg F.mg F.kp F2 .nil pass0 hd).imp fun τ G Q q => ?_
  obtain ⟨r, en, hw⟩ := q
  rw [den, denV] at hw
  exact sp_nil (E := E0) (sp_of en (us := []) (vs := []) (E := E0) (Stp.refl en) .nil ⟨List.nodup_nil, fun a h => absurd h List.not_mem_nil⟩ hw)
theorem e_call {f : Str} {k : Nat} {e : Expr} {es : List Expr} {xs : IL} {p : Pos} (F : FnR' X Φ k f) (hr : Room k X.A) (hg : Gl X f) (hd : (f == ("__debug__" : Str)) = false) (ha : GA X Φ (e :: es) xs) (ns : ∀ e' ∈ e :: es, noStar e') : GE X Φ (.Call (.Name f p) (e :: es) [] pos) (.call f xs) := by
  obtain ⟨fd, ps, F1, F2⟩ := F.ex
  refine (pe_call (E := E0) F1 hr hg F.mg F.kp F2 .nil pass0 ha hd (ns e (List.mem_cons_self ..) es X.env) (noStar_any fun e' he => ns e' (List.mem_cons_of_mem _ he))).imp fun τ G Q q => ?_
  obtain ⟨r, en, hw⟩ := q
  rw [den] at hw
  exact ⟨r, en, (Wp.bind hw).mono fun vs r1 h us G1 S R NL => sp_nil (sp_of en S R NL h)⟩
theorem callv_known {i : Nat} {xs : IL} {r : Rh} {C : Val → Rh → Prop} (h : Wp (den Φ (.callv i xs) r) C) : ∃ f, r[i]? = some (.fn f) ∧ Wp ((denV Φ xs r).bind fun vs r1 => called Φ f vs r1) C ∧ ∃ as s outs, Φ f as = .ok s outs := by
  rw [den] at h
  split at h
  · rename_i f hf
    refine ⟨f, hf, h, ?_⟩
    have h := Wp.bind h
    cases hv : denV Φ xs r with
    | exc _ _ => rw [hv] at h; exact h.elim
    | stuck => rw [hv] at h; exact h.elim
    | ok vs r1 =>
      rw [hv] at h
      have h : Wp (called Φ f vs r1) C := h
      unfold called at h
      by_cases nb : (borsOf vs).Nodup
      · rw [if_pos nb] at h
        cases ha : argsOf r1 vs with
        | none => simp only [ha] at h; exact h.elim
        | some as =>
          simp only [ha] at h
          cases hf : Φ f as with
          | ok s outs => exact ⟨as, s, outs, hf⟩
          | exc c x => simp only [hf] at h; exact h.elim
          | stuck => simp only [hf] at h; exact h.elim
      · rw [if_neg nb] at h; exact h.elim
  · exact h.elim
theorem e_callv {i : Nat} {x : Str} {k : Nat} {e : Expr} {es : List Expr} {xs : IL} {p : Pos} (F : ∀ f as s outs, Φ f as = .ok s outs → FnR' X Φ k f) (hr : Room k X.A) (hN : X.N[i]? = some x) (hv : Vis X.env.scope x) (hd : (x == ("__debug__" : Str)) = false) (hc : (x == ("__classdict__" : Str)) = false)
    (ha : GA X Φ (e :: es) xs) (ns : ∀ e' ∈ e :: es, noStar e') : GE X Φ (.Call (.Name x p) (e :: es) [] pos) (.callv i xs) := by
  refine ⟨fun ps s0 τ G Q J q => ?_⟩
  obtain ⟨r, en, hw⟩ := q
  obtain ⟨f, hf, hw, as, s, outs, hk⟩ := callv_known hw
  have FR := F f as s outs hk
  obtain ⟨fd, pss, F1, F2⟩ := FR.ex
  refine (pe_callL (i := i) (E := E0) (pos := pos) F1 hr hN hv FR.kp F2 .nil pass0 ha hd hc (ns e (List.mem_cons_self ..) es X.env) (noStar_any fun e' he => ns e' (List.mem_cons_of_mem _ he))).run ps s0 τ G Q J ?_
  obtain ⟨v, e1, rs⟩ := en.rep i _ hf (fun z => nomatch z)
  cases rs
  exact ⟨e1, r, en, (Wp.bind hw).mono fun vs r1 h us G1 S R NL => sp_nil (sp_of en S R NL h)⟩

/-! ### built-ins -/
/-- a built-in name that the module leaves alone -/
structure Bn (X : Cx) (f : Str) (u : Value) : Prop where
  gl : Gl X f
  mg : X.mg f = none
  bt : bootBuiltins f = some u
  nn : f ≠ "__name__"
  nd : (f == ("__debug__" : Str)) = false
def nmB1 : B1 → Str
  | .len => "len"
  | .tuple => "tuple"
  | .list => "list"
  | .int => "int"
  | .dict => "dict"
  | .sorted => "sorted"
  | .sset => "sorted"
  | .all => "all"
  | .any => "any"
  | .repr => "repr"
  | .max => "max"
theorem callR_imp {f : Value} {r r' : List V → Hp → VK → Prop} (h : CallR X f r) (i : ∀ vs G Q, r' vs G Q → r vs G Q) : CallR X f r' := fun ps s0 τ G vs us Q J rv q => h ps s0 τ G vs us Q J rv (i vs G Q q)
/-- a call of a built-in by its name -/
theorem pe_bn {f : Str} {u : Value} {e : Expr} {es : List Expr} {r : List V → Hp → VK → Prop} {t : TA} {p : Pos} (B : Bn X f u) (hu : (∃ id, u = .builtin id) ∨ ∃ T, u = .type T) (hc : CallR X u r) (ha : PA X (e :: es) t) (ns : ∀ e' ∈ e :: es, noStar e') : PE X (.Call (.Name f p) (e :: es) [] pos) (tCB r t) := by
  have n1 := ns e (List.mem_cons_self ..) es X.env
  have n2 := noStar_any (env := X.env) (pos := pos) fun e' he => ns e' (List.mem_cons_of_mem (a := e') e he)
  rcases hu with ⟨id, rfl⟩ | ⟨T, rfl⟩
  · exact pe_callB hc B.gl B.mg B.bt ha B.nn B.nd n1 n2
  · exact pe_callTy hc B.gl B.mg B.bt ha B.nn B.nd n1 n2
/-- one argument's reading -/
theorem one_tA {Q : List V → Hp → Prop} {τ : St} {G : Hp} {m : Rh → Out Val} (h : tE X.prog X.w X.K m τ G fun u G1 => Q [u] G1) : tCons (tE X.prog X.w X.K m) tNil τ G Q := h
def rLenS (K : PySem.W.Frag) (b : B1) : List V → Hp → VK → Prop := fun vs G Q => b = .len ∧ ∃ a ns, vs = [.ref a] ∧ SqL K G a (ns.map V.int) ∧ Q (.int (ns : List Int).length) G
theorem e_b1 (hc : X.calm = true) (hu : X.A.units + 200 < cLine) {o : B1} {p : Pos} (B : Bn X (nmB1 o) (fnB1 o)) (ha : GE X Φ a x) (ns : noStar a) : GE X Φ (.Call (.Name (nmB1 o) p) [a] [] pos) (.b1 o x) := by
  have hk : (∃ id, fnB1 o = .builtin id) ∨ ∃ T, fnB1 o = .type T := by cases o <;> first | exact .inl ⟨_, rfl⟩ | exact .inr ⟨_, rfl⟩
  have hcr : CallR X (fnB1 o) (fun vs G Q => rB1 X.prog X.w X.K o vs G Q ∨ rLenS X.K o vs G Q) := by
    refine (call_b1 hc hu o).or fun ps s0 τ G vs us Q J rv q => ?_
    obtain ⟨rfl, l, ns, rfl, hl, q⟩ := q
    exact call_len_seq ps s0 τ G _ us Q J rv ⟨l, _, rfl, .inl hl, by rw [List.length_map]; exact q⟩
  refine (pe_bn B hk hcr (pa_cons ha pa_nil (ns [] X.env)) fun e' he => by cases List.mem_singleton.mp he; exact ns).imp fun τ G Q q => ?_
  obtain ⟨r, en, hw⟩ := q
  rw [den] at hw
  refine one_tA ⟨r, en, (Wp.bind hw).mono fun v r1 h u G1 S V N => ?_⟩
  have pk : ∀ d, v.peek r1 = some d → Wp (ofO (b1D o d) r1) (fun v r' => ∀ u H', Stp X.prog X.w X.K τ r r' G H' → ValR X.prog X.w X.K H' τ r' u v → New G u v → Q u H') → rB1 X.prog X.w X.K o [u] G1 Q := fun d hd h => by
    rcases Wp.ofO h with ⟨d', hd', q⟩ | ⟨d', hd', q⟩
    · exact ⟨u, d, _, rfl, V.peek S.env hd, hd', gets S (.inl ⟨_, rfl⟩) q⟩
    · exact ⟨u, d, _, rfl, V.peek S.env hd, hd', gets S (.inr ⟨_, rfl⟩) q⟩
  cases V with
  | scr hh =>
    by_cases ho : o = .len
    · subst ho
      exact .inr ⟨rfl, _, _, rfl, hh G1 (Later.refl G1), h _ G1 S (.d (.int _)) New.d⟩
    · have h : Wp (if o = .len then _ else _) _ := h
      rw [if_neg ho] at h; exact h.elim
  | d hx => exact .inl (pk _ rfl h)
  | fresh ro no => exact .inl (pk _ rfl h)
  | @bor i v hs hr =>
    cases hd : (Val.bor i).peek r1 with
    | none => simp only [hd] at h; exact h.elim
    | some d => simp only [hd] at h; exact .inl (pk d hd h)
  | fn z => exact h.elim
def nmB2 : B2 → Str
  | .min => "min"
  | .max => "max"
  | .lzip => "zip"
theorem e_b2 (hc : X.calm = true) {o : B2} {p : Pos} (B : Bn X (nmB2 o) (fnB2 o)) (ha : GE X Φ a x) (hb : GE X Φ b y) (na : noStar a) (nb : noStar b) : GE X Φ (.Call (.Name (nmB2 o) p) [a, b] [] pos) (.b2 o x y) := by
  by_cases hk : (∃ id, fnB2 o = .builtin id) ∨ ∃ T, fnB2 o = .type T
  · refine (pe_bn B hk (call_b2 hc o) (pa_cons ha (pa_cons hb pa_nil (nb [] X.env)) (na [b] X.env)) fun e' he => ?_).imp fun τ G Q q => ?_
    · rcases List.mem_cons.mp he with e | he
      · subst e; exact na
      · cases List.mem_singleton.mp he; exact nb
    · obtain ⟨r, en, hw⟩ := q
      rw [den] at hw
      refine two en hw fun v u r2 z1 z2 G2 S V U h => ?_
      obtain ⟨d1, d2, e1, e2, h⟩ := Wp.pk2 h
      rcases Wp.ofO h with ⟨d, hd, q⟩ | ⟨d, hd, q⟩
      · exact ⟨z1, z2, d1, d2, _, rfl, V.peek S.env e1, U.peek S.env e2, hd, gets S (.inl ⟨_, rfl⟩) q⟩
      · exact ⟨z1, z2, d1, d2, _, rfl, V.peek S.env e1, U.peek S.env e2, hd, gets S (.inr ⟨_, rfl⟩) q⟩
  · exfalso
    cases o
    · exact hk (.inl ⟨_, rfl⟩)
    · exact hk (.inl ⟨_, rfl⟩)
    · have := B.bt
      exact absurd this (by decide +kernel)
def nmTy : Ty → Str
  | .int => "int"
  | .bool => "bool"
  | .str => "str"
  | .tuple => "tuple"
  | .list => "list"
  | .dict => "dict"
theorem e_isi {t : Ty} {p p2 : Pos} (B : Bn X "isinstance" (.builtin "isinstance")) (T : Bn X (nmTy t) (.type (tyS t))) (ha : GE X Φ a x) (na : noStar a) : GE X Φ (.Call (.Name "isinstance" p) [a, .Name (nmTy t) p2] [] pos) (.isi t x) := by
  have nt : noStar (.Name (nmTy t) p2) := fun es env => rfl
  have hcr : CallR X (.builtin "isinstance") (fun vs G Q => ∃ v d, vs = [v, .ty (tyS t)] ∧ RepP X.prog X.w X.K G v d ∧ Q (.bl (isTy t d)) G) := fun ps s0 τ G vs us Q J rv q => by
    obtain ⟨v, d, rfl, hd, q⟩ := q
    obtain ⟨u1, u2, rfl, r1, r2⟩ := vals2 rv
    cases r2
    exact call_isT t J hd r1 q
  refine (pe_bn B (.inl ⟨_, rfl⟩) hcr (pa_cons ha (pa_cons (pe_bltn (v := .ty (tyS t)) T.gl T.mg T.bt rfl T.nn T.nd) pa_nil (nt [] X.env)) (na _ X.env)) fun e' he => ?_).imp fun τ G Q q => ?_
  · rcases List.mem_cons.mp he with e | he
    · subst e; exact na
    · cases List.mem_singleton.mp he; exact nt
  · obtain ⟨r, en, hw⟩ := q
    rw [den] at hw
    refine ⟨r, en, (Wp.pkd hw).mono fun v r1 h u G1 S V N => ?_⟩
    obtain ⟨d, hd, h⟩ := h
    exact ⟨u, d, rfl, V.peek S.env hd, h _ G1 S (.d (.bl _)) New.d⟩

/-! ### items, slices -/
theorem e_item (hu : X.A.units + 200 < cLine) (ha : GE X Φ a x) (hb : GE X Φ b y) (hs : PlainIx b) : GE X Φ (.Subscript a b pos) (.item x y) := (pe_ix (ix_item hu) ha hb hs).imp fun τ G Q q => by
  obtain ⟨r, en, hw⟩ := q
  rw [den] at hw
  refine two en hw fun v u r2 z1 z2 G2 S V U h => ?_
  obtain ⟨d1, d2, e1, e2, h⟩ := Wp.pk2 h
  cases e3 : itemD d1 d2 with
  | none => rw [e3] at h; exact h.elim
  | some d =>
    rw [e3] at h
    exact ⟨d1, d2, d, V.peek S.env e1, U.peek S.env e2, e3, gets S (.inl ⟨_, rfl⟩) h⟩
abbrev GO (X : Cx) (Φ : Str → List FJ.Slot → Res) (e : Option Expr) (x : IO) : Prop := PO X e (tO X.prog X.w X.K (denO Φ x))
theorem o_none : GO X Φ none .none := po_none.imp fun τ G Q q => by
  obtain ⟨r, en, hw⟩ := q
  rw [denO] at hw
  exact hw G (Stp.refl en)
theorem o_some (ha : GE X Φ a x) : GO X Φ (some a) (.some x) := (po_some ha).imp fun τ G Q q => by
  obtain ⟨r, en, hw⟩ := q
  rw [denO] at hw
  refine ⟨r, en, (Wp.dat hw).mono fun v r1 h u G1 S V N => ?_⟩
  obtain ⟨d, rfl, h⟩ := h
  cases V with
  | d hx =>
    cases d with
    | int i => cases hx; exact ⟨i, rfl, h G1 S⟩
    | _ => exact h.elim
theorem e_slc {lo hi : Option Expr} {l h : IO} {p2 : Pos} (ha : GE X Φ a x) (hl : GO X Φ lo l) (hh : GO X Φ hi h) : GE X Φ (.Subscript a (.Slice lo hi none p2) pos) (.slc x l h) := (pe_slice sl_any ha hl hh).imp fun τ G Q q => by
  obtain ⟨r, en, hw⟩ := q
  rw [den] at hw
  refine ⟨r, en, (Wp.bind hw).mono fun v r1 h1 u G1 S1 V N => ⟨r1, S1.env, (Wp.bind h1).mono fun l r2 h2 G2 S2 => ⟨r2, S2.env, (Wp.bind h2).mono fun hv r3 h3 G3 S3 => ?_⟩⟩⟩
  have S := (S1.trans S2).trans S3
  have V3 := S3.val S2.env (S2.val S1.env V)
  cases hd : v.peek r3 with
  | none => simp only [hd] at h3; exact h3.elim
  | some d =>
    simp only [hd] at h3
    rcases Wp.ofO h3 with ⟨d', hd', q⟩ | ⟨d', hd', q⟩
    · exact ⟨d, _, V3.peek S.env hd, hd', gets S (.inl ⟨_, rfl⟩) q⟩
    · exact ⟨d, _, V3.peek S.env hd, hd', gets S (.inr ⟨_, rfl⟩) q⟩
end
end FJ

set_option Elab.async false
set_option linter.all false
set_option autoImplicit false
set_option maxRecDepth 100000
set_option maxHeartbeats 0
/-! Ev4f: methods, targets, what is walked. -/
namespace FJ
open PySem PySem.Spec L2
open PyProof.Rows hiding St

theorem attrB {o : Expr} {m : Str} {env : Env} {wh : Sem Value} (h : callB o = false) : attributeBase o m env wh = wh := by
  cases o <;> first | rfl | cases h
theorem few1 {e : Expr} {cp : Pos} {env : Env} (n : noStar e) : ((backTo cp (starEach [e] env)).all (fun x => !x.1) && (backToKw cp (keywordEach [] env)).all (fun x => x.1.isSome) && decide (([e] : List Expr).length + ([] : List Keyword).length + (if ([] : List Keyword).isEmpty then 0 else 1) < 30)) = true := by
  rw [n [] env]
  rfl
theorem few2 {e f : Expr} {cp : Pos} {env : Env} (n : noStar e) (n' : noStar f) : ((backTo cp (starEach [e, f] env)).all (fun x => !x.1) && (backToKw cp (keywordEach [] env)).all (fun x => x.1.isSome) && decide (([e, f] : List Expr).length + ([] : List Keyword).length + (if ([] : List Keyword).isEmpty then 0 else 1) < 30)) = true := by
  rw [n [f] env, n' [] env]
  rfl
theorem pl1 {e : Expr} {cp : Pos} {env : Env} (n : noStar e) : (backTo cp (starEach [e] env)).any (·.1) = false := by
  rw [n [] env]
  rfl
section
variable {X : Cx} {Φ : Str → List FJ.Slot → Res} {a b c : Expr} {x y z : IE} {pos ap : Pos}
theorem e_get (hu : X.A.units + 200 < cLine) (ha : GE X Φ a x) (hb : GE X Φ b y) (hc : GE X Φ c z) (nb : noStar b) (nc : noStar c) (h0 : callB a = false) (hl : (ap.endLine == pos.line) = true) :
    GE X Φ (.Call (.Attribute a "get" ap) [b, c] [] pos) (.get x y z) :=
  (pe_mth F.plainAttrs_dict F.slot_dict_get F.type_dict_get (mt_get hu) ha (pa_cons hb (pa_cons hc pa_nil (nc [] X.env)) (nb [c] X.env)) (attrB h0) (few2 nb nc) hl (nb [c] X.env) (pl1 nc)).imp fun τ G Q q => by
    obtain ⟨r, en, hw⟩ := q
    rw [den] at hw
    refine ⟨r, en, (Wp.bind hw).mono fun v r1 h u G1 S V N => ?_⟩
    cases hd : v.peek r1 with
    | none => simp only [hd] at h; exact h.elim
    | some d =>
      simp only [hd] at h
      cases d with
      | dict kvs =>
        refine ⟨⟨_, V.peek S.env hd, by simp [boxT]⟩, r1, S.env, (Wp.bind h).mono fun w r2 h2 u2 G2 S2 V2 N2 => ⟨r2, S2.env, (Wp.dat h2).mono fun v3 r3 h3 u3 G3 S3 V3 N3 => ?_⟩⟩
        obtain ⟨d3, rfl, h3⟩ := h3
        obtain ⟨d1, d2, e1, e2, h3⟩ := Wp.pk2 h3
        have S' := (S.trans S2).trans S3
        cases e3 : getD d1 d2 d3 with
        | none => rw [e3] at h3; exact h3.elim
        | some d =>
          rw [e3] at h3
          cases V3 with
          | d hx => exact ⟨u2, u3, d1, d2, d3, d, rfl, (S3.val S2.env (S2.val S.env V)).peek S'.env e1, (S3.val S2.env V2).peek S'.env e2, hx, e3, gets S' (.inl ⟨_, rfl⟩) h3⟩
      | _ => exact h.elim
theorem e_index (hu : X.A.units + 200 < cLine) (ha : GE X Φ a x) (hb : GE X Φ b y) (nb : noStar b) (h0 : callB a = false) (hl : (ap.endLine == pos.line) = true) : GE X Φ (.Call (.Attribute a "index" ap) [b] [] pos) (.index x y) := by
  refine ⟨fun ps s0 τ G Q J q => ?_⟩
  obtain ⟨r, en, hw⟩ := q
  rw [den] at hw
  have hw := Wp.bind hw
  cases hx : den Φ x r with
  | exc _ _ => rw [hx] at hw; exact hw.elim
  | stuck => rw [hx] at hw; exact hw.elim
  | ok v r1 =>
    have hx' := hx
    rw [hx] at hw
    cases hd : v.peek r1 with
    | none => (have hw : Wp (match v.peek r1 with | some d0 => _ | none => _) _ := hw); simp only [hd] at hw; exact hw.elim
    | some d0 =>
      have hw : Wp (match v.peek r1 with | some d0 => _ | none => _) _ := hw
      simp only [hd] at hw
      -- the reading for a type T
      have go : ∀ (T : String) (D : V → Hp → Prop), boxT d0 T = true → (∀ u G1 d, RepP X.prog X.w X.K G1 u d → sameK d0 d = true → D u G1) →
          tMth X.prog X.w X.K T (fun x vs H Q => rIdx X.prog X.w X.K x vs H Q ∧ D x H) (tE X.prog X.w X.K (den Φ x)) (tCons (tE X.prog X.w X.K (den Φ y)) tNil) τ G Q := fun T D hT hD => by
        refine ⟨r, en, ?_⟩
        rw [hx']
        intro u G1 S V N
        refine ⟨⟨d0, V.peek S.env hd, hT⟩, r1, S.env, (Wp.bind hw).mono fun w r2 h2 u2 G2 S2 V2 N2 => ?_⟩
        obtain ⟨d1, d2, e1, e2, h3⟩ := Wp.pk2 h2
        have S' := S.trans S2
        by_cases hk : sameK d0 d1 = true
        · rw [if_pos hk] at h3
          have p1 := (S2.val S.env V).peek S'.env e1
          rcases Wp.ofO h3 with ⟨d', hd', q⟩ | ⟨d', hd', q⟩
          · exact ⟨⟨u2, d1, d2, _, rfl, p1, V2.peek S'.env e2, hd', gets S' (.inl ⟨_, rfl⟩) q⟩, hD _ _ d1 p1 hk⟩
          · exact ⟨⟨u2, d1, d2, _, rfl, p1, V2.peek S'.env e2, hd', gets S' (.inr ⟨_, rfl⟩) q⟩, hD _ _ d1 p1 hk⟩
        · rw [if_neg hk] at h3; exact h3.elim
      have pab := pa_cons hb pa_nil (nb [] X.env)
      cases d0 with
      | list ds =>
        exact (pe_mth F.plainAttrs_list F.slot_list_index F.type_list_index (mt_idxL hu) ha pab (attrB h0) (few1 nb) hl (nb [] X.env) rfl).run ps s0 τ G Q J (go "list" _ (by simp [boxT]) fun u G1 d hd hk => by
          cases d with
          | list ds' => exact ⟨ds', hd⟩
          | _ => cases hk)
      | tuple ds =>
        exact (pe_mth F.plainAttrs_tuple F.slot_tuple_index F.type_tuple_index mt_idxT ha pab (attrB h0) (few1 nb) hl (nb [] X.env) rfl).run ps s0 τ G Q J (go "tuple" _ (by simp [boxT]) fun u G1 d hd hk => by
          cases d with
          | tuple ds' => exact ⟨ds', hd⟩
          | _ => cases hk)
      | _ =>
        exfalso
        have hw := Wp.bind hw
        cases hy : den Φ y r1 with
        | exc _ _ => rw [hy] at hw; exact hw.elim
        | stuck => rw [hy] at hw; exact hw.elim
        | ok w r2 =>
          rw [hy] at hw
          obtain ⟨d1, d2, e1, e2, h3⟩ := Wp.pk2 (hw : Wp (pk2 v w r2 _) _)
          rw [if_neg (by cases d1 <;> exact Bool.false_ne_true)] at h3
          exact h3.elim
/-- x.pop() -/
theorem e_popl {i : Nat} {n : Str} {p : Pos} (hN : X.N[i]? = some n) (hv : Vis X.env.scope n) (hd : (n == ("__debug__" : Str)) = false) (hc : (n == ("__classdict__" : Str)) = false) (hl : (ap.endLine == pos.line) = true) : GE X Φ (.Call (.Attribute (.Name n p) "pop" ap) [] [] pos) (.popl i) :=
  (pe_mth0 F.plainAttrs_list F.slot_list_pop F.type_list_pop mt_popF (e_pk Φ hN hv hd hc) rfl hl).imp fun τ G Q q => by
    obtain ⟨r, en, hw⟩ := q
    rw [den] at hw
    split at hw
    · rename_i ds hs
      split at hw
      · rename_i d hdd
        obtain ⟨a, ha, ro, ho⟩ := en.owned hs
        have hl := (List.getElem?_eq_some_iff.mp hs).1
        refine ⟨r, en, ?_⟩
        rw [den, hs]
        intro u G1 S V N
        cases V with
        | bor hs' hr' =>
          rw [ha] at hs'
          cases hs'
          obtain ⟨a', ha', ro1, _⟩ := S.env.owned hs
          rw [ha] at ha'; cases ha'
          refine ⟨⟨_, .ow ro1, by simp [boxT]⟩, a, ds, d, rfl, rfl, ro1, hdd, fun o y ro2 ry => ?_⟩
          obtain ⟨u0, hu0, om⟩ := ro1.at_
          have lt : Later G1 (upd G1 a o) := om.upd hu0
          have own : Own τ r a := S.own ⟨i, ho⟩
          refine hw y _ ⟨⟨fun b ob e n t => ?_, fun b hb => ?_⟩, S.env.own_set hs ha lt (fun b hb => .inl (upd_ne hb)) (.ow ro2), fun j z h => ?_, fun j h => ?_⟩ (.d ry) New.d
          · rw [upd_ne (fun z => n (by rw [z]; exact own))]
            exact S.ext.keep b ob e n t
          · by_cases hba : b = a
            · rw [hba, upd_same]; exact fun z => nomatch z
            · rw [upd_ne hba]; exact S.ext.dom b hb
          · by_cases hj : j = i
            · subst hj; exact ⟨_, hs⟩
            · rw [List.getElem?_set_ne (Ne.symm hj)] at h; exact ⟨z, h⟩
          · by_cases hj : j = i
            · subst hj; exact .inl ⟨_, List.getElem?_set_self hl⟩
            · unfold hasD at h ⊢
              rw [List.getElem?_set_ne (Ne.symm hj)]
              exact h
      · exact hw.elim
    · exact hw.elim
end
end FJ

set_option Elab.async false
set_option linter.all false
set_option autoImplicit false
set_option maxRecDepth 100000
set_option maxHeartbeats 0
/-! Ev4g: targets, what is walked. -/
namespace FJ
open PySem PySem.Spec L2
open PyProof.Rows hiding St

section
variable {P : Program} {w : World} {K : PySem.W.Frag} {H H' H0 : Hp} {σ : St} {r : Rh}
/-- a value that is handed out: frozen data, or (pl = false) a new pair -/
inductive YR (P : Program) (w : World) (K : PySem.W.Frag) (H : Hp) : Bool → V → PyData → Prop
  | fz {pl : Bool} {v : V} {d : PyData} : RepF P w K H v d → YR P w K H pl v d
  | pr {T : Addr} {xs : List V} {ds : List PyData} : SqT K H T xs → RepFs P w K H xs ds → YR P w K H false (.ref T) (.tuple ds)
def isTp : ITg → Bool
  | .nm _ => false
  | .tp _ => true
def plI : II → Bool
  | .enum _ => false
  | .zip _ _ => false
  | .items _ => false
  | _ => true
theorem tgOk_is {t : ITg} {it : II} (h : tgOk t it = true) : plI it = true ∨ isTp t = true := by
  cases t <;> cases it <;> first | exact .inl rfl | exact .inr rfl | cases h
/-- targets stored -/
structure TgS (σ σ' : St) (r r' : Rh) (ns : List Nat) : Prop where
  so : ∀ i, i ∉ ns → σ'[i]? = σ[i]?
  ro : ∀ i, i ∉ ns → r'[i]? = r[i]?
  own : ∀ (i : Nat) a, Owns σ' r' i a → Owns σ r i a ∧ i ∉ ns
  dat : ∀ i, hasD r i → hasD r' i
theorem TgS.refl : TgS σ σ r r [] := ⟨fun _ _ => rfl, fun _ _ => rfl, fun _ _ h => ⟨h, List.not_mem_nil⟩, fun _ h => h⟩
theorem TgS.trans {σ1 σ2 : St} {r1 r2 : Rh} {ns ms : List Nat} (a : TgS σ σ1 r r1 ns) (b : TgS σ1 σ2 r1 r2 ms) : TgS σ σ2 r r2 (ns ++ ms) :=
  ⟨fun i h => by rw [List.mem_append, not_or] at h; rw [b.so i h.2, a.so i h.1], fun i h => by rw [List.mem_append, not_or] at h; rw [b.ro i h.2, a.ro i h.1], fun i c h => by
    obtain ⟨h1, h2⟩ := b.own i c h
    obtain ⟨h3, h4⟩ := a.own i c h1
    exact ⟨h3, fun z => (List.mem_append.mp z).elim h4 h2⟩, fun i h => b.dat i (a.dat i h)⟩
def tG (P : Program) (w : World) (K : PySem.W.Frag) (t : ITg) : TG := fun v σ H Q => ∃ r pl d, EnvR P w K H σ r ∧ YR P w K H pl v d ∧ (pl = true ∨ isTp t = true) ∧ match tgD t d r with
  | some r' => ∀ σ', EnvR P w K H σ' r' → TgS σ σ' r r' (tgNames t) → Q σ' H
  | none => False
def tGs (P : Program) (w : World) (K : PySem.W.Frag) (ts : ITgs) : TGs := fun vs σ H Q => ∃ r ds, EnvR P w K H σ r ∧ RepFs P w K H vs ds ∧ match tgsD ts ds r with
  | some r' => ∀ σ', EnvR P w K H σ' r' → TgS σ σ' r r' (tgsNames ts) → Q σ' H
  | none => False
/-- a slot gets frozen data -/
theorem set_fz (en : EnvR P w K H σ r) {i : Nat} {v : V} {d : PyData} (h : RepF P w K H v d) (hi : i < r.length) : EnvR P w K H (σ.set i (some v)) (r.set i (.fz d)) ∧ TgS σ (σ.set i (some v)) r (r.set i (.fz d)) [i] := by
  refine ⟨en.set (fun _ => .fz h) (fun a d e => nomatch e), fun j hj => ?_, fun j hj => ?_, fun j a ho => ?_, fun j hj => ?_⟩
  · rw [List.getElem?_set_ne (fun z => hj (by simp [z]))]
  · rw [List.getElem?_set_ne (fun z => hj (by simp [z]))]
  · by_cases hji : j = i
    · subst hji
      obtain ⟨⟨y, h1⟩, _⟩ := ho
      rw [List.getElem?_set_self hi] at h1
      cases h1
    · exact ⟨(owns_set_ne hji).mp ho, by simp [hji]⟩
  · by_cases hji : j = i
    · subst hji
      exact .inr ⟨d, List.getElem?_set_self hi⟩
    · unfold hasD at hj ⊢
      rw [List.getElem?_set_ne (Ne.symm hji)]
      exact hj
def tsLen : ITgs → Nat
  | .nil => 0
  | .cons _ ts => tsLen ts + 1
theorem tgsD_len : ∀ {ts : ITgs} {ds : List PyData} {r r' : Rh}, tgsD ts ds r = some r' → ds.length = tsLen ts
  | .nil, [], _, _, _ => rfl
  | .cons t ts, d :: ds, r, r', h => by
    rw [tgsD] at h
    split at h
    · rw [List.length_cons, tsLen, tgsD_len h]
    · cases h
  | .nil, _ :: _, _, _, h => by simp [tgsD] at h
  | .cons _ _, [], _, _, h => by simp [tgsD] at h
end

section
variable {X : Cx} {pos : Pos}
def noStarT (e : Expr) : Prop := ∀ es env, assignEach (e :: es) env = (false, assign e env) :: assignEach es env
theorem g_name {i : Nat} {x : Str} (hn : X.N.Nodup) (hN : X.N[i]? = some x) (hx : Loc X.env.scope x) (hf : X.fn x = true ∨ X.env.scope.names.lookup x = some .local) : PG X (.Name x pos) (tG X.prog X.w X.K (.nm i)) := by
  refine ⟨fun ps s0 τ G v u Q J rv q => (pg_name hn hN hx hf).run ps s0 τ G v u Q J rv ?_⟩
  obtain ⟨r, pl, d, en, y, ok, q⟩ := q
  rcases ok with rfl | ok
  · cases y with
    | fz h =>
      have hi : i < r.length := by rw [← en.len, J.len]; exact (List.getElem?_eq_some_iff.mp hN).1
      obtain ⟨e1, e2⟩ := set_fz en h hi
      exact q _ e1 e2
  · cases ok
theorem g_nil : PGs X [] (tGs X.prog X.w X.K .nil) := pgs_nil.imp fun vs τ G Q q => by
  obtain ⟨r, ds, en, R, q⟩ := q
  cases R with
  | nil => exact ⟨rfl, q τ en TgS.refl⟩
  | cons _ _ => exact q.elim
theorem g_cons {e : Expr} {es : List Expr} {t : ITg} {ts : ITgs} (h1 : PG X e (tG X.prog X.w X.K t)) (h2 : PGs X es (tGs X.prog X.w X.K ts)) (ns : noStarT e) : PGs X (e :: es) (tGs X.prog X.w X.K (.cons t ts)) :=
  (pgs_cons h1 h2 (by rw [ns es X.env]; rfl)).imp fun vs τ G Q q => by
    obtain ⟨r, ds, en, R, q⟩ := q
    cases R with
    | nil => exact q.elim
    | cons a b =>
      refine ⟨_, _, rfl, r, true, _, en, .fz a, .inl rfl, ?_⟩
      rw [tgsD] at q
      cases h : tgD t _ r with
      | none => rw [h] at q; exact q.elim
      | some r1 =>
        rw [h] at q
        intro σ1 e1 s1
        refine ⟨r1, _, e1, b, ?_⟩
        have q : match tgsD ts _ r1 with
          | some r' => _
          | none => False := q
        cases h' : tgsD ts _ r1 with
        | none => rw [h'] at q; exact q.elim
        | some r2 =>
          rw [h'] at q
          exact fun σ2 e2 s2 => q σ2 e2 (s1.trans s2)
theorem assignEach_len : ∀ {es : List Expr} {env : Env}, (∀ e ∈ es, noStarT e) → (assignEach es env).length = es.length ∧ (assignEach es env).findIdx? (·.1) = none
  | [], _, _ => ⟨rfl, rfl⟩
  | e :: es, env, h => by
    obtain ⟨h1, h2⟩ := assignEach_len (es := es) (env := env) fun e' he => h e' (List.mem_cons_of_mem _ he)
    rw [h e (List.mem_cons_self ..) es env]
    refine ⟨by rw [List.length_cons, List.length_cons, h1], ?_⟩
    rw [List.findIdx?_cons, h2]
    rfl
theorem g_tup {es : List Expr} {k : Nat} {ts : ITgs} (hc : X.calm = true) (h : PGs X es (tGs X.prog X.w X.K ts)) (ns : ∀ e ∈ es, noStarT e) (hl : tsLen ts = es.length) : PG X (.Tuple es k pos) (tG X.prog X.w X.K (.tp ts)) :=
  (pg_tup hc h (assignEach_len ns).1 (assignEach_len ns).2).imp fun v τ G Q q => by
    obtain ⟨r, pl, d, en, y, ok, q⟩ := q
    have fin : ∀ {T : Addr} {xs : List V} {ds : List PyData}, SqT X.K G T xs → RepFs X.prog X.w X.K G xs ds → (match tgsD ts ds r with
        | some r' => ∀ σ', EnvR X.prog X.w X.K G σ' r' → TgS τ σ' r r' (tgsNames ts) → Q σ' G
        | none => False) → gTup X.K es.length (tGs X.prog X.w X.K ts) (.ref T) τ G Q := fun hT R q => by
      refine ⟨_, _, rfl, hT, ?_, r, _, en, R, q⟩
      cases h' : tgsD ts _ r with
      | none => rw [h'] at q; exact q.elim
      | some r' => rw [R.length, tgsD_len h', hl]
    cases y with
    | fz a =>
      cases d with
      | tuple ds =>
        obtain ⟨T, xs, rfl, hT, R⟩ := (RepP.fz a).tupI
        rw [tgD] at q
        exact fin hT.sq R q
      | _ => exact q.elim
    | pr hT R =>
      rw [tgD] at q
      exact fin hT R q
end

/-! ### what is walked -/
section
variable {P : Program} {w : World} {K : PySem.W.Frag} {H H' H0 : Hp}
structure Walk (P : Program) (w : World) (K : PySem.W.Frag) (J : It) (H0 : Hp) (ds : List PyData) (pl : Bool) : Prop where
  stop : ∀ H, Later H0 H → J.stop ds.length H
  go : ∀ i H, Later H0 H → i < ds.length → J.go i H
  yld : ∀ i H x H', Later H0 H → i < ds.length → J.yld i H x H' → ∃ d, ds[i]? = some d ∧ Grow H H' ∧ YR P w K H' pl x d
theorem walk_list {a : Addr} {xs : List V} {ds : List PyData} (h : ∀ H, Later H0 H → SqL K H a xs) (R : RepFs P w K H0 xs ds) : Walk P w K (Itl K a) H0 ds true := by
  have hl := R.length
  refine ⟨fun H l => ⟨xs, h H l, by omega⟩, fun i H l hi => ⟨xs, xs[i]'(by omega), h H l, List.getElem?_eq_getElem _⟩, fun i H x H' l hi y => ?_⟩
  obtain ⟨rfl, y⟩ := y
  obtain ⟨d, hd, rd⟩ := R.getV (y xs (h _ l))
  exact ⟨d, hd, Grow.refl _, .fz (RepF.later l _ _ rd)⟩
theorem walk_tup {a : Addr} {xs : List V} {ds : List PyData} (h : TP K H0 a xs) (R : RepFs P w K H0 xs ds) : Walk P w K (Itt K a) H0 ds true := by
  have hl := R.length
  have h' : ∀ H, Later H0 H → SqT K H a xs := fun H l => (l.tp h).sq
  refine ⟨fun H l => ⟨xs, h' H l, by omega⟩, fun i H l hi => ⟨xs, xs[i]'(by omega), h' H l, List.getElem?_eq_getElem _⟩, fun i H x H' l hi y => ?_⟩
  obtain ⟨rfl, y⟩ := y
  obtain ⟨d, hd, rd⟩ := R.getV (y xs (h' _ l))
  exact ⟨d, hd, Grow.refl _, .fz (RepF.later l _ _ rd)⟩
theorem walk_rng {j : Int} : Walk P w K (Itr 0 j.toNat) H0 (rngD j) true := by
  have hl : (rngD j).length = j.toNat := by simp [rngD]
  refine ⟨fun H l => by show j.toNat ≤ _; omega, fun i H l hi => by show i < j.toNat; omega, fun i H x H' l hi y => ?_⟩
  obtain ⟨rfl, rfl⟩ := y
  refine ⟨.int i, ?_, Grow.refl _, .fz ?_⟩
  · unfold rngD
    rw [List.getElem?_map, List.getElem?_range (by omega)]
    rfl
  · rw [Int.zero_add]; exact .int _
/-- the entries of a dict, as data -/
theorem DPairs.data {d : Addr} {o : Obj} {es : List (V × V)} {ps : List (PyData × PyData)} (h : (∃ kvs, H0 d = some (.frz o (.dK kvs)) ∧ es = kvs.map (fun p => (kV p.1, p.2)) ∧ RepKs P w K H0 kvs ps) ∨ ∃ ns, H0 d = some (.frz o (NdO P w d ns)) ∧ es = ns.map (fun e => (V.ref e.2.1, e.2.2)) ∧ RepNs P w K H0 ns ps) :
    DPairs P w H0 d o es ∧ RepPs P w K H0 es ps := by
  rcases h with ⟨kvs, h, rfl, R⟩ | ⟨ns, h, rfl, R⟩
  · refine ⟨.inl ⟨kvs, h, rfl⟩, ?_⟩
    exact keys R
  · refine ⟨.inr ⟨ns, h, rfl⟩, ?_⟩
    exact nest R
where
  keys : ∀ {kvs : List (Key × V)} {ps : List (PyData × PyData)}, RepKs P w K H0 kvs ps → RepPs P w K H0 (kvs.map fun p => (kV p.1, p.2)) ps
    | _, _, .nil => .nil
    | _, _, .cons z a t => by rw [List.map_cons]; exact .cons z.val a (keys t)
  nest : ∀ {ns : List NEnt} {ps : List (PyData × PyData)}, RepNs P w K H0 ns ps → RepPs P w K H0 (ns.map fun e => (V.ref e.2.1, e.2.2)) ps
    | _, _, .nil => .nil
    | _, _, .cons z _ a t => by rw [List.map_cons]; exact .cons z a (nest t)
theorem RepPs.at_ : ∀ {es : List (V × V)} {ps : List (PyData × PyData)}, RepPs P w K H es ps → es.length = ps.length ∧ ∀ (i : Nat) e, es[i]? = some e → ∃ p, ps[i]? = some p ∧ RepF P w K H e.1 p.1 ∧ RepF P w K H e.2 p.2
  | _, _, .nil => ⟨rfl, fun i e h => by simp at h⟩
  | _, _, .cons a b t => by
    obtain ⟨h1, h2⟩ := t.at_
    refine ⟨by rw [List.length_cons, List.length_cons, h1], fun i e h => ?_⟩
    cases i with
    | zero => cases h; exact ⟨_, rfl, a, b⟩
    | succ i =>
      rw [List.getElem?_cons_succ] at h ⊢
      exact h2 i e h
theorem walk_keys {d : Addr} {o : Obj} {es : List (V × V)} {ps : List (PyData × PyData)} (h : DPairs P w H0 d o es) (R : RepPs P w K H0 es ps) : Walk P w K (ItD P w d o es) H0 (ps.map (·.1)) true := by
  obtain ⟨hl, at_⟩ := R.at_
  refine ⟨fun H l => ⟨h.later l, by rw [List.length_map]; omega⟩, fun i H l hi => ⟨h.later l, by rw [List.length_map] at hi; omega⟩, fun i H x H' l hi y => ?_⟩
  obtain ⟨rfl, e, he, rfl⟩ := y
  obtain ⟨p, hp, r1, _⟩ := at_ i e he
  exact ⟨p.1, by rw [List.getElem?_map, hp]; rfl, Grow.refl _, .fz (RepF.later l _ _ r1)⟩
theorem walk_items {d : Addr} {o : Obj} {es : List (V × V)} {ps : List (PyData × PyData)} (h : DPairs P w H0 d o es) (R : RepPs P w K H0 es ps) : Walk P w K (ItI P w d o es) H0 (ps.map fun p => .tuple [p.1, p.2]) false := by
  obtain ⟨hl, at_⟩ := R.at_
  refine ⟨fun H l => ⟨h.later l, by rw [List.length_map]; omega⟩, fun i H l hi => ⟨h.later l, by rw [List.length_map] at hi; omega⟩, fun i H x H' l hi y => ?_⟩
  obtain ⟨T, e, he, rfl, hn, rfl⟩ := y
  obtain ⟨p, hp, r1, r2⟩ := at_ i e he
  have lt := l.trans (Grow.new (.tup [e.1, e.2]) hn).later
  exact ⟨.tuple [p.1, p.2], by rw [List.getElem?_map, hp]; rfl, Grow.new _ hn, .pr (SqT.of upd_same) (.cons (RepF.later lt _ _ r1) (.cons (RepF.later lt _ _ r2) .nil))⟩
theorem enumD_at : ∀ (ds : List PyData) (n i : Nat) (d : PyData), ds[i]? = some d → (enumD n ds)[i]? = some (.tuple [.int ((n + i : Nat) : Int), d])
  | x :: ds, n, 0, d, h => by cases h; rfl
  | x :: ds, n, i + 1, d, h => by
    rw [List.getElem?_cons_succ] at h
    rw [enumD, List.getElem?_cons_succ, enumD_at ds (n + 1) i d h]
    rw [show n + 1 + i = n + (i + 1) by omega]
theorem enumD_len : ∀ (ds : List PyData) (n : Nat), (enumD n ds).length = ds.length
  | [], _ => rfl
  | x :: ds, n => by rw [enumD, List.length_cons, List.length_cons, enumD_len ds]
theorem walk_enumL {a : Addr} {xs : List V} {ds : List PyData} (h : ∀ H, Later H0 H → SqL K H a xs) (R : RepFs P w K H0 xs ds) : Walk P w K (Ite K a) H0 (enumD 0 ds) false := by
  have hl := R.length
  have el := enumD_len ds 0
  refine ⟨fun H l => ⟨xs, h H l, by omega⟩, fun i H l hi => ⟨xs, xs[i]'(by omega), h H l, List.getElem?_eq_getElem _⟩, fun i H x H' l hi y => ?_⟩
  obtain ⟨T, z, rfl, hn, rfl, y⟩ := y
  obtain ⟨d, hd, rd⟩ := R.getV (y xs (h _ l))
  have lt := l.trans (Grow.new (.tup [.int (i : Nat), z]) hn).later
  refine ⟨_, enumD_at ds 0 i d hd, Grow.new _ hn, .pr (SqT.of upd_same) (.cons ?_ (.cons (RepF.later lt _ _ rd) .nil))⟩
  rw [Nat.zero_add]; exact .int _
theorem walk_enumT {a : Addr} {xs : List V} {ds : List PyData} (h : TP K H0 a xs) (R : RepFs P w K H0 xs ds) : Walk P w K (ItE K a) H0 (enumD 0 ds) false := by
  have hl := R.length
  have el := enumD_len ds 0
  have h' : ∀ H, Later H0 H → SqT K H a xs := fun H l => (l.tp h).sq
  refine ⟨fun H l => ⟨xs, h' H l, by omega⟩, fun i H l hi => ⟨xs, xs[i]'(by omega), h' H l, List.getElem?_eq_getElem _⟩, fun i H x H' l hi y => ?_⟩
  obtain ⟨T, z, rfl, hn, rfl, y⟩ := y
  obtain ⟨d, hd, rd⟩ := R.getV (y xs (h' _ l))
  have lt := l.trans (Grow.new (.tup [.int (i : Nat), z]) hn).later
  refine ⟨_, enumD_at ds 0 i d hd, Grow.new _ hn, .pr (SqT.of upd_same) (.cons ?_ (.cons (RepF.later lt _ _ rd) .nil))⟩
  rw [Nat.zero_add]; exact .int _
theorem zipD_at : ∀ (xs ys : List PyData) (i : Nat) (x y : PyData), xs[i]? = some x → ys[i]? = some y → (zipD xs ys)[i]? = some (.tuple [x, y])
  | a :: xs, b :: ys, 0, x, y, h1, h2 => by cases h1; cases h2; rfl
  | a :: xs, b :: ys, i + 1, x, y, h1, h2 => by
    rw [List.getElem?_cons_succ] at h1 h2
    rw [zipD, List.getElem?_cons_succ]
    exact zipD_at xs ys i x y h1 h2
theorem zipD_len : ∀ (xs ys : List PyData), (zipD xs ys).length = min xs.length ys.length
  | [], _ => by simp [zipD]
  | _ :: _, [] => by simp [zipD]
  | x :: xs, y :: ys => by rw [zipD, List.length_cons, zipD_len, List.length_cons, List.length_cons]; omega
theorem walk_zipL {a b : Addr} {xs ys : List V} {ds es : List PyData} (h : ∀ H, Later H0 H → SqL K H a xs) (R : RepFs P w K H0 xs ds) (h2 : ∀ H, Later H0 H → SqL K H b ys) (R2 : RepFs P w K H0 ys es) : Walk P w K (Itz K a b) H0 (zipD ds es) false := by
  have l1 := R.length
  have l2 := R2.length
  have zl := zipD_len ds es
  refine ⟨fun H l => ⟨xs, ys, h H l, h2 H l, by omega⟩, fun i H l hi => ⟨xs, ys, xs[i]'(by omega), ys[i]'(by omega), h H l, h2 H l, List.getElem?_eq_getElem _, List.getElem?_eq_getElem _⟩, fun i H x H' l hi y => ?_⟩
  obtain ⟨T, z, z2, rfl, hn, rfl, y1, y2⟩ := y
  obtain ⟨d, hd, rd⟩ := R.getV (y1 xs (h _ l))
  obtain ⟨e, he, re⟩ := R2.getV (y2 ys (h2 _ l))
  have lt := l.trans (Grow.new (.tup [z, z2]) hn).later
  exact ⟨_, zipD_at ds es i d e hd he, Grow.new _ hn, .pr (SqT.of upd_same) (.cons (RepF.later lt _ _ rd) (.cons (RepF.later lt _ _ re) .nil))⟩
theorem walk_zipT {a b : Addr} {xs ys : List V} {ds es : List PyData} (h : TP K H0 a xs) (R : RepFs P w K H0 xs ds) (h2 : TP K H0 b ys) (R2 : RepFs P w K H0 ys es) : Walk P w K (RZ.ItzT K a b) H0 (zipD ds es) false := by
  have l1 := R.length
  have l2 := R2.length
  have zl := zipD_len ds es
  have h' : ∀ H, Later H0 H → SqT K H a xs := fun H l => (l.tp h).sq
  have h2' : ∀ H, Later H0 H → SqT K H b ys := fun H l => (l.tp h2).sq
  refine ⟨fun H l => ⟨xs, ys, h' H l, h2' H l, by omega⟩, fun i H l hi => ⟨xs, ys, xs[i]'(by omega), ys[i]'(by omega), h' H l, h2' H l, List.getElem?_eq_getElem _, List.getElem?_eq_getElem _⟩, fun i H x H' l hi y => ?_⟩
  obtain ⟨T, z, z2, rfl, hn, rfl, y1, y2⟩ := y
  obtain ⟨d, hd, rd⟩ := R.getV (y1 xs (h' _ l))
  obtain ⟨e, he, re⟩ := R2.getV (y2 ys (h2' _ l))
  have lt := l.trans (Grow.new (.tup [z, z2]) hn).later
  exact ⟨_, zipD_at ds es i d e hd he, Grow.new _ hn, .pr (SqT.of upd_same) (.cons (RepF.later lt _ _ rd) (.cons (RepF.later lt _ _ re) .nil))⟩

def tI (P : Program) (w : World) (K : PySem.W.Frag) (m : Rh → Out (List PyData)) (pl : Bool) : TI := fun σ H R => ∃ r, EnvR P w K H σ r ∧ Wp (m r) fun ds r' => ∀ H', Stp P w K σ r r' H H' → ∀ J, Walk P w K J H' ds pl → R J H'
end
end FJ

set_option Elab.async false
set_option linter.all false
set_option autoImplicit false
set_option maxRecDepth 100000
set_option maxHeartbeats 0
/-! Ev4h: for: what is walked, as readings. -/
namespace FJ
open PySem PySem.Spec L2
open PyProof.Rows hiding St

section
variable {X : Cx} {Φ : Str → List FJ.Slot → Res} {a b c tg : Expr} {x y z : IE} {pos ap : Pos}
abbrev GI (X : Cx) (Φ : Str → List FJ.Slot → Res) (tg e : Expr) (it : II) : Prop := PI X tg e (tI X.prog X.w X.K (denI Φ it) (plI it))
/-- an iterator that was just laid -/
theorem pie_one {pins : List (Addr × Obj)} {σ : St} {H : Hp} {s : Shared} {R : It → Hp → Prop} {J : It} {tn : Nat → Heap → Prop} {o : Obj} (I : Inv X pins σ H s) (T : Turn X.prog X.w X.K tg J [s.heap.objs.size] s.heap.objs.size tn) (st : tn 0 (s.heap.push o)) (q : R J H) :
    PIE X pins σ tg R (.ref s.heap.objs.size) { s with heap := s.heap.push o } := pi_one (tk := s.toks) I o T st q
/-- a frozen dict, by its entries -/
theorem dict_fz {P : Program} {w : World} {K : PySem.W.Frag} {H : Hp} {v : V} {ps : List (PyData × PyData)} (h : RepF P w K H v (.dict ps)) : ∃ d o es, v = .ref d ∧ DPairs P w H d o es ∧ RepPs P w K H es ps := by
  cases h with
  | @dK a o kvs _ e r =>
    obtain ⟨h1, h2⟩ := DPairs.data (P := P) (w := w) (K := K) (d := a) (o := o) (es := kvs.map fun p => (kV p.1, p.2)) (.inl ⟨kvs, e, rfl, r⟩)
    exact ⟨a, o, _, rfl, h1, h2⟩
  | @dN a o ns _ e n r =>
    obtain ⟨h1, h2⟩ := DPairs.data (P := P) (w := w) (K := K) (d := a) (o := o) (es := ns.map fun e => (V.ref e.2.1, e.2.2)) (.inr ⟨ns, e, rfl, r⟩)
    exact ⟨a, o, _, rfl, h1, h2⟩
theorem i_val (ha : GE X Φ a x) : GI X Φ tg a (.val x) := by
  refine ⟨fun ps s0 τ G R J q => ?_⟩
  obtain ⟨r, en, hw⟩ := q
  rw [denI] at hw
  have hw := Wp.bind hw
  refine thn (ha.run ps s0 τ G (fun u G1 => ∃ v r1, Stp X.prog X.w X.K τ r r1 G G1 ∧ ValR X.prog X.w X.K G1 τ r1 u v ∧ Wp (match v with
      | .d x => match listD x with
        | some xs => Out.ok xs r1
        | none => .stuck
      | .scr ns => .ok (ns.map .int) r1
      | _ => .stuck) fun ds r' => ∀ H', Stp X.prog X.w X.K τ r r' G H' → ∀ J, Walk X.prog X.w X.K J H' ds true → R J H') J ⟨r, en, hw.mono fun v r1 h u G1 S W N => ⟨v, r1, S, W, h⟩⟩) fun u' s1 k => ?_
  obtain ⟨u, G1, J1, ru, v, r1, S, W, h⟩ := k
  have lst : ∀ {l : Addr} {xs : List V} {ds : List PyData}, u' = .ref l → (∀ H, Later G1 H → SqL X.K H l xs) → RepFs X.prog X.w X.K G1 xs ds → (∀ J, Walk X.prog X.w X.K J G1 ds true → R J G1) → wpAny (model X.prog X.w) X.A (pyIter u') (PIE X ps τ tg R) X.xe s1 := fun e hs rf q => by
    subst e
    obtain ⟨us, _, pl, _⟩ := J1.list (hs G1 (Later.refl _))
    exact wpAny_pyIter_list pl.isList (pie_one J1 (turn_list _ _) ⟨_, Heap.get?_push_size _ rfl, rfl, rfl⟩ (q _ (walk_list hs rf)))
  cases W with
  | d hx =>
    have h : Wp (match listD _ with | some xs => Out.ok xs r1 | none => .stuck) _ := h
    split at h
    · rename_i d ds hds
      have q := fun J => h G1 S J
      unfold listD at hds
      split at hds
      · cases hds
        cases hx with
        | lst e rf =>
          cases ru
          exact lst rfl (fun H l => .inl (.inr ⟨_, l.frz _ _ _ e⟩)) rf q
      · cases hds
        obtain ⟨l, xs, rfl, hT, rf⟩ := (RepP.fz hx).tupI
        cases ru
        obtain ⟨us, _, tp, _⟩ := J1.tuple hT.sq
        exact wpAny_pyIter_tuple (show s1.heap.IsTuple l us.toArray from tp) (pie_one J1 (turn_tuple _ _) ⟨_, Heap.get?_push_size _ rfl, rfl, rfl⟩ (q _ (walk_tup hT rf)))
      · cases hds
        obtain ⟨dd, o, es, rfl, hp, rp⟩ := dict_fz hx
        cases ru
        obtain ⟨g1, g2, g3, ds', ep, g4, g5, _⟩ := hp.raw J1
        refine iter_keys g1 g2 g3 g4 (pie_one J1 (turnD _ g4) ⟨_, Heap.get?_push_size _ rfl, rfl, ?_⟩ (q _ (walk_keys hp rp)))
        rw [g5]
        rfl
      · cases hds
    · exact h.elim
  | scr hh =>
    cases ru
    exact lst rfl hh (intsR _) fun J => h G1 S J
  | fresh _ _ => exact h.elim
  | bor _ _ => exact h.elim
  | fn _ => exact h.elim
where intsR : ∀ {G1 : Hp} (ns : List Int), RepFs X.prog X.w X.K G1 (ns.map V.int) (ns.map PyData.int)
  | _, [] => .nil
  | _, n :: ns => .cons (.int n) (intsR ns)
theorem i_rng {p : Pos} (hg : Gl X "range") (hm : X.mg "range" = none) (ha : GE X Φ a x) (ns : noStar a) : GI X Φ tg (.Call (.Name "range" p) [a] [] pos) (.rng x) := (pi_range1 hg hm (pa_cons ha pa_nil (ns [] X.env)) (ns [] X.env)).imp fun τ G R q => by
  obtain ⟨r, en, hw⟩ := q
  rw [denI] at hw
  refine ⟨r, en, (Wp.dat hw).mono fun v r1 h u G1 S V N => ?_⟩
  obtain ⟨d, rfl, h⟩ := h
  cases V with
  | d hx =>
    cases d with
    | int i =>
      cases hx
      have h : Wp (if (decide (-(2 ^ 62) ≤ i) && decide (i < 2 ^ 62)) = true then Out.ok (rngD i) r1 else .stuck) _ := h
      by_cases hi : (decide (-(2 ^ 62) ≤ i) && decide (i < 2 ^ 62)) = true
      · rw [if_pos hi] at h
        rw [Bool.and_eq_true] at hi
        exact ⟨i, rfl, of_decide_eq_true hi.1, of_decide_eq_true hi.2, h G1 S _ walk_rng⟩
      · rw [if_neg hi] at h; exact h.elim
    | _ => exact h.elim
/-- frozen lists, tuples that stay -/
theorem fz_list {P : Program} {w : World} {K : PySem.W.Frag} {H : Hp} {v : V} {ds : List PyData} (h : RepF P w K H v (.list ds)) : ∃ l xs, v = .ref l ∧ (∀ H', Later H H' → SqL K H' l xs) ∧ RepFs P w K H xs ds := by
  cases h with
  | lst e r => exact ⟨_, _, rfl, fun H' l => .inl (.inr ⟨_, l.frz _ _ _ e⟩), r⟩
theorem i_enum {p tp : Pos} {elts : List Expr} {kk : Nat} (hg : Gl X "enumerate") (hm : X.mg "enumerate" = none) (ha : GE X Φ a x) (ns : noStar a) : GI X Φ (.Tuple elts kk tp) (.Call (.Name "enumerate" p) [a] [] pos) (.enum x) := (pi_enumT hg hm (pa_cons ha pa_nil (ns [] X.env)) (ns [] X.env)).imp fun τ G R q => by
  obtain ⟨r, en, hw⟩ := q
  rw [denI] at hw
  refine ⟨r, en, (Wp.dat hw).mono fun v r1 h u G1 S V N => ?_⟩
  obtain ⟨d, rfl, h⟩ := h
  cases V with
  | d hx =>
    cases d with
    | list ds =>
      obtain ⟨l, xs, rfl, hs, rf⟩ := fz_list hx
      exact ⟨l, xs, rfl, .inl ⟨hs G1 (Later.refl _), h G1 S _ (walk_enumL hs rf)⟩⟩
    | tuple ds =>
      obtain ⟨l, xs, rfl, hT, rf⟩ := (RepP.fz hx).tupI
      exact ⟨l, xs, rfl, .inr ⟨hT.sq, h G1 S _ (walk_enumT hT rf)⟩⟩
    | _ => exact h.elim
theorem i_zip {p tp : Pos} {elts : List Expr} {kk : Nat} (hg : Gl X "zip") (hm : X.mg "zip" = none) (ha : GE X Φ a x) (hb : GE X Φ b y) (na : noStar a) (nb : noStar b) : GI X Φ (.Tuple elts kk tp) (.Call (.Name "zip" p) [a, b] [] pos) (.zip x y) :=
  (RZ.pi_zipA hg hm (pa_cons ha (pa_cons hb pa_nil (nb [] X.env)) (na [b] X.env)) (na [b] X.env) (pl1 nb)).imp fun τ G R q => by
    obtain ⟨r, en, hw⟩ := q
    rw [denI] at hw
    refine ⟨r, en, (Wp.dat hw).mono fun v r1 h u G1 S V N => ?_⟩
    obtain ⟨d, rfl, h⟩ := h
    refine ⟨r1, S.env, (Wp.dat h).mono fun v r2 h u2 G2 S2 V2 N2 => ?_⟩
    obtain ⟨e, rfl, h⟩ := h
    have S' := S.trans S2
    cases V with
    | d hx => cases V2 with
      | d hy =>
        have hx' := RepF.later (S2.later S.env) _ _ hx
        cases d with
        | list ds =>
          cases e with
          | list es =>
            obtain ⟨l, xs, e1, hs, rf⟩ := fz_list hx'
            obtain ⟨l2, ys, e2, hs2, rf2⟩ := fz_list hy
            subst e1 e2
            exact ⟨l, l2, xs, ys, rfl, .inl ⟨hs G2 (Later.refl _), hs2 G2 (Later.refl _), h G2 S' _ (walk_zipL hs rf hs2 rf2)⟩⟩
          | _ => exact h.elim
        | tuple ds =>
          cases e with
          | tuple es =>
            obtain ⟨l, xs, e1, hT, rf⟩ := (RepP.fz hx').tupI
            obtain ⟨l2, ys, e2, hT2, rf2⟩ := (RepP.fz hy).tupI
            subst e1 e2
            exact ⟨l, l2, xs, ys, rfl, .inr ⟨hT.sq, hT2.sq, h G2 S' _ (walk_zipT hT rf hT2 rf2)⟩⟩
          | _ => exact h.elim
        | _ => exact h.elim
theorem i_items {tp : Pos} {elts : List Expr} {kk : Nat} (ha : GE X Φ a x) (h0 : callB a = false) (hl : (ap.endLine == pos.line) = true) : GI X Φ (.Tuple elts kk tp) (.Call (.Attribute a "items" ap) [] [] pos) (.items x) := by
  refine ⟨fun ps s0 τ G R J q => ?_⟩
  obtain ⟨r, en, hw⟩ := q
  rw [denI] at hw
  refine wpAny_Call_method (T := "dict") (id := "dict.items") (attrB h0) rfl hl F.plainAttrs_dict F.slot_dict_items F.type_dict_items (thn (ha.run ps s0 τ G (fun u G1 => ∃ kvs r1, Stp X.prog X.w X.K τ r r1 G G1 ∧ RepF X.prog X.w X.K G1 u (.dict kvs) ∧ ∀ J, Walk X.prog X.w X.K J G1 (kvs.map fun p => .tuple [p.1, p.2]) false → R J G1) J ⟨r, en, (Wp.dat hw).mono fun v r1 h u G1 S V N => ?_⟩) fun u' s1 k => ?_)
  · obtain ⟨d, rfl, h⟩ := h
    cases V with
    | d hx =>
      cases d with
      | dict kvs => exact ⟨kvs, r1, S, hx, fun J => h G1 S J⟩
      | _ => exact h.elim
  · obtain ⟨u, G1, J1, ru, kvs, r1, S, hx, q⟩ := k
    obtain ⟨dd, o, es, rfl, hp, rp⟩ := dict_fz hx
    cases ru
    obtain ⟨g1, g2, g3, ds', ep, g4, g5, _⟩ := hp.raw J1
    have raw : s1.heap.DictRaw dd ds' ep := ⟨o, g2, g3, g4⟩
    refine ⟨raw.typeIs, fun b e => by cases e; exact ⟨o, g2, g3.2.1⟩, ?_⟩
    have J2 : Inv X ps τ G1 { s1 with heap := s1.heap.push { cls := .type "dict_items", data := .fields #[.ref dd] } } := J1.kept (t' := s1.toks) fun b o e => Heap.get?_push_of_some _ e
    have fin : wpAny (model X.prog X.w) X.A (pyIter (.ref s1.heap.objs.size)) (PIE X ps τ (.Tuple elts kk tp) R) X.xe { s1 with heap := s1.heap.push { cls := .type "dict_items", data := .fields #[.ref dd] } } := by
      refine wpAny_pyIter_items_raw (d := dd) ⟨_, Heap.get?_push_size _ rfl, rfl, rfl⟩ (raw.at fun o e => Heap.get?_push_of_some _ e) (pie_one J2 (turnI _ g4) ⟨.none, .none, ?_⟩ (q _ (walk_items hp rp)))
      rw [← g5]
      exact Heap.get?_push_size _ rfl
    show wpAny _ _ (callWith pos (.builtin "dict.items") [.ref dd] [] []) _ X.xe s1
    exact method_meetsIn F.slot_dict_items F.entry_dict_items rfl (PySem.evalArgs_none ⟨rfl, raw.typeIs, F.args_dict_items_1 _, _, meets_dict_items_raw dd g1, ⟨⟨ds', ep, raw⟩, fin⟩⟩)
end
end FJ

set_option Elab.async false
set_option linter.all false
set_option autoImplicit false
set_option maxRecDepth 100000
set_option maxHeartbeats 0
/-! Ev4i: comprehensions. -/
namespace FJ
open PySem PySem.Spec L2
open PyProof.Rows hiding St

/-! ### slots forgotten, put back -/
theorem wipe_in {σ : St} {i : Nat} : ∀ {vs : List Nat}, i ∈ vs → i < σ.length → (wipe σ vs)[i]? = some none
  | v :: vs, h, hl => by
    unfold wipe
    by_cases hv : v = i
    · subst hv
      exact List.getElem?_set_self (by rw [wipe_length]; exact hl)
    · rw [List.getElem?_set_ne hv]
      exact wipe_in ((List.mem_cons.mp h).resolve_left fun z => hv z.symm) hl
theorem wipeR_len (r : Rh) : ∀ vs : List Nat, (wipeR r vs).length = r.length
  | [] => rfl
  | v :: vs => by unfold wipeR; rw [List.length_set, wipeR_len r vs]
theorem wipeR_out {r : Rh} {i : Nat} : ∀ {vs : List Nat}, i ∉ vs → (wipeR r vs)[i]? = r[i]?
  | [], _ => rfl
  | v :: vs, h => by
    rw [List.mem_cons, not_or] at h
    unfold wipeR
    rw [List.getElem?_set_ne (Ne.symm h.1), wipeR_out h.2]
theorem wipeR_in {r : Rh} {i : Nat} : ∀ {vs : List Nat}, i ∈ vs → i < r.length → (wipeR r vs)[i]? = some .un
  | v :: vs, h, hl => by
    unfold wipeR
    by_cases hv : v = i
    · subst hv
      exact List.getElem?_set_self (by rw [wipeR_len]; exact hl)
    · rw [List.getElem?_set_ne hv]
      exact wipeR_in ((List.mem_cons.mp h).resolve_left fun z => hv z.symm) hl
theorem backR_len (r0 r : Rh) : ∀ vs : List Nat, (backR r0 r vs).length = r.length
  | [] => rfl
  | v :: vs => by unfold backR; rw [List.length_set, backR_len r0 r vs]
theorem backR_out {r0 r : Rh} {i : Nat} : ∀ {vs : List Nat}, i ∉ vs → (backR r0 r vs)[i]? = r[i]?
  | [], _ => rfl
  | v :: vs, h => by
    rw [List.mem_cons, not_or] at h
    unfold backR
    rw [List.getElem?_set_ne (Ne.symm h.1), backR_out h.2]
theorem backR_in {r0 r : Rh} {i : Nat} (hl : r.length = r0.length) : ∀ {vs : List Nat}, i ∈ vs → (backR r0 r vs)[i]? = r0[i]?
  | v :: vs, h => by
    unfold backR
    by_cases hv : v = i
    · subst hv
      by_cases hi : v < r0.length
      · rw [List.getElem?_set_self (by rw [backR_len, hl]; exact hi), List.getElem?_eq_getElem hi]
        simp [List.getD_eq_getElem?_getD, hi]
      · rw [List.getElem?_eq_none (by rw [List.length_set, backR_len]; omega), List.getElem?_eq_none (by omega)]
    · rw [List.getElem?_set_ne hv]
      exact backR_in hl ((List.mem_cons.mp h).resolve_left fun z => hv z.symm)
theorem wipe_eq {σ σ' : St} {vs : List Nat} (hl : σ'.length = σ.length) (h : ∀ i, i ∉ vs → σ'[i]? = σ[i]?) : wipe σ' vs = wipe σ vs := by
  apply List.ext_getElem?
  intro i
  by_cases hi : i ∈ vs
  · by_cases hb : i < σ.length
    · rw [wipe_in hi (by rw [hl]; exact hb), wipe_in hi hb]
    · rw [List.getElem?_eq_none (by rw [wipe_length]; omega), List.getElem?_eq_none (by rw [wipe_length]; omega)]
  · rw [wipe_out hi, wipe_out hi, h i hi]
section
variable {P : Program} {w : World} {K : PySem.W.Frag} {σ σ2 : St} {r r1 r2 r3 r4 : Rh} {H H0 H1 H2 H3 : Hp} {vs ns : List Nat} {D : Addr}
theorem owns_wipe {i : Nat} {a : Addr} (hl : σ.length = r.length) (h : Owns (wipe σ vs) (wipeR r vs) i a) : i ∉ vs ∧ Owns σ r i a := by
  obtain ⟨⟨d, h1⟩, h2⟩ := h
  have hi : i ∉ vs := fun z => by
    have := (List.getElem?_eq_some_iff.mp h1).1
    rw [wipeR_len] at this
    rw [wipeR_in z this] at h1
    cases h1
  rw [wipeR_out hi] at h1
  rw [wipe_out hi] at h2
  exact ⟨hi, ⟨d, h1⟩, h2⟩
theorem EnvR.wiped (en : EnvR P w K H σ r) (vs : List Nat) : EnvR P w K H (wipe σ vs) (wipeR r vs) := by
  refine ⟨by rw [wipe_length, wipeR_len]; exact en.len, fun i s h n => ?_, fun i j a hi hj => en.one i j a (owns_wipe en.len hi).2 (owns_wipe en.len hj).2⟩
  have hi : i ∉ vs := fun z => by
    have := (List.getElem?_eq_some_iff.mp h).1
    rw [wipeR_len] at this
    rw [wipeR_in z this] at h
    cases h
    exact n rfl
  rw [wipeR_out hi] at h
  obtain ⟨v, hv, rs⟩ := en.rep i s h n
  exact ⟨v, by rw [wipe_out hi]; exact hv, rs⟩
/-- owned outside of vs -/
def OwnX (σ : St) (r : Rh) (vs : List Nat) (a : Addr) : Prop := ∃ i, i ∉ vs ∧ Owns σ r i a
/-- within a block: from σ, r1, H1 on; σc, rc, Hc: now -/
structure Mv (P : Program) (w : World) (K : PySem.W.Frag) (σ : St) (r1 : Rh) (H1 : Hp) (vs : List Nat) (σc : St) (rc : Rh) (Hc : Hp) : Prop where
  en : EnvR P w K H1 σ r1
  env : EnvR P w K Hc σc rc
  sl : σc.length = σ.length
  so : ∀ i, i ∉ vs → σc[i]? = σ[i]?
  ow : ∀ (i : Nat) y, i ∉ vs → rc[i]? = some (FJ.Slot.ow y) → ∃ z, r1[i]? = some (FJ.Slot.ow z)
  own : ∀ (i : Nat) a, Owns σc rc i a → i ∉ vs
  dat : ∀ i, i ∉ vs → hasD r1 i → hasD rc i
  ext : Ext (OwnX σ r1 vs) H1 Hc
variable {σc : St} {rc rd : Rh} {Hc Hd : Hp} {ws : List Nat}
theorem Mv.start (en : EnvR P w K H1 σ r1) (vs : List Nat) (g : Grow H1 H2) : Mv P w K σ r1 H1 vs (wipe σ vs) (wipeR r1 vs) H2 :=
  ⟨en, (en.grow g).wiped vs, wipe_length σ vs, fun i hi => wipe_out hi, fun i y hi h => by rw [wipeR_out hi] at h; exact ⟨y, h⟩, fun i a h => (owns_wipe en.len h).1, fun i hi h => by unfold hasD at h ⊢; rw [wipeR_out hi]; exact h, g.ext _⟩
theorem Mv.ownX (M : Mv P w K σ r1 H1 vs σc rc Hc) {a : Addr} (h : Own σc rc a) : OwnX σ r1 vs a := by
  obtain ⟨i, ho⟩ := h
  have hi := M.own i a ho
  obtain ⟨⟨d, h1⟩, h2⟩ := ho
  exact ⟨i, hi, M.ow i d hi h1, by rw [← M.so i hi]; exact h2⟩
theorem Mv.notOwn (M : Mv P w K σ r1 H1 vs σc rc Hc) (hD : H1 D = none) : ¬ Own σc rc D := fun z => by
  obtain ⟨i, _, ho⟩ := M.ownX z
  exact FJ.notOwn M.en hD ⟨i, ho⟩
theorem Mv.later (M : Mv P w K σ r1 H1 vs σc rc Hc) : Later H1 Hc := M.ext.later fun a ⟨i, _, h⟩ => M.en.ownOk a ⟨i, h⟩
theorem Mv.grow (M : Mv P w K σ r1 H1 vs σc rc Hc) (g : Grow Hc Hd) : Mv P w K σ r1 H1 vs σc rc Hd := ⟨M.en, M.env.grow g, M.sl, M.so, M.ow, M.own, M.dat, M.ext.trans (g.ext fun _ => False) fun c z => z.elim⟩
theorem Mv.tg (M : Mv P w K σ r1 H1 vs σc rc Hc) (en : EnvR P w K Hc σ2 rd) (t : TgS σc σ2 rc rd ns) (hn : ∀ i ∈ ns, i ∈ vs) (hl : rd.length = rc.length) : Mv P w K σ r1 H1 vs σ2 rd Hc :=
  ⟨M.en, en, by rw [en.len, hl, ← M.env.len, M.sl], fun i hi => by rw [t.so i fun z => hi (hn i z), M.so i hi], fun i y hi h => by rw [t.ro i fun z => hi (hn i z)] at h; exact M.ow i y hi h, fun i a h => M.own i a (t.own i a h).1, fun i hi h => t.dat i (M.dat i hi h), M.ext⟩
theorem Mv.stp (M : Mv P w K σ r1 H1 vs σc rc Hc) (S : Stp P w K σc rc rd Hc Hd) : Mv P w K σ r1 H1 vs σc rd Hd :=
  ⟨M.en, S.env, M.sl, M.so, fun i y hi h => let ⟨z, hz⟩ := S.ow i y h; M.ow i z hi hz, fun i a ⟨⟨d, h1⟩, h2⟩ => M.own i a ⟨S.ow i d h1, h2⟩, fun i hi h => S.dat i (M.dat i hi h), M.ext.trans S.ext fun c z => .inl (M.ownX z)⟩
theorem Mv.wipe (M : Mv P w K σ r1 H1 vs σc rc Hc) (hw : ∀ i ∈ ws, i ∈ vs) : Mv P w K σ r1 H1 vs (L2.wipe σc ws) (wipeR rc ws) Hc := by
  have n : ∀ i, i ∉ vs → i ∉ ws := fun i hi z => hi (hw i z)
  exact ⟨M.en, M.env.wiped ws, by rw [wipe_length, M.sl], fun i hi => by rw [wipe_out (n i hi), M.so i hi], fun i y hi h => by rw [wipeR_out (n i hi)] at h; exact M.ow i y hi h, fun i a h => M.own i a (owns_wipe M.env.len h).2,
    fun i hi h => by
      have := M.dat i hi h
      unfold hasD at this ⊢
      rw [wipeR_out (n i hi)]
      exact this, M.ext⟩
/-- the new thing changes -/
theorem Mv.upd (M : Mv P w K σ r1 H1 vs σc rc Hc) (hD : H1 D = none) {u u' : HO} (h : Hc D = some u) (om : Ownable P w D u) : Mv P w K σ r1 H1 vs σc rc (upd Hc D u') := by
  have lt : Later Hc (L2.upd Hc D u') := om.upd h
  refine ⟨M.en, M.env.later lt fun a ha => upd_ne (fun z => M.notOwn hD (by rw [← z]; exact ha)), M.sl, M.so, M.ow, M.own, M.dat, ⟨fun b o e n t => ?_, fun b hb => ?_⟩⟩
  · rw [upd_ne (fun z => by rw [z, hD] at e; cases e)]
    exact M.ext.keep b o e n t
  · by_cases hbd : b = D
    · rw [hbd, upd_same]; exact fun z => nomatch z
    · rw [upd_ne hbd]; exact M.ext.dom b hb
theorem Mv.len (M : Mv P w K σ r1 H1 vs σc rc Hc) : rc.length = r1.length := by rw [← M.env.len, M.sl, M.en.len]
theorem Mv.weq (M : Mv P w K σ r1 H1 vs σc rc Hc) : L2.wipe σc vs = L2.wipe σ vs := wipe_eq M.sl M.so
/-- behind the block -/
theorem Mv.fin (M : Mv P w K σ r1 H1 vs (L2.wipe σ vs) (wipeR rc vs) Hc) (hl : rc.length = r1.length) (S : Stp P w K σ r r1 H H1) : Stp P w K σ r (backR r1 rc vs) H Hc := by
  have lt := M.later
  have own1 : ∀ (i : Nat) a, Owns σ (backR r1 rc vs) i a → Owns σ r1 i a := fun i a ⟨⟨d, h1⟩, h2⟩ => by
    by_cases hi : i ∈ vs
    · rw [backR_in hl hi] at h1
      exact ⟨⟨d, h1⟩, h2⟩
    · rw [backR_out hi] at h1
      exact ⟨M.ow i d hi (by rw [wipeR_out hi]; exact h1), h2⟩
  refine ⟨S.ext.trans M.ext fun c ⟨i, _, z⟩ => .inl (S.own ⟨i, z⟩), ⟨by rw [backR_len, hl]; exact M.en.len, fun i s h n => ?_, fun i j a hi hj => M.en.one i j a (own1 i a hi) (own1 j a hj)⟩, fun i y h => ?_, fun i h => ?_⟩
  · by_cases hi : i ∈ vs
    · rw [backR_in hl hi] at h
      obtain ⟨v, hv, rs⟩ := M.en.rep i s h n
      refine ⟨v, hv, ?_⟩
      cases rs with
      | fz q => exact .fz (RepF.later lt _ _ q)
      | @ow a d q =>
        obtain ⟨u, hu, om⟩ := q.at_
        refine .ow (q.later lt ?_)
        rw [hu]
        refine M.ext.keep a u hu ?_ fun ps e => by subst e; cases om
        rintro ⟨j, hj, z⟩
        have := M.en.one i j a ⟨⟨d, h⟩, hv⟩ z
        subst this
        exact hj hi
      | fn x => exact .fn x
      | scr q => exact .scr fun H' l' => q H' (lt.trans l')
    · rw [backR_out hi] at h
      obtain ⟨v, hv, rs⟩ := M.env.rep i s (by rw [wipeR_out hi]; exact h) n
      rw [wipe_out hi] at hv
      exact ⟨v, hv, rs⟩
  · by_cases hi : i ∈ vs
    · rw [backR_in hl hi] at h
      exact S.ow i y h
    · rw [backR_out hi] at h
      obtain ⟨z, hz⟩ := M.ow i y hi (by rw [wipeR_out hi]; exact h)
      exact S.ow i z hz
  · have h1 := S.dat i h
    by_cases hi : i ∈ vs
    · unfold hasD at h1 ⊢
      rw [backR_in hl hi]
      exact h1
    · have := M.dat i hi h1
      unfold hasD at this ⊢
      rw [wipeR_out hi] at this
      rw [backR_out hi]
      exact this
theorem Mv.notOwnF (M : Mv P w K σ r1 H1 vs (L2.wipe σ vs) (wipeR rc vs) Hc) (hl : rc.length = r1.length) (hD : H1 D = none) : ¬ Own σ (backR r1 rc vs) D := fun ⟨i, ⟨d, h1⟩, h2⟩ => by
  refine FJ.notOwn M.en hD ?_
  by_cases hi : i ∈ vs
  · rw [backR_in hl hi] at h1
    exact ⟨i, ⟨d, h1⟩, h2⟩
  · rw [backR_out hi] at h1
    exact ⟨i, M.ow i d hi (by rw [wipeR_out hi]; exact h1), h2⟩
end
end FJ

set_option Elab.async false
set_option linter.all false
set_option autoImplicit false
set_option maxRecDepth 100000
set_option maxHeartbeats 0
/-! Ev4j: comprehensions. -/
namespace FJ
open PySem PySem.Spec L2
open PyProof.Rows hiding St

/-! ### [e for t in it if ..] -/
section
variable {X : Cx} {Φ : Str → List FJ.Slot → Res} {a b c : Expr} {x y z : IE} {pos : Pos}
abbrev GTs (X : Cx) (Φ : Str → List FJ.Slot → Res) (es : List Expr) (fs : IL) : Prop := PTs X es (tT X.prog X.w X.K (denT Φ fs))
theorem PTs.imp {es : List Expr} {t t' : TT} (h : PTs X es t) (i : ∀ σ H Q, t' σ H Q → t σ H Q) : PTs X es t' := ⟨fun ps s σ H Q I q => h.run ps s σ H Q I (i σ H Q q)⟩
theorem ts_nil : GTs X Φ [] .nil := PTs.imp pts_nil fun τ G Q q => by
  obtain ⟨r, en, hw⟩ := q
  rw [denT] at hw
  exact hw G (Stp.refl en)
theorem ts_one (h : GT X Φ a x) : GTs X Φ [a] (.cons x .nil) := PTs.imp (pts_one h) fun τ G Q q => by
  obtain ⟨r, en, hw⟩ := q
  rw [denT] at hw
  refine ⟨r, en, Wp.boos ((Wp.boo hw).mono fun v r1 h => ?_)⟩
  obtain ⟨t, rfl, h⟩ := h
  refine ⟨t, rfl, ?_⟩
  cases t with
  | true => rw [if_pos rfl, denT] at h; exact h
  | false => rw [if_neg Bool.false_ne_true] at h; exact h
theorem compR_cons {β : Type} {f : PyData → Rh → Out (List β)} {d : PyData} {ds : List PyData} {r r2 : Rh} {out : List β} (h : compR f (d :: ds) r = .ok out r2) : ∃ o1 rm o2, f d r = .ok o1 rm ∧ compR f ds rm = .ok o2 r2 ∧ out = o1 ++ o2 := by
  rw [compR] at h
  cases h1 : f d r with
  | exc _ _ => rw [h1] at h; cases h
  | stuck => rw [h1] at h; cases h
  | ok o1 rm =>
    rw [h1] at h
    have h : ((compR f ds rm).bind fun zs r2 => Out.ok (o1 ++ zs) r2) = .ok out r2 := h
    cases h2 : compR f ds rm with
    | exc _ _ => rw [h2] at h; cases h
    | stuck => rw [h2] at h; cases h
    | ok o2 r2' => rw [h2] at h; cases h; exact ⟨o1, rm, o2, rfl, h2, rfl⟩
theorem tgsOk : ∀ {ts : ITgs} {ds : List PyData} {r r' : Rh}, tgsD ts ds r = some r' → r'.length = r.length
  | .nil, [], r, r', h => by cases h; rfl
  | .cons t ts, d :: ds, r, r', h => by
    rw [tgsD] at h
    split at h
    · rename_i r1 h1
      rw [tgsOk h, tgOkL h1]
    · cases h
  | .nil, _ :: _, _, _, h => by simp [tgsD] at h
  | .cons _ _, [], _, _, h => by simp [tgsD] at h
where tgOkL : ∀ {t : ITg} {d : PyData} {r r' : Rh}, tgD t d r = some r' → r'.length = r.length
  | .nm i, d, r, r', h => by cases h; simp
  | .tp ts, .tuple ds, r, r', h => by rw [tgD] at h; exact tgsOk h
  | .tp _, .none, _, _, h | .tp _, .bool _, _, _, h | .tp _, .int _, _, _, h | .tp _, .str _, _, _, h | .tp _, .list _, _, _, h | .tp _, .dict _, _, _, h => by simp [tgD] at h
/-- the blocks' facts: what stands in a comprehension's block -/
structure BlkG (X : Cx) (scope : Scope) (own : List (Str × Nat)) : Prop where
  ok : BlkOk X.N X.env.scope scope own
abbrev blkX (X : Cx) (s : Shared) (H : Hp) (scope : Scope) (cl : List (Str × Addr)) (C : Addr) (fp : List Addr) : Cx := X.blk s H scope (compEnvC scope cl C X.env) fp
/-- a turn's function -/
def turnF (Φ : Str → List FJ.Slot → Res) (own : List Nat) (t : ITg) (fs : IL) {β : Type} (k : Rh → Out (List β)) : PyData → Rh → Out (List β) := fun d r2 => match tgD t d (wipeR r2 own) with
  | some r3 => (denT Φ fs r3).bind fun b r4 => if b = true then k r4 else .ok [] r4
  | none => .stuck
/-- one turn, from the reading of its parts; ws: the names forgotten -/
theorem turn_go {P : Program} {w : World} {K : PySem.W.Frag} {σ σc : St} {r1 ri rm : Rh} {H1 Hc H' : Hp} {vs ws : List Nat} {t : ITg} {fs : IL} {β : Type} {k : Rh → Out (List β)} {pl : Bool} {d : PyData} {v : V} {o1 : List β} {Q : St → Bool → Hp → Prop}
    (M : Mv P w K σ r1 H1 vs σc (wipeR ri ws) Hc) (hc : wipe σc ws = σc) (g : Grow Hc H') (yv : YR P w K H' pl v d) (ok : pl = true ∨ isTp t = true) (hn : ∀ i ∈ tgNames t, i ∈ ws) (hw : ∀ i ∈ ws, i ∈ vs) (hf : turnF Φ ws t fs k d ri = .ok o1 rm)
    (q : ∀ σ2 b r4 H3, Mv P w K σ r1 H1 vs σ2 r4 H3 → wipe σ2 ws = σc → (b = true → k r4 = .ok o1 rm) → (b = false → o1 = [] ∧ r4 = rm) → Later Hc H3 → (∀ a o, Hc a = some o → H1 a = none → (∀ ps, o ≠ .tbl ps) → H3 a = some o) → Q σ2 b H3) :
    tG P w K t v σc H' fun σ2 H2 => wipe σ2 ws = σc ∧ tT P w K (denT Φ fs) σ2 H2 fun b H3 => Q σ2 b H3 := by
  unfold turnF at hf
  cases ht : tgD t d (wipeR ri ws) with
  | none => rw [ht] at hf; cases hf
  | some r3 =>
    rw [ht] at hf
    have M1 := M.grow g
    refine ⟨wipeR ri ws, pl, d, M1.env, yv, ok, ?_⟩
    rw [ht]
    intro σ2 en2 tg
    have l3 : r3.length = (wipeR ri ws).length := tgsOk.tgOkL ht
    have M2 := M1.tg en2 tg (fun i hi => hw i (hn i hi)) l3
    have we : wipe σ2 ws = σc := by
      rw [← hc]
      exact wipe_eq (by rw [M2.sl, M.sl]) fun i hi => tg.so i fun z => hi (hn i z)
    have hf : ((denT Φ fs r3).bind fun b r4 => if b = true then k r4 else .ok [] r4) = .ok o1 rm := hf
    refine ⟨we, r3, en2, ?_⟩
    cases hb : denT Φ fs r3 with
    | exc _ _ => rw [hb] at hf; cases hf
    | stuck => rw [hb] at hf; cases hf
    | ok b r4 =>
      rw [hb] at hf
      have hf : (if b = true then k r4 else .ok [] r4) = .ok o1 rm := hf
      intro H3 S
      refine q σ2 b r4 H3 (M2.stp S) we (fun e => by rw [if_pos e] at hf; exact hf) (fun e => ?_) (g.later.trans (S.later en2)) fun a o e n t => S.ext.keep a o (g a o e) (fun z => M2.notOwn n z) t
      rw [if_neg (by rw [e]; exact Bool.false_ne_true)] at hf
      cases hf
      exact ⟨rfl, rfl⟩
theorem dat_ok {β : Type} {o : Out Val} {f : PyData → Rh → Out β} {a : β} {r : Rh} (h : dat o f = .ok a r) : ∃ y r1, o = .ok (.d y) r1 ∧ f y r1 = .ok a r := by
  cases o with
  | ok v r1 => cases v with
    | d y => exact ⟨y, r1, rfl, h⟩
    | _ => cases h
  | exc _ _ => cases h
  | stuck => cases h
theorem tgIn_is {own : List Nat} {t : ITg} (h : tgIn own t = true) : ∀ i ∈ tgNames t, i ∈ own := fun i hi => by
  unfold tgIn at h
  rw [List.all_eq_true] at h
  simpa using h i hi
def elF (Φ : Str → List FJ.Slot → Res) (x : IE) : Rh → Out (List PyData) := fun r4 => dat (den Φ x r4) fun y r5 => .ok [y] r5
theorem lc_eq {vs : List Nat} {t : ITg} {it : II} {fs : IL} {r : Rh} : den Φ (.lc vs x (.one t it fs)) r = if (tgOk t it && tgIn vs t) = true then (denI Φ it r).bind fun xs r1 => (compR (turnF Φ vs t fs (elF Φ x)) xs r1).bind fun ds r2 => if ds.length ≤ sizeLine then .ok (.fresh (.list ds)) (backR r1 r2 vs) else .stuck else .stuck := by
  rw [den]
  rfl
/-- the new list so far -/
theorem lc_read {P : Program} {w : World} {K : PySem.W.Frag} {σ : St} {H0 : Hp} {Q : VK} {wi : TI} {t : ITg} {it : II} {fs : IL} {vs : List Nat} {r : Rh} (en : EnvR P w K H0 σ r) (hwi : ∀ τ G R, tI P w K (denI Φ it) (plI it) τ G R → wi τ G R)
    (h : Wp (den Φ (.lc vs x (.one t it fs)) r) fun v r' => ∀ u H', Stp P w K σ r r' H0 H' → ValR P w K H' σ r' u v → New H0 u v → Q u H') : tLc wi (tG P w K t) (tT P w K (denT Φ fs)) (tE P w K (den Φ x)) vs σ H0 Q := by
  rw [lc_eq] at h
  split at h
  · rename_i hok
    rw [Bool.and_eq_true] at hok
    have pk := tgOk_is hok.1
    have hn := tgIn_is hok.2
    refine hwi σ H0 _ ⟨r, en, (Wp.bind h).mono fun xs r1 h1 H1 S J W D hD => ?_⟩
    have h1 := Wp.bind h1
    cases hc : compR (turnF Φ vs t fs (elF Φ x)) xs r1 with
    | exc _ _ => rw [hc] at h1; exact h1.elim
    | stuck => rw [hc] at h1; exact h1.elim
    | ok ds r2 =>
      rw [hc] at h1
      have h1 : Wp (if ds.length ≤ sizeLine then Out.ok (Val.fresh (.list ds)) (backR r1 r2 vs) else .stuck) _ := h1
      by_cases hz : ds.length ≤ sizeLine
      · rw [if_pos hz] at h1
        have gD := Grow.new (.lst []) hD
        refine ⟨fun i m Hc => m = xs.length - i ∧ i ≤ xs.length ∧ ∃ ri di dr ys, Mv P w K σ r1 H1 vs (wipe σ vs) (wipeR ri vs) Hc ∧ compR (turnF Φ vs t fs (elF Φ x)) (xs.drop i) ri = .ok dr r2 ∧ ds = di ++ dr ∧ Hc D = some (.lst ys) ∧ RepFs P w K Hc ys di, ⟨xs.length, rfl, Nat.zero_le _, r1, [], ds, [], Mv.start S.env vs gD, by rw [List.drop_zero]; exact hc, rfl, upd_same, .nil⟩, ?_⟩
        rintro i m Hc ⟨rfl, hi, ri, di, dr, ys, M, hcr, hds, hDc, R⟩
        by_cases hlt : i < xs.length
        · refine .inr ⟨W.go i Hc M.later hlt, fun H' => (xs.length - (i + 1) = xs.length - (i + 1) ∧ i + 1 ≤ xs.length ∧ ∃ ri di dr ys, Mv P w K σ r1 H1 vs (wipe σ vs) (wipeR ri vs) H' ∧ compR (turnF Φ vs t fs (elF Φ x)) (xs.drop (i + 1)) ri = .ok dr r2 ∧ ds = di ++ dr ∧ H' D = some (.lst ys) ∧ RepFs P w K H' ys di), fun H' z => ⟨xs.length - (i + 1), by omega, z⟩, fun v H' hy => ?_⟩
          obtain ⟨d, hd, g, yv⟩ := W.yld i Hc v H' M.later hlt hy
          have dx : xs.drop i = d :: xs.drop (i + 1) := by
            rw [List.drop_eq_getElem_cons hlt]
            rw [List.getElem?_eq_getElem hlt] at hd
            cases hd
            rfl
          rw [dx] at hcr
          obtain ⟨o1, rm, o2, e1, e2, e3⟩ := compR_cons hcr
          refine turn_go M (wipe_eq (wipe_length σ vs) fun i hi => wipe_out hi) g yv pk hn (fun i hi => hi) e1 fun σ2 b r4 H3 M3 we hb1 hb0 lt kp => ?_
          have hD3 : H3 D = some (.lst ys) := kp D _ hDc hD fun _ e => nomatch e
          have R3 : RepFs P w K H3 ys di := RepFs.later lt _ _ R
          cases b with
          | false =>
            obtain ⟨z1, z2⟩ := hb0 rfl
            subst z1 z2
            rw [List.nil_append] at e3
            subst e3
            exact ⟨rfl, hlt, r4, di, dr, ys, by rw [← we]; exact M3.wipe fun i hi => hi, e2, hds, hD3, R3⟩
          | true =>
            obtain ⟨y, r5, k1, k2⟩ := dat_ok (hb1 rfl)
            obtain ⟨e5, e6⟩ : o1 = [y] ∧ rm = r5 := by cases k2; exact ⟨rfl, rfl⟩
            rw [e6] at e2
            rw [e5] at e3
            refine ⟨r4, M3.env, ?_⟩
            rw [k1]
            intro u H4 S4 V4 N4
            have hD4 : H4 D = some (.lst ys) := S4.ext.keep D _ hD3 (M3.notOwn hD) fun _ e => nomatch e
            have lt4 := S4.later M3.env
            have M4 := (M3.stp S4).wipe (ws := vs) fun i hi => hi
            rw [we] at M4
            have up : Later H4 (L2.upd H4 D (.lst (ys ++ [u]))) := Ownable.upd hD4 (.lst (P := P) (w := w) (a := D) ys)
            cases V4 with
            | d hy =>
              refine ⟨ys, hD4, ?_, rfl, hlt, r5, di ++ [y], o2, ys ++ [u], M4.upd hD hD4 (.lst ys), e2, by rw [hds, e3, List.append_assoc], upd_same, RepFs.snoc (RepFs.later (lt4.trans up) _ _ R3) (RepF.later up _ _ hy)⟩
              have l1 : ds.length = di.length + dr.length := by rw [hds, List.length_append]
              have l2 : dr.length = 1 + o2.length := by rw [e3, List.length_append]; rfl
              rw [R.length]
              omega
        · have e : i = xs.length := by omega
          subst e
          rw [List.drop_length, compR] at hcr
          cases hcr
          rw [List.append_nil] at hds
          subst hds
          have hl : r2.length = r1.length := by have := M.len; rw [wipeR_len] at this; exact this
          refine .inl ⟨W.stop Hc M.later, h1 _ Hc (M.fin hl S) (.fresh (.lst hDc R) (M.notOwnF hl hD)) fun _ _ => ⟨D, rfl, S.none hD⟩⟩
      · rw [if_neg hz] at h1; exact h1.elim
  · exact h.elim
/-- the parts of a comprehension's block -/
structure BlkParts (X : Cx) (Φ : Str → List FJ.Slot → Res) (scope : Scope) (tg : Expr) (ifs : List Expr) (t : ITg) (fs : IL) : Prop where
  g : ∀ (s : Shared) (H : Hp) (C : Addr) (cl : List (Str × Addr)) (fp : List Addr), PG (blkX X s H scope cl C fp) tg (tG X.prog X.w X.K t)
  t : ∀ (s : Shared) (H : Hp) (C : Addr) (cl : List (Str × Addr)) (fp : List Addr), PTs (blkX X s H scope cl C fp) ifs (tT X.prog X.w X.K (denT Φ fs))
def noSet (e : Expr) : Prop := ∀ env x, foldedSetIterable e env x = pure x
theorem e_lc {elt tg iter : Expr} {ifs : List Expr} {scope : Scope} {own : List (Str × Nat)} {t : ITg} {it : II} {fs : IL} (hc : X.calm = true) (hN : X.N.Nodup) (hi : GI X Φ tg iter it) (ok : BlkOk X.N X.env.scope scope own) (hp : BlkParts X Φ scope tg ifs t fs)
    (he : ∀ (s : Shared) (H : Hp) (C : Addr) (cl : List (Str × Addr)) (fp : List Addr), PE (blkX X s H scope cl C fp) elt (tE X.prog X.w X.K (den Φ x))) (hs : noSet iter) : GE X Φ (.ListComp elt [⟨tg, iter, ifs, 0⟩] scope pos) (.lc (own.map (·.2)) x (.one t it fs)) :=
  (pe_lc hc hN hi ok hp.g hp.t he (hs X.env)).imp fun τ G Q q => by
    obtain ⟨r, en, hw⟩ := q
    exact lc_read en (fun _ _ _ h => h) hw
theorem wipeR_sub {r : Rh} {vs ws : List Nat} (h : ∀ i ∈ ws, i ∈ vs) : wipeR (wipeR r ws) vs = wipeR r vs := by
  apply List.ext_getElem?
  intro i
  by_cases hi : i ∈ vs
  · by_cases hb : i < r.length
    · rw [wipeR_in hi (by rw [wipeR_len]; exact hb), wipeR_in hi hb]
    · rw [List.getElem?_eq_none (by rw [wipeR_len, wipeR_len]; omega), List.getElem?_eq_none (by rw [wipeR_len]; omega)]
  · rw [wipeR_out hi, wipeR_out hi, wipeR_out fun z => hi (h i z)]
def inF (Φ : Str → List FJ.Slot → Res) (t1 : ITg) (it1 : II) (fs1 : IL) (x : IE) : Rh → Out (List PyData) := fun r4 => (denI Φ it1 r4).bind fun ys r5 => compR (turnF Φ (tgNames t1) t1 fs1 (elF Φ x)) ys r5
theorem lc2_eq {vs : List Nat} {t t1 : ITg} {it it1 : II} {fs fs1 : IL} {r : Rh} : den Φ (.lc vs x (.two t it fs t1 it1 fs1)) r = if (tgOk t it && tgIn vs t && tgOk t1 it1 && tgIn vs t1) = true then (denI Φ it r).bind fun xs r1 => (compR (turnF Φ vs t fs (inF Φ t1 it1 fs1 x)) xs r1).bind fun ds r2 => if ds.length ≤ sizeLine then .ok (.fresh (.list ds)) (backR r1 r2 vs) else .stuck else .stuck := by
  rw [den]
  rfl
theorem bind_ok {α β : Type} {o : Out α} {f : α → Rh → Out β} {b : β} {r : Rh} (h : o.bind f = .ok b r) : ∃ a r1, o = .ok a r1 ∧ f a r1 = .ok b r := by
  cases o with
  | ok a r1 => exact ⟨a, r1, rfl, h⟩
  | exc _ _ => cases h
  | stuck => cases h
theorem lc2_read {P : Program} {w : World} {K : PySem.W.Frag} {σ : St} {H0 : Hp} {Q : VK} {wi wi1 : TI} {t t1 : ITg} {it it1 : II} {fs fs1 : IL} {vs : List Nat} {r : Rh} (en : EnvR P w K H0 σ r) (hwi : ∀ τ G R, tI P w K (denI Φ it) (plI it) τ G R → wi τ G R) (hwi1 : ∀ τ G R, tI P w K (denI Φ it1) (plI it1) τ G R → wi1 τ G R)
    (h : Wp (den Φ (.lc vs x (.two t it fs t1 it1 fs1)) r) fun v r' => ∀ u H', Stp P w K σ r r' H0 H' → ValR P w K H' σ r' u v → New H0 u v → Q u H') : tLc2 wi (tG P w K t) (tT P w K (denT Φ fs)) wi1 (tG P w K t1) (tT P w K (denT Φ fs1)) (tE P w K (den Φ x)) vs (tgNames t1) σ H0 Q := by
  rw [lc2_eq] at h
  split at h
  · rename_i hok
    rw [Bool.and_eq_true, Bool.and_eq_true, Bool.and_eq_true] at hok
    have pk := tgOk_is hok.1.1.1
    have hn := tgIn_is hok.1.1.2
    have pk1 := tgOk_is hok.1.2
    have hn1 := tgIn_is hok.2
    refine hwi σ H0 _ ⟨r, en, (Wp.bind h).mono fun xs r1 h1 H1 S J W D hD => ?_⟩
    have h1 := Wp.bind h1
    cases hc : compR (turnF Φ vs t fs (inF Φ t1 it1 fs1 x)) xs r1 with
    | exc _ _ => rw [hc] at h1; exact h1.elim
    | stuck => rw [hc] at h1; exact h1.elim
    | ok ds r2 =>
      rw [hc] at h1
      have h1 : Wp (if ds.length ≤ sizeLine then Out.ok (Val.fresh (.list ds)) (backR r1 r2 vs) else .stuck) _ := h1
      by_cases hz : ds.length ≤ sizeLine
      · rw [if_pos hz] at h1
        have gD := Grow.new (.lst []) hD
        refine ⟨fun i m Hc => m = xs.length - i ∧ i ≤ xs.length ∧ ∃ ri di dr ys, Mv P w K σ r1 H1 vs (wipe σ vs) (wipeR ri vs) Hc ∧ compR (turnF Φ vs t fs (inF Φ t1 it1 fs1 x)) (xs.drop i) ri = .ok dr r2 ∧ ds = di ++ dr ∧ Hc D = some (.lst ys) ∧ RepFs P w K Hc ys di, ⟨xs.length, rfl, Nat.zero_le _, r1, [], ds, [], Mv.start S.env vs gD, by rw [List.drop_zero]; exact hc, rfl, upd_same, .nil⟩, ?_⟩
        rintro i m Hc ⟨rfl, hi, ri, di, dr, ys, M, hcr, hds, hDc, R⟩
        by_cases hlt : i < xs.length
        · refine .inr ⟨W.go i Hc M.later hlt, fun H' => (xs.length - (i + 1) = xs.length - (i + 1) ∧ i + 1 ≤ xs.length ∧ ∃ ri di dr ys, Mv P w K σ r1 H1 vs (wipe σ vs) (wipeR ri vs) H' ∧ compR (turnF Φ vs t fs (inF Φ t1 it1 fs1 x)) (xs.drop (i + 1)) ri = .ok dr r2 ∧ ds = di ++ dr ∧ H' D = some (.lst ys) ∧ RepFs P w K H' ys di), fun H' z => ⟨xs.length - (i + 1), by omega, z⟩, fun v H' hy => ?_⟩
          obtain ⟨d, hd, g, yv⟩ := W.yld i Hc v H' M.later hlt hy
          have dx : xs.drop i = d :: xs.drop (i + 1) := by
            rw [List.drop_eq_getElem_cons hlt]
            rw [List.getElem?_eq_getElem hlt] at hd
            cases hd
            rfl
          rw [dx] at hcr
          obtain ⟨o1, rm, o2, e1, e2, e3⟩ := compR_cons hcr
          refine turn_go M (wipe_eq (wipe_length σ vs) fun i hi => wipe_out hi) g yv pk hn (fun i hi => hi) e1 fun σ2 b r4 H3 M3 we hb1 hb0 lt kp => ?_
          have hD3 : H3 D = some (.lst ys) := kp D _ hDc hD fun _ e => nomatch e
          have R3 : RepFs P w K H3 ys di := RepFs.later lt _ _ R
          cases b with
          | false =>
            obtain ⟨z1, z2⟩ := hb0 rfl
            subst z1 z2
            rw [List.nil_append] at e3
            subst e3
            exact ⟨rfl, hlt, r4, di, dr, ys, by rw [← we]; exact M3.wipe fun i hi => hi, e2, hds, hD3, R3⟩
          | true =>
            obtain ⟨zs, r5, k1, k2⟩ := bind_ok (hb1 rfl)
            refine hwi1 σ2 H3 _ ⟨r4, M3.env, ?_⟩
            rw [k1]
            intro H4 S4 J1 W1
            have hD4 : H4 D = some (.lst ys) := S4.ext.keep D _ hD3 (M3.notOwn hD) fun _ e => nomatch e
            have R4 : RepFs P w K H4 ys di := RepFs.later (S4.later M3.env) _ _ R3
            have M4 := M3.stp S4
            have we2 : wipe (wipe σ2 (tgNames t1)) (tgNames t1) = wipe σ2 (tgNames t1) := wipe_eq (wipe_length _ _) fun i hi => wipe_out hi
            refine ⟨fun j k Hj => k = zs.length - j ∧ j ≤ zs.length ∧ ∃ rj dj dr' ys', Mv P w K σ r1 H1 vs (wipe σ2 (tgNames t1)) (wipeR rj (tgNames t1)) Hj ∧ compR (turnF Φ (tgNames t1) t1 fs1 (elF Φ x)) (zs.drop j) rj = .ok dr' rm ∧ o1 = dj ++ dr' ∧ Hj D = some (.lst ys') ∧ RepFs P w K Hj ys' (di ++ dj) ∧ Later H4 Hj, ⟨zs.length, rfl, Nat.zero_le _, r5, [], o1, ys, M4.wipe hn1, by rw [List.drop_zero]; exact k2, rfl, hD4, by rw [List.append_nil]; exact R4, Later.refl _⟩, ?_⟩
            rintro j k Hj ⟨rfl, hj, rj, dj, dr', ys', Mj, hcj, ho1, hDj, Rj, ltj⟩
            by_cases hlt1 : j < zs.length
            · refine .inr ⟨W1.go j Hj ltj hlt1, fun H' => (zs.length - (j + 1) = zs.length - (j + 1) ∧ j + 1 ≤ zs.length ∧ ∃ rj dj dr' ys', Mv P w K σ r1 H1 vs (wipe σ2 (tgNames t1)) (wipeR rj (tgNames t1)) H' ∧ compR (turnF Φ (tgNames t1) t1 fs1 (elF Φ x)) (zs.drop (j + 1)) rj = .ok dr' rm ∧ o1 = dj ++ dr' ∧ H' D = some (.lst ys') ∧ RepFs P w K H' ys' (di ++ dj) ∧ Later H4 H'), fun H' z => ⟨zs.length - (j + 1), by omega, z⟩, fun v1 H5 hy1 => ?_⟩
              obtain ⟨d1, hd1, g1, yv1⟩ := W1.yld j Hj v1 H5 ltj hlt1 hy1
              have dx1 : zs.drop j = d1 :: zs.drop (j + 1) := by
                rw [List.drop_eq_getElem_cons hlt1]
                rw [List.getElem?_eq_getElem hlt1] at hd1
                cases hd1
                rfl
              rw [dx1] at hcj
              obtain ⟨p1, rn, p2, f1, f2, f3⟩ := compR_cons hcj
              refine turn_go Mj we2 g1 yv1 pk1 (fun i hi => hi) hn1 f1 fun σ3 b r8 H6 M6 we6 hc1 hc0 lt6 kp6 => ?_
              have hD6 : H6 D = some (.lst ys') := kp6 D _ hDj hD fun _ e => nomatch e
              have R6 : RepFs P w K H6 ys' (di ++ dj) := RepFs.later lt6 _ _ Rj
              cases b with
              | false =>
                obtain ⟨z1, z2⟩ := hc0 rfl
                subst z1 z2
                rw [List.nil_append] at f3
                subst f3
                exact ⟨rfl, hlt1, r8, dj, dr', ys', by rw [← we6]; exact M6.wipe hn1, f2, ho1, hD6, R6, ltj.trans lt6⟩
              | true =>
                obtain ⟨y, r9, m1, m2⟩ := dat_ok (hc1 rfl)
                obtain ⟨e5, e6⟩ : p1 = [y] ∧ rn = r9 := by cases m2; exact ⟨rfl, rfl⟩
                rw [e6] at f2
                rw [e5] at f3
                refine ⟨r8, M6.env, ?_⟩
                rw [m1]
                intro u H7 S7 V7 N7
                have hD7 : H7 D = some (.lst ys') := S7.ext.keep D _ hD6 (M6.notOwn hD) fun _ e => nomatch e
                have lt7 := S7.later M6.env
                have M7 := (M6.stp S7).wipe (ws := tgNames t1) hn1
                rw [we6] at M7
                have up : Later H7 (L2.upd H7 D (.lst (ys' ++ [u]))) := Ownable.upd hD7 (.lst (P := P) (w := w) (a := D) ys')
                cases V7 with
                | d hy =>
                  refine ⟨ys', hD7, ?_, rfl, hlt1, r9, dj ++ [y], p2, ys' ++ [u], M7.upd hD hD7 (.lst ys'), f2, by rw [ho1, f3, List.append_assoc], upd_same, by rw [← List.append_assoc]; exact RepFs.snoc (RepFs.later (lt7.trans up) _ _ R6) (RepF.later up _ _ hy), (ltj.trans lt6).trans (lt7.trans up)⟩
                  have l1 : ds.length = di.length + dr.length := by rw [hds, List.length_append]
                  have l2 : dr.length = o1.length + o2.length := by rw [e3, List.length_append]
                  have l3 : o1.length = dj.length + dr'.length := by rw [ho1, List.length_append]
                  have l4 : dr'.length = 1 + p2.length := by rw [f3, List.length_append]; rfl
                  rw [Rj.length, List.length_append]
                  omega
            · have e : j = zs.length := by omega
              subst e
              rw [List.drop_length, compR] at hcj
              cases hcj
              rw [List.append_nil] at ho1
              subst ho1
              have Mo := Mj.wipe (ws := vs) fun i hi => hi
              rw [Mj.weq, wipeR_sub hn1] at Mo
              exact .inl ⟨W1.stop Hj ltj, rfl, hlt, rm, di ++ o1, o2, ys', Mo, e2, by rw [hds, e3, List.append_assoc], hDj, Rj⟩
        · have e : i = xs.length := by omega
          subst e
          rw [List.drop_length, compR] at hcr
          cases hcr
          rw [List.append_nil] at hds
          subst hds
          have hl : r2.length = r1.length := by have := M.len; rw [wipeR_len] at this; exact this
          refine .inl ⟨W.stop Hc M.later, h1 _ Hc (M.fin hl S) (.fresh (.lst hDc R) (M.notOwnF hl hD)) fun _ _ => ⟨D, rfl, S.none hD⟩⟩
      · rw [if_neg hz] at h1; exact h1.elim
  · exact h.elim
/-- the second clause's parts -/
structure BlkParts2 (X : Cx) (Φ : Str → List FJ.Slot → Res) (scope : Scope) (tg iter : Expr) (ifs : List Expr) (t : ITg) (it : II) (fs : IL) : Prop extends BlkParts X Φ scope tg ifs t fs where
  i : ∀ (s : Shared) (H : Hp) (C : Addr) (cl : List (Str × Addr)) (fp : List Addr), PI (blkX X s H scope cl C fp) tg iter (tI X.prog X.w X.K (denI Φ it) (plI it))
theorem e_lc2 {elt tg iter tg1 iter1 : Expr} {ifs ifs1 : List Expr} {scope : Scope} {own : List (Str × Nat)} {t t1 : ITg} {it it1 : II} {fs fs1 : IL} (hc : X.calm = true) (hN : X.N.Nodup) (hi : GI X Φ tg iter it) (ok : BlkOk X.N X.env.scope scope own) (hp : BlkParts X Φ scope tg ifs t fs) (hp1 : BlkParts2 X Φ scope tg1 iter1 ifs1 t1 it1 fs1)
    (he : ∀ (s : Shared) (H : Hp) (C : Addr) (cl : List (Str × Addr)) (fp : List Addr), PE (blkX X s H scope cl C fp) elt (tE X.prog X.w X.K (den Φ x))) (hs : noSet iter) (hs1 : noSet iter1) : GE X Φ (.ListComp elt [⟨tg, iter, ifs, 0⟩, ⟨tg1, iter1, ifs1, 0⟩] scope pos) (.lc (own.map (·.2)) x (.two t it fs t1 it1 fs1)) :=
  if hv : tgIn (own.map (·.2)) t1 = true then (pe_lc2 hc hN hi ok (tgIn_is hv) hp.g hp.t hp1.i hp1.g hp1.t he (hs X.env) hs1).imp fun τ G Q q => by
    obtain ⟨r, en, hw⟩ := q
    exact lc2_read en (fun _ _ _ h => h) (fun _ _ _ h => h) hw
  else ⟨fun ps s0 τ G Q J q => by
    obtain ⟨r, en, hw⟩ := q
    rw [lc2_eq, if_neg (by rw [Bool.and_eq_true]; exact fun z => hv z.2)] at hw
    exact hw.elim⟩
end
end FJ

set_option Elab.async false
set_option linter.all false
set_option autoImplicit false
set_option maxRecDepth 100000
set_option maxHeartbeats 0
/-! Ev4k: dict comprehensions, keys flat or tuples. -/
namespace FJ
open PySem PySem.Spec L2
open PyProof.Rows hiding St

section
variable {X : Cx}
/-- the entry k: d comes in -/
def StepD (P : Program) (w : World) (K : PySem.W.Frag) (G : Hp) (B : Addr) (y z : V) (Nx : Hp → Prop) : Prop :=
  ∃ ps k d, RepF P w K G y k ∧ RepF P w K G z d ∧ RepO P w K G B (.dict ps) ∧ keyFits ps k = true ∧ ps.length < sizeLine ∧ ∀ o, RepO P w K (L2.upd G B o) B (.dict (dput ps k d)) → Nx (L2.upd G B o)
theorem step_dict {ls : List (Addr × Obj)} {τ : St} {G : Hp} {t : Shared} {E : Value → Shared → Prop} {B : Addr} {y z : V} {y' z' : Value} {Nx : Hp → Prop} {C : Unit → Shared → Prop} (hu : X.A.units + 200 < cLine) (J : Inv X ls τ G t) (ry : RelV y y') (rz : RelV z z') (st : StepD X.prog X.w X.K G B y z Nx)
    (q : ∀ t' G', Inv X ls τ G' t' → Nx G' → C () t') : wpAny (model X.prog X.w) X.A (dictSet B y' z') C E t := by
  obtain ⟨ps, k, d, hk, hd, ro, fit, lz, nx⟩ := st
  rcases keyFits_or fit with ⟨f1, f2⟩ | ⟨f1, f2⟩
  · obtain ⟨B', kvs, e, hR, r⟩ := (RepP.ow ro).dictF f2
    cases e
    have hB : G B = some (.dK kvs) := by
      rcases hR with h | ⟨o, h⟩
      · exact h
      · obtain ⟨u, hu', ow⟩ := ro.at_
        rw [h] at hu'; cases hu'; cases ow
    obtain ⟨c, hc, rfl⟩ := flatKey_of (.fz hk) f1
    exact d_dictSet J hB (by rw [r.length]; exact lz) ry rz fun t' J' => q t' _ J' (nx _ (.dK upd_same (RepKs.put hc (hd.later (ro.upd _) _ _) (RepKs.later (ro.upd _) _ _ r))))
  · obtain ⟨B', e, hN⟩ := (RepP.ow ro).dictN f2
    cases e
    obtain ⟨es, xs, r, zz, yy, pr, dd⟩ := nestAt J hN
    obtain ⟨b, rfl, hkey⟩ := nest_key J (.fz hk) f1 ry
    obtain ⟨u, hB, ow⟩ := ro.at_
    have hv : y = .ref b := by
      obtain ⟨_, c, rfl⟩ := tup_ref (RepP.fz hk) f1
      cases ry; rfl
    subst hv
    have hz : xs.length < sizeLine := by rw [← Paired.length pr, r.length]; exact lz
    refine wpAny_dictSet_heap (knd := nestedKind X.prog X.w) (show X.A.units + 8 < cLine by omega) hkey dd (fun h' dd' hs => ?_) (Nat.le_of_lt hz)
    have hz2 : (nput es (nkey k) b z).length ≤ sizeLine := Nat.le_trans nput_len (by rw [Paired.length pr]; exact hz)
    exact q _ _ (nest_write J (by rw [hB]; exact ow.mut) hs hz2 yy (nput_pair pr rz) dd') (nx _ (.dN upd_same nput_ne (RepNs.put (hk.later (ro.upd _) _ _) f1 (hd.later (ro.upd _) _ _) (RepNs.later (ro.upd _) _ _ r))))
/-- {k: v for t in it if ..} -/
def tDn (P : Program) (w : World) (K : PySem.W.Frag) (wi : TI) (g : TG) (tt : TT) (tk tv : TE) (vs : List Nat) : TE := fun τ G Q => wi τ G fun J G1 => ∀ B, G1 B = none → ∃ W : Nat → Nat → Hp → Prop, (∃ m, W 0 m (L2.upd G1 B (.dK []))) ∧ ∀ i m Gc, W i m Gc →
  (J.stop i Gc ∧ Q (.ref B) Gc) ∨ (J.go i Gc ∧ ∃ Nx : Hp → Prop, (∀ G', Nx G' → ∃ m', m' < m ∧ W (i + 1) m' G') ∧ ∀ x G', J.yld i Gc x G' → g x (wipe τ vs) G' fun τ2 G2 => wipe τ2 vs = wipe τ vs ∧ tt τ2 G2 fun b G3 =>
    if b = true then tk τ2 G3 fun y G4 => tv τ2 G4 fun z G5 => StepD P w K G5 B y z Nx else Nx G3)
theorem pe_dn {ke ve tg src : Expr} {cs : List Expr} {blk : Scope} {own : List (Str × Nat)} {pos : Pos} {wi : TI} {g : TG} {tt : TT} {tk tv : TE} (hu : X.A.units + 200 < cLine) (calm : X.calm = true) (nd : X.N.Nodup) (hsrc : PI X tg src wi) (bk : BlkOk X.N X.env.scope blk own)
    (hg : ∀ (s : Shared) (H : Hp) (C : Addr) (cl : List (Str × Addr)) (fp : List Addr), PG (blkX X s H blk cl C fp) tg g) (ht : ∀ (s : Shared) (H : Hp) (C : Addr) (cl : List (Str × Addr)) (fp : List Addr), PTs (blkX X s H blk cl C fp) cs tt)
    (hk : ∀ (s : Shared) (H : Hp) (C : Addr) (cl : List (Str × Addr)) (fp : List Addr), PE (blkX X s H blk cl C fp) ke tk)
    (hv : ∀ (s : Shared) (H : Hp) (C : Addr) (cl : List (Str × Addr)) (fp : List Addr), PE (blkX X s H blk cl C fp) ve tv) (hs : ∀ x, foldedSetIterable src X.env x = pure x) :
    PE X (.DictComp ke ve [⟨tg, src, cs, 0⟩] blk pos) (tDn X.prog X.w X.K wi g tt tk tv (own.map (·.2))) := by
  refine ⟨fun ls t τ G Q J q => ?_⟩
  rw [arm_eval_DictComp]
  have cellsOk : ∀ y ∈ blk.names, y.2 = .free → ∃ c, X.env.cells.lookup y.1 = some c := fun y hy e => (bk.free y hy e).elim (fun k => J.ok.has _ (.inl k)) fun k => J.ok.has _ (.inr k)
  refine wpAny_comprehension_free (use := none) rfl hs (closure_ok cellsOk) bk.kind (fun y hy e => by rw [bk.uniq y hy, e]) (thn (hsrc.run ls t τ G _ J q) fun xv t1 hx => thn hx fun itv t2 h2 => ?_)
  obtain ⟨it, fp, tn, W0, G2, rfl, J2, T, st2, fpo, q⟩ := h2
  refine wpAny_newObj_type (newEnv_comp ?_)
  generalize eB : t2.heap.objs.size = B
  have nB : G2 B = none := J2.hok.fresh (Nat.le_of_eq eB)
  obtain ⟨W, ⟨m0, w0⟩, turn⟩ := q B nB
  generalize et3 : ({ t2 with heap := t2.heap.push { cls := .type "dict", data := .dict #[] } } : Shared) = t3
  have J3 : Inv X ls τ (L2.upd G2 B (.dK [])) t3 := by
    subst et3
    refine J2.laid (t' := t2.toks) (fun b o e => Heap.get?_push_of_some _ e) (Nat.le_of_eq eB) ?_
    subst eB
    exact dk_empty t2.heap J2.big
  have heap3 : t3.heap = t2.heap.push { cls := .type "dict", data := .dict #[] } := by subst et3; rfl
  have inB : ∀ b ∈ fp, b < t2.heap.objs.size := fun b hb => let ⟨o, e, _⟩ := T.obj _ _ st2 b hb; Heap.lt_size e
  have fp3 : ∀ b ∈ fp, FpOk X ls (L2.upd G2 B (.dK [])) b ∧ b < t3.heap.objs.size := fun b hb => by
    have lt := inB b hb
    obtain ⟨p1, p2⟩ := fpo b hb
    refine ⟨⟨?_, p2⟩, by rw [heap3, Heap.size_push]; exact Nat.lt_succ_of_lt lt⟩
    rw [upd_ne (by subst eB; exact Nat.ne_of_lt lt)]
    exact p1
  have keepSt : ∀ {i : Nat} {h0 h1 : Heap}, tn i h0 → (∀ b o, h0.get? b = some o → h1.get? b = some o) → tn i h1 := fun a c => T.keep _ _ _ a fun b _ o e => c b o e
  have st3 : tn 0 t3.heap := keepSt st2 fun b o e => by rw [heap3]; exact Heap.get?_push_of_some _ e
  have J4 := block_start J3 bk nd fp3
  generalize eG3 : L2.upd G2 B (.dK []) = G3 at J3 J4 w0 fp3
  have rg := hg t3 G3 t3.heap.objs.size (cellsFrom (t3.heap.objs.size + 1) blk.names (cloFrom X.env.cells blk.names [])) fp
  have rt := ht t3 G3 t3.heap.objs.size (cellsFrom (t3.heap.objs.size + 1) blk.names (cloFrom X.env.cells blk.names [])) fp
  have rk := hk t3 G3 t3.heap.objs.size (cellsFrom (t3.heap.objs.size + 1) blk.names (cloFrom X.env.cells blk.names [])) fp
  have rv := hv t3 G3 t3.heap.objs.size (cellsFrom (t3.heap.objs.size + 1) blk.names (cloFrom X.env.cells blk.names [])) fp
  show codeAny _ _ (.compStart (.DictComp ke ve [⟨tg, src, cs, 0⟩] blk pos) 0 (.ref it) (.ref B) (compEnvC blk (cellsFrom (t3.heap.objs.size + 1) blk.names (cloFrom X.env.cells blk.names [])) t3.heap.objs.size X.env)) (compPost (model X.prog X.w) X.A X.xe none _ (.ref B) t3.heap.objs.size) { t3 with heap := pushCells (t3.heap.push { cls := .type "dict", data := .dict #[] }) blk.names }
  have fresh3 : ∀ b ∈ fp, G3 b = none := fun b hb => (fp3 b hb).1.1
  unfold blkX at rg rt rk rv
  generalize ece : compEnvC blk (cellsFrom (t3.heap.objs.size + 1) blk.names (cloFrom X.env.cells blk.names [])) t3.heap.objs.size X.env = ce at J4 rg rt rk rv ⊢
  have lce : ce.locals = t3.heap.objs.size := by subst ece; rfl
  generalize et4 : ({ t3 with heap := pushCells (t3.heap.push { cls := .type "dict", data := .dict #[] }) blk.names } : Shared) = t4 at J4 ⊢
  have st4 : tn 0 t4.heap := keepSt st3 fun b o e => by subst et4; exact pushCells_keeps _ _ _ _ (Heap.get?_push_of_some _ e)
  generalize eY : X.blk t3 G3 blk ce fp = Y at J4 rg rt rk rv
  have yp : Y.prog = X.prog := by subst eY; rfl
  have standing : ∀ {τ' : St} {G' : Hp} {t' : Shared}, Inv (X.blk t3 G3 blk ce fp) [] τ' G' t' → (∀ b ∈ fp, G' b = none) → ∀ b ∈ fp, FpOk (X.blk t3 G3 blk ce fp) [] G' b := fun {_ _ _} Jb hn b hb =>
    ⟨hn b hb, (Jb.ok.exf b hb).1, Jb.ok.exfs b hb, .inl hb, fun x c e => (Jb.ok.exf b hb).2 x c e, fun p hp => absurd (show p ∈ ([] : List (Addr × Obj)) ++ [] from hp) (by simp)⟩
  subst eY
  have loop : codeAny (model X.prog X.w) X.A (.compLoop (.DictComp ke ve [⟨tg, src, cs, 0⟩] blk pos) 0 (.ref it) (.ref B) ce) (compPost (model X.prog X.w) X.A X.xe none (fun v s' => ∃ x H', Inv X ls τ H' s' ∧ RelV x v ∧ Q x H') (.ref B) t3.heap.objs.size) t4 := by
    refine compLoop_anyD (fun n t' => ∃ i G', Inv (X.blk t3 G3 blk ce fp) [] (wipe τ (own.map (·.2))) G' t' ∧ tn i t'.heap ∧ (∀ b ∈ fp, G' b = none) ∧ W i n G') ?_ m0 ⟨0, G3, J4, st4, fresh3, w0⟩
    rintro n t5 ⟨i, G5, J5, st5, n5, w5⟩
    rcases turn i n G5 w5 with ⟨halt, done⟩ | ⟨more, Nx, hNx, act⟩
    · refine thnF (T.done (X.blk t3 G3 blk ce fp) rfl rfl rfl calm i [] t5 _ G5 (fun _ _ => False) J5 (standing J5 n5) st5 halt) fun r t6 ⟨hr, J6⟩ => ?_
      subst hr
      have J7 : Inv X ls τ G5 t6 := J3.call' (ch := fp) J6.os J6.base J6.hok J6.bare fun b hb => let ⟨_, p1, p2, p3, p4, p5⟩ := (fp3 b hb).1; ⟨p3, p1, p4, p5⟩
      have nC : G5 t3.heap.objs.size = none := by
        rw [← lce]
        exact J6.free
      obtain ⟨m, hm, _⟩ := J6.loc
      have hm : t6.heap.Ns ce.locals m := hm
      rw [lce] at hm
      obtain ⟨p0, p1, p2, p3, p4, p5⟩ := J3.fpOk (Nat.le_refl _) nC
      exact ⟨m, hm, fun h'' sb => ⟨.ref B, G5, J7.turned (t' := t6.toks) (fun b o hb e => (sb.2 b hb).trans e) p0 p1 p3 p4 p5, rfl, done⟩⟩
    · refine thnF (T.item (X.blk t3 G3 blk ce fp) rfl rfl rfl calm i [] t5 _ G5 (fun _ _ => False) J5 (standing J5 n5) st5 more) fun r t6 ⟨u, hr, h6⟩ => ?_
      subst hr
      refine thnF h6 fun _ t7 ⟨x, G7, J7, r7, y7, st7, n7⟩ => ?_
      refine thnF (rg.run _ t7 _ G7 x u _ (J7.pinned (standing J7 n7) (T.obj _ _ st7)) r7 (act x G7 y7)) fun _ t8 ⟨τ8, G8, J8, we8, q8⟩ => ?_
      refine thnF (rt.run _ t8 τ8 G8 _ J8 q8) fun b t9 ⟨G9, J9, q9⟩ => ?_
      have onward : ∀ {t' : Shared} {G' : Hp}, Inv (X.blk t3 G3 blk ce fp) ([] ++ pinsAt fp t7.heap) τ8 G' t' → Nx G' → ∃ m, m < n ∧ ∃ i G', Inv (X.blk t3 G3 blk ce fp) [] (wipe τ (own.map (·.2))) G' t' ∧ tn i t'.heap ∧ (∀ b ∈ fp, G' b = none) ∧ W i m G' := fun {t' G'} Jn nx => by
        obtain ⟨m', hm, wn⟩ := hNx G' nx
        have still : ∀ b ∈ fp, ∀ o, t7.heap.get? b = some o → t'.heap.get? b = some o ∧ G' b = none := fun b hb o e =>
          ⟨(Jn.pin (b, o) (List.mem_append_right _ (List.mem_append_right _ (mem_pinsAt hb e)))).1, (Jn.pin (b, o) (List.mem_append_right _ (List.mem_append_right _ (mem_pinsAt hb e)))).2.1⟩
        have same : (wipe τ (own.map (·.2))).length = τ8.length := by rw [← we8, wipe_length]
        refine ⟨m', hm, i + 1, G', (Jn.unpinned (pins := [])).weak same (fun j v e => (wipe_some (by rw [we8]; exact e)).1), T.keep _ _ _ st7 fun b hb o e => (still b hb o e).1, fun b hb => ?_, wn⟩
        obtain ⟨o, e, _⟩ := T.obj _ _ st7 b hb
        exact (still b hb o e).2
      cases b with
      | false =>
        rw [if_neg Bool.false_ne_true] at q9
        exact onward J9 q9
      | true =>
        rw [if_pos rfl] at q9
        refine thnF (rk.run _ t9 τ8 G9 _ J9 q9) fun z t10 ⟨yk, G10, J10, r10, q10⟩ => ?_
        refine thnF (rv.run _ t10 τ8 G10 _ J10 q10) fun z2 t11 ⟨yv, G11, J11, r11, sd⟩ => ?_
        exact step_dict (X := X.blk t3 G3 blk ce fp) hu J11 r10 r11 sd fun t12 G12 J12 nx => onward J12 nx
  exact codeAny_compStart_dict loop (T.self X.A 0 _ _ _ st4 loop)
end
section
variable {X : Cx} {Φ : Str → List FJ.Slot → Res} {x y : IE} {pos : Pos}
def prF (Φ : Str → List FJ.Slot → Res) (x y : IE) : Rh → Out (List (PyData × PyData)) := fun r4 => dat (den Φ x r4) fun a r5 => dat (den Φ y r5) fun b r6 => .ok [(a, b)] r6
theorem dc_eq {vs : List Nat} {t : ITg} {it : II} {fs : IL} {r : Rh} : den Φ (.dc vs x y (.one t it fs)) r = if (tgOk t it && tgIn vs t) = true then (denI Φ it r).bind fun xs r1 => (compR (turnF Φ vs t fs (prF Φ x y)) xs r1).bind fun ps r2 => match dmake [] ps with
    | some kvs => .ok (.fresh (.dict kvs)) (backR r1 r2 vs)
    | none => .stuck else .stuck := by
  rw [den]
  rfl
theorem dc_read {P : Program} {w : World} {K : PySem.W.Frag} {σ : St} {H0 : Hp} {Q : VK} {wi : TI} {t : ITg} {it : II} {fs : IL} {vs : List Nat} {r : Rh} (en : EnvR P w K H0 σ r) (hwi : ∀ τ G R, tI P w K (denI Φ it) (plI it) τ G R → wi τ G R)
    (h : Wp (den Φ (.dc vs x y (.one t it fs)) r) fun v r' => ∀ u H', Stp P w K σ r r' H0 H' → ValR P w K H' σ r' u v → New H0 u v → Q u H') : tDn P w K wi (tG P w K t) (tT P w K (denT Φ fs)) (tE P w K (den Φ x)) (tE P w K (den Φ y)) vs σ H0 Q := by
  rw [dc_eq] at h
  split at h
  · rename_i hok
    rw [Bool.and_eq_true] at hok
    have pk := tgOk_is hok.1
    have hn := tgIn_is hok.2
    refine hwi σ H0 _ ⟨r, en, (Wp.bind h).mono fun xs r1 h1 H1 S J W D hD => ?_⟩
    have h1 := Wp.bind h1
    cases hc : compR (turnF Φ vs t fs (prF Φ x y)) xs r1 with
    | exc _ _ => rw [hc] at h1; exact h1.elim
    | stuck => rw [hc] at h1; exact h1.elim
    | ok ps r2 =>
      rw [hc] at h1
      have h1 : Wp (match dmake [] ps with
        | some kvs => Out.ok (Val.fresh (.dict kvs)) (backR r1 r2 vs)
        | none => .stuck) _ := h1
      cases hm : dmake [] ps with
      | none => rw [hm] at h1; exact h1.elim
      | some kvs =>
        rw [hm] at h1
        have gD := Grow.new (.dK []) hD
        refine ⟨fun i m Hc => m = xs.length - i ∧ i ≤ xs.length ∧ ∃ ri dr acc, Mv P w K σ r1 H1 vs (wipe σ vs) (wipeR ri vs) Hc ∧ compR (turnF Φ vs t fs (prF Φ x y)) (xs.drop i) ri = .ok dr r2 ∧ dmake acc dr = some kvs ∧ RepO P w K Hc D (.dict acc), ⟨xs.length, rfl, Nat.zero_le _, r1, ps, [], Mv.start S.env vs gD, by rw [List.drop_zero]; exact hc, hm, .dK upd_same .nil⟩, ?_⟩
        rintro i m Hc ⟨rfl, hi, ri, dr, acc, M, hcr, hdm, R⟩
        by_cases hlt : i < xs.length
        · refine .inr ⟨W.go i Hc M.later hlt, fun H' => (xs.length - (i + 1) = xs.length - (i + 1) ∧ i + 1 ≤ xs.length ∧ ∃ ri dr acc, Mv P w K σ r1 H1 vs (wipe σ vs) (wipeR ri vs) H' ∧ compR (turnF Φ vs t fs (prF Φ x y)) (xs.drop (i + 1)) ri = .ok dr r2 ∧ dmake acc dr = some kvs ∧ RepO P w K H' D (.dict acc)), fun H' z => ⟨xs.length - (i + 1), by omega, z⟩, fun v H' hy => ?_⟩
          obtain ⟨d, hd, g, yv⟩ := W.yld i Hc v H' M.later hlt hy
          have dx : xs.drop i = d :: xs.drop (i + 1) := by
            rw [List.drop_eq_getElem_cons hlt]
            rw [List.getElem?_eq_getElem hlt] at hd
            cases hd
            rfl
          rw [dx] at hcr
          obtain ⟨o1, rm, o2, e1, e2, e3⟩ := compR_cons hcr
          refine turn_go M (wipe_eq (wipe_length σ vs) fun i hi => wipe_out hi) g yv pk hn (fun i hi => hi) e1 fun σ2 b r4 H3 M3 we hb1 hb0 lt kp => ?_
          obtain ⟨uD, hDc, oD⟩ := R.at_
          have hD3 : H3 D = Hc D := by rw [hDc]; exact kp D _ hDc hD fun _ e => by subst e; cases oD
          have R3 : RepO P w K H3 D (.dict acc) := R.later lt hD3
          cases b with
          | false =>
            obtain ⟨z1, z2⟩ := hb0 rfl
            subst z1 z2
            rw [List.nil_append] at e3
            subst e3
            exact ⟨rfl, hlt, r4, dr, acc, by rw [← we]; exact M3.wipe fun i hi => hi, e2, hdm, R3⟩
          | true =>
            obtain ⟨ka, r5, k1, k2⟩ := dat_ok (hb1 rfl)
            obtain ⟨kb, r6, k3, k4⟩ := dat_ok k2
            obtain ⟨e5, e6⟩ : o1 = [(ka, kb)] ∧ rm = r6 := by cases k4; exact ⟨rfl, rfl⟩
            subst e5 e6
            refine ⟨r4, M3.env, ?_⟩
            rw [k1]
            intro u H4 S4 V4 N4
            refine ⟨r5, S4.env, ?_⟩
            rw [k3]
            intro u2 H5 S5 V5 N5
            have S45 := S4.trans S5
            have hD5 : H5 D = some uD := S45.ext.keep D _ (hD3.trans hDc) (M3.notOwn hD) fun _ e => by subst e; cases oD
            have R5 : RepO P w K H5 D (.dict acc) := R3.later (S45.later M3.env) (by rw [hD5, hD3, hDc])
            have M5 := (M3.stp S45).wipe (ws := vs) fun i hi => hi
            rw [we] at M5
            rw [e3, List.cons_append, List.nil_append, dmake] at hdm
            split at hdm
            · rename_i hf
              rw [Bool.and_eq_true, decide_eq_true_eq] at hf
              cases V4 with
              | d hy =>
                cases V5 with
                | d hz => exact ⟨acc, ka, kb, RepF.later (S5.later S4.env) _ _ hy, hz, R5, hf.1, hf.2, fun o Ro => ⟨rfl, hlt, rm, o2, dput acc ka kb, M5.upd hD hD5 oD, e2, hdm, Ro⟩⟩
            · cases hdm
        · have e : i = xs.length := by omega
          subst e
          rw [List.drop_length, compR] at hcr
          cases hcr
          cases hdm
          have hl : r2.length = r1.length := by have := M.len; rw [wipeR_len] at this; exact this
          exact .inl ⟨W.stop Hc M.later, h1 _ Hc (M.fin hl S) (.fresh R (M.notOwnF hl hD)) fun _ _ => ⟨D, rfl, S.none hD⟩⟩
  · exact h.elim
theorem e_dc {ke ve tg iter : Expr} {ifs : List Expr} {scope : Scope} {own : List (Str × Nat)} {t : ITg} {it : II} {fs : IL} (hu : X.A.units + 200 < cLine) (hc : X.calm = true) (hN : X.N.Nodup) (hi : GI X Φ tg iter it) (ok : BlkOk X.N X.env.scope scope own) (hp : BlkParts X Φ scope tg ifs t fs)
    (hk : ∀ (s : Shared) (H : Hp) (C : Addr) (cl : List (Str × Addr)) (fp : List Addr), PE (blkX X s H scope cl C fp) ke (tE X.prog X.w X.K (den Φ x)))
    (hv : ∀ (s : Shared) (H : Hp) (C : Addr) (cl : List (Str × Addr)) (fp : List Addr), PE (blkX X s H scope cl C fp) ve (tE X.prog X.w X.K (den Φ y))) (hs : noSet iter) : GE X Φ (.DictComp ke ve [⟨tg, iter, ifs, 0⟩] scope pos) (.dc (own.map (·.2)) x y (.one t it fs)) :=
  (pe_dn hu hc hN hi ok hp.g hp.t hk hv (hs X.env)).imp fun τ G Q q => by
    obtain ⟨r, en, hw⟩ := q
    exact dc_read en (fun _ _ _ h => h) hw
end
end FJ

set_option Elab.async false
set_option linter.all false
set_option autoImplicit false
set_option maxRecDepth 100000
set_option maxHeartbeats 0
/-! Ev5a: statements. -/
namespace FJ
open PySem PySem.Spec L2
open PyProof.Rows hiding St

section
variable {P : Program} {w : World} {K : PySem.W.Frag} {pin : List Nat} {σ σ1 σ2 σ' : St} {r r1 r2 r' : Rh} {H H1 H2 H' : Hp}
/-- statements went from σ, r, H to σ', r', H' -/
structure SStp (P : Program) (w : World) (K : PySem.W.Frag) (pin : List Nat) (σ : St) (r : Rh) (H : Hp) (σ' : St) (r' : Rh) (H' : Hp) : Prop where
  ext : Ext (Own σ r) H H'
  env : EnvR P w K H' σ' r'
  own : ∀ (i : Nat) a, Owns σ' r' i a → Owns σ r i a ∨ H a = none
  pin : ∀ i ∈ pin, σ'[i]? = σ[i]? ∧ (hasD r i → hasD r' i)
  len : r'.length = r.length
theorem SStp.refl (en : EnvR P w K H σ r) : SStp P w K pin σ r H σ r H := ⟨Ext.refl _ _, en, fun _ _ h => .inl h, fun _ _ => ⟨rfl, id⟩, rfl⟩
theorem SStp.none (S : SStp P w K pin σ r H σ' r' H') {a : Addr} (h : H' a = .none) : H a = .none := by
  cases q : H a with
  | none => rfl
  | some o => exact absurd h (S.ext.dom a (by rw [q]; exact fun z => nomatch z))
theorem SStp.trans (S : SStp P w K pin σ r H σ1 r1 H1) (T : SStp P w K pin σ1 r1 H1 σ2 r2 H2) : SStp P w K pin σ r H σ2 r2 H2 :=
  ⟨S.ext.trans T.ext fun c ⟨i, h⟩ => (S.own i c h).imp (fun z => ⟨i, z⟩) id, T.env, fun i a h => (T.own i a h).elim (fun z => S.own i a z) fun z => .inr (S.none z), fun i hi => ⟨(T.pin i hi).1.trans (S.pin i hi).1, fun h => (T.pin i hi).2 ((S.pin i hi).2 h)⟩, T.len.trans S.len⟩
theorem Stp.ss (S : Stp P w K σ r r' H H') (en : EnvR P w K H σ r) : SStp P w K pin σ r H σ r' H' :=
  ⟨S.ext, S.env, fun i a ⟨⟨d, h1⟩, h2⟩ => .inl ⟨S.ow i d h1, h2⟩, fun i _ => ⟨rfl, S.dat i⟩, by rw [← S.env.len, en.len]⟩
theorem SStp.later (S : SStp P w K pin σ r H σ' r' H') (en : EnvR P w K H σ r) : Later H H' := S.ext.later en.ownOk
theorem New.ofS (S : SStp P w K pin σ r H σ' r' H') {u : V} {v : Val} (n : New H' u v) : New H u v := fun x e => by
  obtain ⟨a, e1, e2⟩ := n x e
  exact ⟨a, e1, S.none e2⟩
/-- a target's stores -/
theorem SStp.tg {ns : List Nat} (en : EnvR P w K H σ' r') (t : TgS σ σ' r r' ns) (hn : ∀ i ∈ ns, i ∉ pin) (hl : r'.length = r.length) : SStp P w K pin σ r H σ' r' H :=
  ⟨Ext.refl _ _, en, fun i a h => .inl (t.own i a h).1, fun i hi => ⟨t.so i fun z => hn i z hi, t.dat i⟩, hl⟩
/-- a slot gets a value -/
theorem SStp.set (en : EnvR P w K H1 σ r) {i : Nat} {u : V} {v : Val} (hv : ValR P w K H1 σ r u v) (hi : i ∉ pin) (ht : tgV (.nm i) v r = some r') :
    EnvR P w K H1 (σ.set i (some u)) r' ∧ (∀ (j : Nat) a, Owns (σ.set i (some u)) r' j a → Owns σ r j a ∨ (u = .ref a ∧ ∃ x, v = .fresh x)) ∧ (∀ j ∈ pin, (σ.set i (some u))[j]? = σ[j]? ∧ (hasD r j → hasD r' j)) ∧ r'.length = r.length := by
  have rest : ∀ s : FJ.Slot, ∀ j ∈ pin, (σ.set i (some u))[j]? = σ[j]? ∧ (hasD r j → hasD (r.set i s) j) := fun s j hj => by
    have hne : i ≠ j := fun z => hi (by rw [z]; exact hj)
    unfold hasD
    rw [List.getElem?_set_ne hne, List.getElem?_set_ne hne]
    exact ⟨rfl, id⟩
  cases hv with
  | d q =>
    have e : some (r.set i (.fz _)) = some r' := ht
    cases e
    refine ⟨en.set (fun _ => .fz q) (fun a d e => nomatch e), fun j a ho => ?_, rest _, by rw [List.length_set]⟩
    by_cases hji : j = i
    · subst hji
      obtain ⟨⟨y, h1⟩, _⟩ := ho
      have hl := (List.getElem?_eq_some_iff.mp h1).1
      rw [List.length_set] at hl
      rw [List.getElem?_set_self hl] at h1
      cases h1
    · exact .inl ((owns_set_ne hji).mp ho)
  | @fresh a x ro no =>
    have e : some (r.set i (.ow x)) = some r' := ht
    cases e
    refine ⟨en.set (fun _ => .ow ro) (fun b d e1 e2 j hj z => ?_), fun j b ho => ?_, rest _, by rw [List.length_set]⟩
    · cases e2
      exact no ⟨j, z⟩
    · by_cases hji : j = i
      · subst hji
        obtain ⟨⟨y, h1⟩, h2⟩ := ho
        have hl := (List.getElem?_eq_some_iff.mp h1).1
        rw [List.length_set] at hl
        rw [List.getElem?_set_self (by rw [en.len]; exact hl)] at h2
        cases h2
        exact .inr ⟨rfl, x, rfl⟩
      · exact .inl ((owns_set_ne hji).mp ho)
  | bor _ _ => cases ht
  | fn _ => cases ht
  | scr _ => cases ht
/-- an owned thing changes -/
theorem Stp.upd (S : Stp P w K σ r r2 H H2) {i : Nat} {a : Addr} {d d' : PyData} {o : HO} (hi : r2[i]? = some (.ow d)) (ha : σ[i]? = some (some (.ref a))) (ro : RepO P w K (L2.upd H2 a o) a d') : Stp P w K σ r (r2.set i (.ow d')) H (L2.upd H2 a o) := by
  obtain ⟨a', ha', ro0, ho⟩ := S.env.owned hi
  rw [ha] at ha'; cases ha'
  have lt : Later H2 (L2.upd H2 a o) := ro0.upd o
  have own : Own σ r a := S.own ⟨i, ho⟩
  have hl := (List.getElem?_eq_some_iff.mp hi).1
  refine ⟨⟨fun b ob e n t => ?_, fun b hb => ?_⟩, S.env.own_set hi ha lt (fun b hb => .inl (upd_ne hb)) (.ow ro), fun j z h => ?_, fun j h => ?_⟩
  · rw [upd_ne (fun z => n (by rw [z]; exact own))]
    exact S.ext.keep b ob e n t
  · by_cases hba : b = a
    · rw [hba, upd_same]; exact fun z => nomatch z
    · rw [upd_ne hba]; exact S.ext.dom b hb
  · by_cases hj : j = i
    · subst hj; exact S.ow _ _ hi
    · rw [List.getElem?_set_ne (Ne.symm hj)] at h; exact S.ow j z h
  · have h' := S.dat j h
    by_cases hj : j = i
    · subst hj; exact .inl ⟨_, List.getElem?_set_self hl⟩
    · unfold hasD at h' ⊢
      rw [List.getElem?_set_ne (Ne.symm hj)]
      exact h'
/-- what is wanted behind a statement -/
def KF (P : Program) (w : World) (K : PySem.W.Frag) (pin : List Nat) (D : Ends) (σ : St) (r : Rh) (H : Hp) (fl : Fl) (r' : Rh) : Prop := match fl with
  | .next => ∀ σ' H', SStp P w K pin σ r H σ' r' H' → D.nx σ' H'
  | .brk => ∀ σ' H', SStp P w K pin σ r H σ' r' H' → D.bk σ' H'
  | .cont => ∀ σ' H', SStp P w K pin σ r H σ' r' H' → D.ct σ' H'
  | .ret v => ∀ σ' H' u, SStp P w K pin σ r H σ' r' H' → ValR P w K H' σ' r' u v → New H u v → D.rt u H'
theorem KF.pre {D : Ends} {fl : Fl} (S : SStp P w K pin σ r H σ1 r1 H1) (k : KF P w K pin D σ r H fl r') : KF P w K pin D σ1 r1 H1 fl r' := by
  cases fl with
  | next => exact fun σ' H' T => k σ' H' (S.trans T)
  | brk => exact fun σ' H' T => k σ' H' (S.trans T)
  | cont => exact fun σ' H' T => k σ' H' (S.trans T)
  | ret v => exact fun σ' H' u T hv hn => k σ' H' u (S.trans T) hv (New.ofS S hn)
def tSt (P : Program) (w : World) (K : PySem.W.Frag) (pin : List Nat) (m : Rh → Out Fl) : TS := fun D σ H => ∃ r, EnvR P w K H σ r ∧ Wp (m r) (KF P w K pin D σ r H)
end

section
variable {X : Cx} {Φ : Str → List FJ.Slot → Res} {N : Nat} {pin : List Nat} {a b c : Expr} {x y z : IE} {pos : Pos}
abbrev GS (X : Cx) (Φ : Str → List FJ.Slot → Res) (N : Nat) (pin : List Nat) (s : Stmt) (i : IS) : Prop := PS X s (tSt X.prog X.w X.K pin (denS Φ N i))
abbrev GSs (X : Cx) (Φ : Str → List FJ.Slot → Res) (N : Nat) (pin : List Nat) (s : List Stmt) (i : ISs) : Prop := PSs X s (tSt X.prog X.w X.K pin (denSs Φ N i))
theorem s_nil : GSs X Φ N pin [] .nil := pss_nil.imp fun D τ G q => by
  obtain ⟨r, en, hw⟩ := q
  rw [denSs] at hw
  exact hw τ G (SStp.refl en)
theorem s_cons {s : Stmt} {ss : List Stmt} {i : IS} {is : ISs} (h : GS X Φ N pin s i) (t : GSs X Φ N pin ss is) : GSs X Φ N pin (s :: ss) (.cons i is) := (pss_cons h t).imp fun D τ G q => by
  obtain ⟨r, en, hw⟩ := q
  rw [denSs] at hw
  refine ⟨r, en, (Wp.bind hw).mono fun fl r1 k => ?_⟩
  cases fl with
  | next => exact fun σ' H' S => ⟨r1, S.env, Wp.mono k fun fl r' k => KF.pre S k⟩
  | brk => exact k
  | cont => exact k
  | ret v => exact k
theorem s_pass : GS X Φ N pin (.Pass pos) .pass := ps_pass.imp fun D τ G q => by
  obtain ⟨r, en, hw⟩ := q
  rw [denS] at hw
  exact hw τ G (SStp.refl en)
theorem s_brk : GS X Φ N pin (.Break pos) .brk := ps_break.imp fun D τ G q => by
  obtain ⟨r, en, hw⟩ := q
  rw [denS] at hw
  exact hw τ G (SStp.refl en)
theorem s_cont : GS X Φ N pin (.Continue pos) .cont := ps_continue.imp fun D τ G q => by
  obtain ⟨r, en, hw⟩ := q
  rw [denS] at hw
  exact hw τ G (SStp.refl en)
theorem s_raise {st : Stmt} {c : Str} : GS X Φ N pin st (.raise c x) := ps_never.imp fun D τ G q => by
  obtain ⟨r, en, hw⟩ := q
  rw [denS] at hw
  exfalso
  have h := Wp.dat hw
  cases hx : den Φ x r with
  | ok v r1 => rw [hx] at h; obtain ⟨d, _, h⟩ := h; exact h
  | exc _ _ => rw [hx] at h; exact h
  | stuck => rw [hx] at h; exact h
theorem s_ret (h : GE X Φ a x) : GS X Φ N pin (.Return (some a) pos) (.ret x) := (ps_ret h).imp fun D τ G q => by
  obtain ⟨r, en, hw⟩ := q
  rw [denS] at hw
  exact ⟨r, en, (Wp.bind hw).mono fun v r1 k u G1 S V Nw => k τ G1 u (S.ss en) V Nw⟩
theorem s_retN : GS X Φ N pin (.Return none pos) .retN := ps_retN.imp fun D τ G q => by
  obtain ⟨r, en, hw⟩ := q
  rw [denS] at hw
  exact hw τ G .non (SStp.refl en) (.d .non) New.d
theorem s_ite {p q : List Stmt} {i j : ISs} (hc : GT X Φ c z) (ha : GSs X Φ N pin p i) (hb : GSs X Φ N pin q j) : GS X Φ N pin (.If c p q pos) (.ite z i j) := (ps_if hc ha hb).imp fun D τ G q => by
  obtain ⟨r, en, hw⟩ := q
  rw [denS] at hw
  refine ⟨r, en, Wp.boos ((Wp.boo hw).mono fun v r1 h => ?_)⟩
  obtain ⟨t, rfl, h⟩ := h
  refine ⟨t, rfl, fun G1 S => ?_⟩
  cases t with
  | true => rw [if_pos rfl] at h ⊢; exact ⟨r1, S.env, Wp.mono h fun fl r' k => KF.pre (S.ss en) k⟩
  | false => rw [if_neg Bool.false_ne_true] at h ⊢; exact ⟨r1, S.env, Wp.mono h fun fl r' k => KF.pre (S.ss en) k⟩
/-- name = e -/
theorem asg_end {D : Ends} {τ : St} {G : Hp} {i : Nat} (hi : i ∉ pin) (q : tSt X.prog X.w X.K pin (denS Φ N (.asg (.nm i) x)) D τ G) : tAsg (tE X.prog X.w X.K (den Φ x)) (gName i) D τ G := by
  obtain ⟨r, en, hw⟩ := q
  rw [denS] at hw
  refine ⟨r, en, (Wp.bind hw).mono fun v r1 h u G1 S V Nw => ?_⟩
  cases ht : tgV (.nm i) v r1 with
  | none => simp only [ht] at h; exact h.elim
  | some r2 =>
    simp only [ht] at h
    obtain ⟨e1, e2, e3, e4⟩ := SStp.set S.env V hi ht
    refine h _ G1 ⟨S.ext, e1, fun j a ho => ?_, fun j hj => ⟨(e3 j hj).1, fun z => (e3 j hj).2 (S.dat j z)⟩, e4.trans (S.ss (pin := []) en).len⟩
    exact (e2 j a ho).imp (fun ⟨⟨d, h1⟩, h2⟩ => ⟨S.ow j d h1, h2⟩) fun ⟨eu, d, ev⟩ => by obtain ⟨a', e1', e2'⟩ := Nw d ev; rw [eu] at e1'; cases e1'; exact e2'
theorem s_set {i : Nat} {n : Str} {p : Pos} (nd : X.N.Nodup) (hN : X.N[i]? = some n) (hx : Loc X.env.scope n) (hf : X.fn n = true ∨ X.env.scope.names.lookup n = some .local) (h : GE X Φ a x) (hs : swapsWith a (some (.Name n p)) pos.line X.env = pure false) (hi : i ∉ pin) :
    GS X Φ N pin (.Assign [.Name n p] a pos) (.asg (.nm i) x) := (ps_set nd hN hx h hs hf).imp fun D τ G q => asg_end hi q
/-- (.., ..) = e -/
theorem s_asg {tg : Expr} {t : ITg} (h : GE X Φ a x) (hg : PG X tg (tG X.prog X.w X.K t)) (ht : isTp t = true) (hp : ∀ i ∈ tgNames t, i ∉ pin) (hs : swapsWithSole [tg] a pos.line X.env = pure false) (hw : swappedStores [tg] a X.env = pure none)
    (h1 : (assignEach [tg] X.env).map (·.2) = [assign tg X.env]) : GS X Φ N pin (.Assign [tg] a pos) (.asg t x) := (ps_asg h hg hs hw h1).imp fun D τ G q => by
  obtain ⟨r, en, hw⟩ := q
  rw [denS] at hw
  refine ⟨r, en, (Wp.bind hw).mono fun v r1 h u G1 S V Nw => ?_⟩
  cases ht' : tgV t v r1 with
  | none => simp only [ht'] at h; exact h.elim
  | some r2 =>
    simp only [ht'] at h
    cases V with
    | @d _ d hy =>
      refine ⟨r1, true, d, S.env, .fz hy, .inl rfl, ?_⟩
      have e : tgD t d r1 = some r2 := by cases t <;> exact ht'
      rw [e]
      exact fun σ' en' tgs => h σ' G1 ((S.ss en).trans (SStp.tg en' tgs hp (tgsOk.tgOkL e)))
    | _ => cases t with
      | nm i => cases ht
      | tp ts => rw [tgV] at ht' <;> simp_all
theorem s_ex (h : GE X Φ a x) (hs : swapsWith a none pos.line X.env = pure false) : GS X Φ N pin (.Expr a pos) (.ex x) := (ps_expr h hs).imp fun D τ G q => by
  obtain ⟨r, en, hw⟩ := q
  rw [denS] at hw
  exact ⟨r, en, (Wp.bind hw).mono fun v r1 k u G1 S V Nw => k τ G1 (S.ss en)⟩
end
end FJ

set_option Elab.async false
set_option linter.all false
set_option autoImplicit false
set_option maxRecDepth 100000
set_option maxHeartbeats 0
/-! Ev5b: loops, stores. -/
namespace FJ
open PySem PySem.Spec L2
open PyProof.Rows hiding St

section
variable {X : Cx} {Φ : Str → List FJ.Slot → Res} {N : Nat} {pin : List Nat} {a b c : Expr} {x y z : IE} {pos : Pos}
/-! ### while -/
theorem s_while {p : List Stmt} {j : ISs} (hp : PassesOwn (model X.prog X.w) X.A X.env X.xe) (hc : GT X Φ c z) (hb : GSs X Φ N pin p j) : GS X Φ N pin (.While c p [] pos) (.while z j) := (ps_while hp hc hb).imp fun D τ G q => by
  obtain ⟨r, en, hw⟩ := q
  rw [denS] at hw
  refine ⟨fun m σc Hc => ∃ rc, SStp X.prog X.w X.K pin τ r G σc rc Hc ∧ Wp (whileR (fun r0 => boo (den Φ z r0) fun t r1 => .ok t r1) (fun r0 => denSs Φ N j r0) m rc) (KF X.prog X.w X.K pin D τ r G), ⟨N, r, SStp.refl en, hw⟩, ?_⟩
  rintro m σc Hc ⟨rc, Sc, hw⟩
  cases m with
  | zero => exact hw.elim
  | succ m =>
    rw [whileR] at hw
    refine ⟨rc, Sc.env, (Wp.bind hw).mono fun t r1 h G1 S => ?_⟩
    have S1 := Sc.trans (S.ss (pin := pin) Sc.env)
    cases t with
    | false =>
      rw [if_neg Bool.false_ne_true] at h
      exact h σc G1 S1
    | true =>
      rw [if_pos rfl] at h
      refine ⟨fun σ2 G2 => ∃ r2, SStp X.prog X.w X.K pin τ r G σ2 r2 G2 ∧ Wp (whileR (fun r0 => boo (den Φ z r0) fun t r1 => .ok t r1) (fun r0 => denSs Φ N j r0) m r2) (KF X.prog X.w X.K pin D τ r G), fun σ' H' hn => ⟨m, Nat.lt_succ_self m, hn⟩, r1, S1.env, (Wp.bind h).mono fun fl r2 h2 => ?_⟩
      cases fl with
      | next => exact fun σ2 G2 T => ⟨r2, S1.trans T, h2⟩
      | cont => exact fun σ2 G2 T => ⟨r2, S1.trans T, h2⟩
      | brk => exact fun σ2 G2 T => h2 σ2 G2 (S1.trans T)
      | ret v => exact fun σ2 G2 u T hv hn => h2 σ2 G2 u (S1.trans T) hv (New.ofS S1 hn)

/-! ### for -/
theorem s_for {tg it : Expr} {p : List Stmt} {t : ITg} {i : II} {j : ISs} (hp : PassesOwn (model X.prog X.w) X.A X.env X.xe) (calm : X.calm = true) (hi : GI X Φ tg it i) (hg : PG X tg (tG X.prog X.w X.K t)) (hb : GSs X Φ N pin p j) (hn : ∀ k ∈ tgNames t, k ∉ pin) (hs : noSet it) :
    GS X Φ N pin (.For tg it p [] pos) (.for t i j) := (ps_for hp calm hi hg hb (hs X.env)).imp fun D τ G q => by
  obtain ⟨r, en, hw⟩ := q
  rw [denS] at hw
  by_cases hk : tgOk t i = false
  · rw [if_pos hk] at hw; exact hw.elim
  · rw [if_neg hk] at hw
    have pk := tgOk_is (by simpa using hk)
    generalize hf : (fun d r2 => match tgD t d r2 with
      | some r3 => denSs Φ N j r3
      | none => .stuck : PyData → Rh → Out Fl) = f at hw
    refine ⟨r, en, (Wp.bind hw).mono fun xs r1 h1 H1 S J W => ?_⟩
    have S1 := S.ss (pin := pin) en
    refine ⟨fun k m σc Hc => m = xs.length - k ∧ k ≤ xs.length ∧ ∃ rc, SStp X.prog X.w X.K pin τ r1 H1 σc rc Hc ∧ Wp (forR f (xs.drop k) rc) (KF X.prog X.w X.K pin D τ r G), ⟨xs.length, rfl, Nat.zero_le _, r1, SStp.refl S.env, by rw [List.drop_zero]; exact h1⟩, ?_⟩
    rintro k m σc Hc ⟨rfl, hkl, rc, Sc, hw⟩
    have lt := Sc.later S.env
    by_cases hlt : k < xs.length
    · refine .inr ⟨W.go k Hc lt hlt, fun σ2 G2 => xs.length - (k + 1) = xs.length - (k + 1) ∧ k + 1 ≤ xs.length ∧ ∃ r2, SStp X.prog X.w X.K pin τ r1 H1 σ2 r2 G2 ∧ Wp (forR f (xs.drop (k + 1)) r2) (KF X.prog X.w X.K pin D τ r G), fun σ' H' z => ⟨xs.length - (k + 1), by omega, z⟩, fun v H' hy => ?_⟩
      obtain ⟨d, hd, g, yv⟩ := W.yld k Hc v H' lt hlt hy
      have dx : xs.drop k = d :: xs.drop (k + 1) := by
        rw [List.drop_eq_getElem_cons hlt]
        rw [List.getElem?_eq_getElem hlt] at hd
        cases hd
        rfl
      rw [dx, forR, ← hf] at hw
      have Sg : SStp X.prog X.w X.K pin τ r1 H1 σc rc H' := Sc.trans ((Stp.grow Sc.env g).ss Sc.env)
      have hw := Wp.bind hw
      cases htd : tgD t d rc with
      | none => simp only [htd] at hw; exact hw.elim
      | some r3 =>
        simp only [htd] at hw
        refine ⟨rc, plI i, d, Sg.env, yv, pk, ?_⟩
        rw [htd]
        intro σ2 en2 tgs
        have S2 : SStp X.prog X.w X.K pin τ r1 H1 σ2 r3 H' := Sg.trans (SStp.tg en2 tgs hn (tgsOk.tgOkL htd))
        refine ⟨r3, en2, hw.mono fun fl r4 h4 => ?_⟩
        rw [hf] at h4
        cases fl with
        | next => exact fun σ3 G3 T => ⟨rfl, hlt, r4, S2.trans T, h4⟩
        | cont => exact fun σ3 G3 T => ⟨rfl, hlt, r4, S2.trans T, h4⟩
        | brk => exact fun σ3 G3 T => h4 σ3 G3 (S1.trans (S2.trans T))
        | ret v => exact fun σ3 G3 u T hv hnw => h4 σ3 G3 u (S1.trans (S2.trans T)) hv (New.ofS (S1.trans S2) hnw)
    · have e : k = xs.length := by omega
      subst e
      rw [List.drop_length, forR] at hw
      exact .inl ⟨W.stop Hc lt, hw σc Hc (S1.trans Sc)⟩

/-! ### a, b = x, y -/
/-- values that are new or frozen -/
inductive ValN (P : Program) (w : World) (K : PySem.W.Frag) (H : Hp) (σ : St) (r : Rh) : V → Val → Prop
  | d {u : V} {x : PyData} : RepF P w K H u x → ValN P w K H σ r u (.d x)
  | fresh {a : Addr} {x : PyData} : RepO P w K H a x → ¬ Own σ r a → ValN P w K H σ r (.ref a) (.fresh x)
theorem ValN.val {P : Program} {w : World} {K : PySem.W.Frag} {H : Hp} {σ : St} {r : Rh} {u : V} {v : Val} (h : ValN P w K H σ r u v) : ValR P w K H σ r u v := by
  cases h with
  | d q => exact .d q
  | fresh ro no => exact .fresh ro no
def setAll : List Nat → List V → St → St
  | i :: is, u :: us, σ => setAll is us (σ.set i (some u))
  | _, _, σ => σ
theorem parR_cons {i : Nat} {is : List Nat} {v : Val} {vs : List Val} {r r' : Rh} (h : denS.parR (i :: is) (v :: vs) r = some r') : ∃ r1, tgV (.nm i) v r = some r1 ∧ denS.parR is vs r1 = some r' := by
  rw [denS.parR] at h
  cases h1 : tgV (.nm i) v r with
  | none => rw [h1] at h; cases h
  | some r1 => rw [h1] at h; exact ⟨r1, rfl, h⟩
theorem par_plain {P : Program} {w : World} {K : PySem.W.Frag} {H : Hp} {σ : St} {r0 : Rh} : ∀ {us : List V} {vs : List Val} {is : List Nat} {r r' : Rh}, Paired (ValR P w K H σ r0) us vs → denS.parR is vs r = some r' → Paired (ValN P w K H σ r0) us vs
  | _, _, _, _, _, .nil, _ => .nil
  | _, _, [], _, _, .cons _ _, h => by simp [denS.parR] at h
  | _, _, i :: is, r, r', .cons hv t, h => by
    obtain ⟨r1, h1, h2⟩ := parR_cons h
    refine .cons ?_ (par_plain t h2)
    cases hv with
    | d q => exact .d q
    | fresh ro no => exact .fresh ro no
    | bor _ _ => cases h1
    | fn _ => cases h1
    | scr _ => cases h1
theorem par_all {P : Program} {w : World} {K : PySem.W.Frag} {H0 H : Hp} : ∀ {is : List Nat} {us : List V} {vs : List Val} {σ : St} {r r' : Rh}, EnvR P w K H σ r → Paired (ValN P w K H σ r) us vs → NewL H0 us vs → (∀ i ∈ is, i ∉ pin) → denS.parR is vs r = some r' →
    EnvR P w K H (setAll is us σ) r' ∧ (∀ (j : Nat) a, Owns (setAll is us σ) r' j a → Owns σ r j a ∨ H0 a = none) ∧ (∀ j ∈ pin, (setAll is us σ)[j]? = σ[j]? ∧ (hasD r j → hasD r' j)) ∧ r'.length = r.length ∧ us.length = is.length
  | [], us, [], σ, r, r', en, pr, _, _, h => by
    cases h
    cases pr
    refine ⟨by unfold setAll; exact en, fun j a ho => .inl (by unfold setAll at ho; exact ho), fun j _ => ⟨by unfold setAll; rfl, id⟩, rfl, rfl⟩
  | [], us, v :: vs, σ, r, r', en, _, _, _, h => by simp [denS.parR] at h
  | i :: is, us, [], σ, r, r', en, _, _, _, h => by simp [denS.parR] at h
  | i :: is, u :: us, v :: vs, σ, r, r', en, pr, nw, hp, h => by
    obtain ⟨r1, h1, h2⟩ := parR_cons h
    cases pr with
    | cons hv pr =>
      obtain ⟨e1, e2, e3, e4⟩ := SStp.set en hv.val (hp i (List.mem_cons_self ..)) h1
      obtain ⟨nw', sep, first⟩ : NewL H0 us vs ∧ (∀ a d, v = .fresh d → u = .ref a → a ∉ fAddr us vs) ∧ ∀ a d, v = .fresh d → u = .ref a → H0 a = none := by
        unfold NewL at nw ⊢
        cases u with
        | ref a =>
          cases v with
          | fresh d =>
            rw [fAddr, List.nodup_cons] at nw
            exact ⟨⟨nw.1.2, fun b hb => nw.2 b (List.mem_cons_of_mem _ hb)⟩, fun a' d' _ e => by cases e; exact nw.1.1, fun a' d' _ e => by cases e; exact nw.2 a (List.mem_cons_self ..)⟩
          | _ => exact ⟨nw, (fun _ _ e => nomatch e), (fun _ _ e => nomatch e)⟩
        | _ => exact ⟨by cases v <;> exact nw, (fun _ _ _ e => nomatch e), (fun _ _ _ e => nomatch e)⟩
      have pr' : Paired (ValN P w K H (σ.set i (some u)) r1) us vs := by
        clear h h2 nw nw' first
        induction pr with
        | nil => exact .nil
        | @cons u2 v2 us2 vs2 h2 t ih =>
          refine .cons ?_ (ih fun a d ev eu hm => sep a d ev eu ?_)
          · cases h2 with
            | d q => exact .d q
            | @fresh a2 d2 ro no =>
              refine .fresh ro fun ⟨j, ho⟩ => ?_
              rcases e2 j a2 ho with z | ⟨eu, d, ev⟩
              · exact no ⟨j, z⟩
              · exact sep a2 d ev eu (fAddr_mem (k := 0) rfl rfl)
          · cases u2 <;> cases v2 <;> simp only [fAddr] <;> first | exact hm | exact List.mem_cons_of_mem _ hm
      obtain ⟨f1, f2, f3, f4, f5⟩ := par_all e1 pr' nw' (fun j hj => hp j (List.mem_cons_of_mem _ hj)) h2
      refine ⟨f1, fun j a ho => ?_, fun j hj => ?_, f4.trans e4, by rw [List.length_cons, List.length_cons, f5]⟩
      · rcases f2 j a ho with z | z
        · exact (e2 j a z).imp id fun ⟨eu, d, ev⟩ => first a d ev eu
        · exact .inr z
      · exact ⟨(f3 j hj).1.trans (e3 j hj).1, fun z => (f3 j hj).2 ((e3 j hj).2 z)⟩
/-- behind the stores side by side -/
theorem par_end {D : Ends} {τ : St} {G : Hp} {is : List Nat} {xs : IL} (hp : ∀ i ∈ is, i ∉ pin) (q : tSt X.prog X.w X.K pin (denS Φ N (.par is xs)) D τ G) : tA X.prog X.w X.K (denV Φ xs) τ G fun us G1 => us.length = is.length ∧ D.nx (setAll is us τ) G1 := by
  obtain ⟨r, en, hw⟩ := q
  rw [denS] at hw
  refine ⟨r, en, (Wp.bind hw).mono fun vs r1 h us G1 S R NL => ?_⟩
  cases ht : denS.parR is vs r1 with
  | none => simp only [ht] at h; exact h.elim
  | some r2 =>
    simp only [ht] at h
    obtain ⟨f1, f2, f3, f4, f5⟩ := par_all (pin := pin) S.env (par_plain R ht) NL hp ht
    exact ⟨f5, h _ G1 ⟨S.ext, f1, fun j a ho => (f2 j a ho).imp (fun ⟨⟨d, h1⟩, h2⟩ => ⟨S.ow j d h1, h2⟩) id, fun j hj => ⟨(f3 j hj).1, fun z => (f3 j hj).2 (S.dat j z)⟩, f4.trans (S.ss (pin := []) en).len⟩⟩
theorem s_par2 {i j : Nat} {n m : Str} {p q p2 : Pos} {k k2 : Nat} {p3 : Pos} {xs : IL} (calm : X.calm = true) (nd : X.N.Nodup) (hi : X.N[i]? = some n) (hj : X.N[j]? = some m) (hij : i ≠ j) (hn : X.env.scope.names.lookup n = some .local) (hm : X.env.scope.names.lookup m = some .local) (ha : GA X Φ [a, b] xs)
    (hw : swappedStores [.Tuple [.Name n p, .Name m q] k p2] (.Tuple [a, b] k2 p3) X.env = pure (some [n, m])) (hs : swapsWithSole [.Tuple [.Name n p, .Name m q] k p2] (.Tuple [a, b] k2 p3) pos.line X.env = pure false) (hp : ∀ l ∈ [i, j], l ∉ pin) :
    GS X Φ N pin (.Assign [.Tuple [.Name n p, .Name m q] k p2] (.Tuple [a, b] k2 p3) pos) (.par [i, j] xs) := (ps_par calm nd hi hj hij hn hm ha hw hs).imp fun D τ G q => by
  obtain ⟨r, en, h⟩ := par_end hp q
  refine ⟨r, en, h.mono fun vs r1 h us G1 S R NL => ?_⟩
  obtain ⟨hl, h⟩ := h us G1 S R NL
  match us, hl with
  | [u, v], _ => exact ⟨u, v, rfl, h⟩
theorem s_par3 {i j l : Nat} {n m o : Str} {p q t p2 : Pos} {k k2 : Nat} {p3 : Pos} {xs : IL} (calm : X.calm = true) (nd : X.N.Nodup) (hi : X.N[i]? = some n) (hj : X.N[j]? = some m) (hl : X.N[l]? = some o) (hij : i ≠ j) (hil : i ≠ l) (hjl : j ≠ l) (hn : X.env.scope.names.lookup n = some .local) (hm : X.env.scope.names.lookup m = some .local) (ho : X.env.scope.names.lookup o = some .local)
    (ha : GA X Φ [a, b, c] xs) (hw : swappedStores [.Tuple [.Name n p, .Name m q, .Name o t] k p2] (.Tuple [a, b, c] k2 p3) X.env = pure (some [n, m, o])) (hs : swapsWithSole [.Tuple [.Name n p, .Name m q, .Name o t] k p2] (.Tuple [a, b, c] k2 p3) pos.line X.env = pure false) (hp : ∀ l' ∈ [i, j, l], l' ∉ pin) :
    GS X Φ N pin (.Assign [.Tuple [.Name n p, .Name m q, .Name o t] k p2] (.Tuple [a, b, c] k2 p3) pos) (.par [i, j, l] xs) := (ps_par3 calm nd hi hj hl hij hil hjl hn hm ho ha hw hs).imp fun D τ G q => by
  obtain ⟨r, en, h⟩ := par_end hp q
  refine ⟨r, en, h.mono fun vs r1 h us G1 S R NL => ?_⟩
  obtain ⟨hl, h⟩ := h us G1 S R NL
  match us, hl with
  | [u, v, w], _ => exact ⟨u, v, w, rfl, h⟩
end
end FJ

set_option Elab.async false
set_option linter.all false
set_option autoImplicit false
set_option maxRecDepth 100000
set_option maxHeartbeats 0
/-! Ev5c: things that change in place. -/
namespace FJ
open PySem PySem.Spec L2
open PyProof.Rows hiding St

theorem RepFs.setAt {P : Program} {w : World} {K : PySem.W.Frag} {H : Hp} {v : V} {d : PyData} (h : RepF P w K H v d) : ∀ {xs : List V} {ds : List PyData} (j : Nat), RepFs P w K H xs ds → RepFs P w K H (xs.set j v) (ds.set j d)
  | _, _, _, .nil => .nil
  | _, _, 0, .cons a t => .cons h t
  | _, _, j + 1, .cons a t => .cons a (RepFs.setAt h j t)
/-- o[k] = x, by values -/
def tPut (P : Program) (w : World) (K : PySem.W.Frag) : TSet := fun o k x H Q => ∃ a, o = .ref a ∧
  ((∃ ps y d, RepF P w K H k y ∧ RepF P w K H x d ∧ RepO P w K H a (.dict ps) ∧ keyFits ps y = true ∧ ps.length < sizeLine ∧ ∀ u, RepO P w K (L2.upd H a u) a (.dict (dput ps y d)) → Q (L2.upd H a u)) ∨
   (∃ ds n j d, k = .int n ∧ L2.ixN ds.length n = some j ∧ RepF P w K H x d ∧ RepO P w K H a (.list ds) ∧ ∀ u, RepO P w K (L2.upd H a u) a (.list (ds.set j d)) → Q (L2.upd H a u)))
section
variable {X : Cx} {Φ : Str → List FJ.Slot → Res} {N : Nat} {pin : List Nat} {a b c : Expr} {x y z : IE} {pos : Pos}
theorem set_put (hu : X.A.units + 200 < cLine) : PSet X (tPut X.prog X.w X.K) := by
  intro ls t τ G o k v o' k' v' Q J ro rk rv h
  obtain ⟨A, rfl, h⟩ := h
  rcases h with ⟨ps, y, d, hk, hd, rO, fit, lz, q⟩ | ⟨ds, n, j, d, rfl, hj, hd, rO, q⟩
  · cases ro
    exact dict_put hu J rO hk rk hd rv fit lz fun s' u J' r' => ⟨_, J', q u r'⟩
  · cases rO with
    | @lst xs _ h r =>
      have lt : Later G (L2.upd G A (.lst (xs.set j v))) := Ownable.upd h (.lst (P := X.prog) (w := X.w) (a := A) xs)
      exact set_list ls t τ G _ _ v o' k' v' Q J ro rk rv ⟨A, xs, n, j, rfl, rfl, h, by rw [r.length]; exact hj, q _ (.lst upd_same (RepFs.setAt (RepF.later lt _ _ hd) j (RepFs.later lt _ _ r)))⟩
/-- an owned slot, lent -/
theorem pk_ow {P : Program} {w : World} {K : PySem.W.Frag} {τ : St} {G : Hp} {r : Rh} {i : Nat} {d : PyData} (en : EnvR P w K G τ r) (hi : r[i]? = some (.ow d)) {Q : VK} (q : ∀ G' A, Stp P w K τ r r G G' → τ[i]? = some (some (.ref A)) → Q (.ref A) G') : tE P w K (den Φ (.pk i)) τ G Q := by
  refine ⟨r, en, ?_⟩
  rw [den, hi]
  intro u G' S V Nw
  obtain ⟨A, ha, _, _⟩ := S.env.owned hi
  cases V with
  | bor hs _ =>
    rw [ha] at hs
    cases hs
    exact q G' A S ha
theorem own_at {P : Program} {w : World} {K : PySem.W.Frag} {τ : St} {G : Hp} {r : Rh} {i : Nat} {A : Addr} {d : PyData} (en : EnvR P w K G τ r) (hi : r[i]? = some (.ow d)) (ha : τ[i]? = some (some (.ref A))) : RepO P w K G A d := by
  obtain ⟨A', ha', ro, _⟩ := en.owned hi
  rw [ha] at ha'
  cases ha'
  exact ro
/-- o[k] = e -/
theorem s_put {o : Expr} {i : Nat} {p : Pos} (hu : X.A.units + 200 < cLine) (ho : GE X Φ o (.pk i)) (hk : GE X Φ b y) (h : GE X Φ a x) (hs : swapsWith a (some (.Subscript o b p)) pos.line X.env = pure false)
    (ha : ∀ v, assign (.Subscript o b p) X.env v = (do
      let ov ← holding [v] (eval o X.env)
      let iv ← holding [v, ov] (eval b X.env)
      standAt p
      holding [v, ov, iv] (setItem ov iv v)
      release [v, ov, iv] [])) : GS X Φ N pin (.Assign [.Subscript o b p] a pos) (.put i y x) := (ps_asg h (pg_sub ho hk (set_put hu) ha) hs rfl rfl).imp fun D τ G q => by
  obtain ⟨r, en, hw⟩ := q
  rw [denS] at hw
  refine ⟨r, en, (Wp.dat hw).mono fun v r1 h1 u G1 S1 V1 N1 => ?_⟩
  obtain ⟨d, rfl, h1⟩ := h1
  split at h1
  · rename_i z hz
    refine pk_ow S1.env hz fun G2 A S2 hA => ⟨r1, S2.env, (Wp.dat h1).mono fun v3 r3 h3 u3 G3 S3 V3 N3 => ?_⟩
    obtain ⟨e, rfl, h3⟩ := h3
    have S := (S1.trans S2).trans S3
    refine ⟨A, rfl, ?_⟩
    have hx : RepF X.prog X.w X.K G3 u d := by
      cases V1 with
      | d hx => exact RepF.later ((S2.trans S3).later S1.env) _ _ hx
    have hk' : RepF X.prog X.w X.K G3 u3 e := by
      cases V3 with
      | d hy => exact hy
    split at h3
    · rename_i kvs hk3
      split at h3
      · rename_i fit
        rw [Bool.and_eq_true, decide_eq_true_eq] at fit
        exact .inl ⟨kvs, e, d, hk', hx, own_at S.env hk3 hA, fit.1, fit.2, fun o' ro' => h3 τ _ ((S.upd hk3 hA ro').ss en)⟩
      · exact h3.elim
    · rename_i ds hk3
      split at h3
      · rename_i n
        split at h3
        · rename_i j hj
          cases hk'
          exact .inr ⟨ds, n, j, d, rfl, hj, hx, own_at S.env hk3 hA, fun o' ro' => h3 τ _ ((S.upd hk3 hA ro').ss en)⟩
        · exact h3.elim
      · exact h3.elim
    · exact h3.elim
  · exact h1.elim
/-- n op= e -/
def ipB : Bop → Int → Int → Int
  | .sub, i, j => i - j
  | _, i, j => i + j
def augOk : Bop → Bool
  | .add => true
  | .sub => true
  | _ => false
theorem ip_is {o : Bop} (h : augOk o = true) : PIp X (opOf o) (ipI (ipB o)) := by
  cases o with
  | add => exact ip_add
  | sub => exact ip_sub
  | _ => cases h
theorem s_aug {i : Nat} {n : Str} {o : Bop} {p : Pos} (nd : X.N.Nodup) (hN : X.N[i]? = some n) (hx : Loc X.env.scope n) (hf : X.fn n = true ∨ X.env.scope.names.lookup n = some .local) (h : GE X Φ a x) (hi : i ∉ pin) : GS X Φ N pin (.AugAssign (.Name n p) (opOf o) a pos) (.aug i o x) := by
  by_cases ok : augOk o = true
  · refine (ps_aug nd hN hx h (ip_is ok) hf).imp fun D τ G q => ?_
    obtain ⟨r, en, hw⟩ := q
    rw [denS] at hw
    split at hw
    · rename_i d hd
      obtain ⟨v, hv, rv⟩ := en.frozen hd
      refine ⟨v, hv, r, en, (Wp.dat hw).mono fun v1 r1 h1 u G1 S1 V1 N1 => ?_⟩
      obtain ⟨e, rfl, h1⟩ := h1
      have key : ∀ m k : Int, d = .int m → e = .int k → KF X.prog X.w X.K pin D τ r G .next (r1.set i (.fz (.int (ipB o m k)))) → ipI (ipB o) v u G1 fun z H2 => D.nx (τ.set i (some z)) H2 := fun m k e1 e2 h => by
        subst e1 e2
        cases rv
        cases V1 with
        | d hy =>
          cases hy
          refine ⟨m, k, rfl, rfl, ?_⟩
          obtain ⟨f1, f2, f3, f4⟩ := SStp.set (u := .int (ipB o m k)) S1.env (.d (.int _)) hi (rfl : tgV (.nm i) (.d (.int (ipB o m k))) r1 = _)
          exact h _ G1 ((S1.ss en).trans ⟨Ext.refl _ _, f1, (fun j a ho => (f2 j a ho).imp id fun ⟨_, _, z⟩ => by cases z), f3, f4⟩)
      cases o with
      | add =>
        cases d <;> cases e <;> first | exact key _ _ rfl rfl h1 | exact h1.elim
      | sub =>
        cases d <;> cases e <;> first | exact key _ _ rfl rfl h1 | exact h1.elim
      | _ => cases ok
    · exact hw.elim
  · refine ps_never.imp fun D τ G q => ?_
    obtain ⟨r, en, hw⟩ := q
    rw [denS] at hw
    exfalso
    split at hw
    · have h1 := Wp.dat hw
      cases hx : den Φ x r with
      | exc _ _ => rw [hx] at h1; exact h1
      | stuck => rw [hx] at h1; exact h1
      | ok v r1 =>
        rw [hx] at h1
        obtain ⟨e, _, h1⟩ := h1
        cases o <;> first | exact ok rfl | exact h1
    · exact hw
/-- o[k], by values -/
def tGetP (P : Program) (w : World) (K : PySem.W.Frag) : V → V → Hp → VK → Prop := fun o k H Q => ∃ ps y d, RepP P w K H o (.dict ps) ∧ RepF P w K H k y ∧ keyFits ps y = true ∧ dfind ps y = some d ∧ ∀ u, RepF P w K H u d → Q u H
theorem get_put (hu : X.A.units + 200 < cLine) : PGet X (tGetP X.prog X.w X.K) := by
  intro ls t τ G o k o' k' Q J ro rk h
  obtain ⟨ps, y, d, hd, hk, fit, hf, q⟩ := h
  exact dict_get hu J (.fz hk) hd rk ro fit hf fun s' u u' J' ru hu' => ⟨u, G, J', ru, q u hu'⟩
theorem s_augp {o : Expr} {i : Nat} {p : Pos} {bo : Bop} (hu : X.A.units + 200 < cLine) (ho : GE X Φ o (.pk i)) (hk : GE X Φ b y) (h : GE X Φ a x) (ha : ∀ ov iv new, augStore b ov iv new = (do holding [new, ov, iv] (setItem ov iv new); release [new, ov, iv] []; pure .next)) :
    GS X Φ N pin (.AugAssign (.Subscript o b p) (opOf bo) a pos) (.augp i y bo x) := by
  by_cases ok : augOk bo = true
  · refine (ps_augS ho hk (get_put hu) h (ip_is ok) (set_put hu) ha).imp fun D τ G q => ?_
    obtain ⟨r, en, hw⟩ := q
    rw [denS] at hw
    split at hw
    · rename_i z hz
      refine pk_ow en hz fun G1 A S1 hA => ⟨r, S1.env, (Wp.dat hw).mono fun v2 r2 h2 u2 G2 S2 V2 N2 => ?_⟩
      obtain ⟨ky, rfl, h2⟩ := h2
      have S12 := S1.trans S2
      have hky : RepF X.prog X.w X.K G2 u2 ky := by
        cases V2 with
        | d hy => exact hy
      split at h2
      · rename_i kvs hkv
        split at h2
        · rename_i fit
          split at h2
          · rename_i old hold
            refine ⟨kvs, ky, old, .ow (own_at S12.env hkv hA), hky, fit, hold, fun uo huo => ⟨r2, S12.env, (Wp.dat h2).mono fun v3 r3 h3 u3 G3 S3 V3 N3 => ?_⟩⟩
            obtain ⟨e, rfl, h3⟩ := h3
            have S := S12.trans S3
            split at h3
            · rename_i kvs' hkv'
              split at h3
              · rename_i fit'
                rw [Bool.and_eq_true, decide_eq_true_eq] at fit'
                have key : ∀ m k : Int, old = .int m → e = .int k → KF X.prog X.w X.K pin D τ r G .next (r3.set i (.ow (.dict (dput kvs' ky (.int (ipB bo m k)))))) → ipI (ipB bo) uo u3 G3 fun z H5 => tPut X.prog X.w X.K (.ref A) u2 z H5 fun H6 => D.nx τ H6 := fun m k e1 e2 h => by
                  subst e1 e2
                  cases huo
                  cases V3 with
                  | d hy =>
                    cases hy
                    exact ⟨m, k, rfl, rfl, A, rfl, .inl ⟨kvs', ky, _, RepF.later (S3.later S12.env) _ _ hky, .int _, own_at S.env hkv' hA, fit'.1, fit'.2, fun o' ro' => h τ _ ((S.upd hkv' hA ro').ss en)⟩⟩
                cases bo with
                | add => cases old <;> cases e <;> first | exact key _ _ rfl rfl h3 | exact h3.elim
                | sub => cases old <;> cases e <;> first | exact key _ _ rfl rfl h3 | exact h3.elim
                | _ => cases ok
              · exact h3.elim
            · exact h3.elim
          · exact h2.elim
        · exact h2.elim
      · exact h2.elim
    · exact hw.elim
  · refine ps_never.imp fun D τ G q => ?_
    obtain ⟨r, en, hw⟩ := q
    rw [denS] at hw
    exfalso
    split at hw
    · have h1 := Wp.dat hw
      cases hy : den Φ y r with
      | exc _ _ => rw [hy] at h1; exact h1
      | stuck => rw [hy] at h1; exact h1
      | ok v r1 =>
        rw [hy] at h1
        obtain ⟨e, _, h1⟩ := h1
        split at h1
        · split at h1
          · split at h1
            · have h2 := Wp.dat h1
              cases hx : den Φ x r1 with
              | exc _ _ => rw [hx] at h2; exact h2
              | stuck => rw [hx] at h2; exact h2
              | ok v r2 =>
                rw [hx] at h2
                obtain ⟨e, _, h2⟩ := h2
                split at h2
                · split at h2
                  · cases bo <;> first | exact ok rfl | exact h2
                  · exact h2
                · exact h2
            · exact h1
          · exact h1
        · exact h1
    · exact hw
/-- o.append(e) -/
theorem s_app {o : Expr} {i : Nat} {p cp : Pos} (ho : GE X Φ o (.pk i)) (h : GE X Φ a x) (ns : noStar a) (h0 : callB o = false) (hl : (p.endLine == cp.line) = true) : GS X Φ N pin (.Expr (.Call (.Attribute o "append" p) [a] [] cp) pos) (.app i x) :=
  (ps_expr (pe_mth F.plainAttrs_list F.slot_list_append F.type_list_append mt_app ho (pa_cons h pa_nil (ns [] X.env)) (attrB h0) (few1 ns) hl (ns [] X.env) rfl) rfl).imp fun D τ G q => by
    obtain ⟨r, en, hw⟩ := q
    rw [denS] at hw
    split at hw
    · rename_i ds hz
      refine pk_ow en hz fun G1 A S1 hA => ⟨⟨_, .ow (own_at S1.env hz hA), by simp [boxT]⟩, r, S1.env, (Wp.dat hw).mono fun v2 r2 h2 u2 G2 S2 V2 N2 => ?_⟩
      obtain ⟨d, rfl, h2⟩ := h2
      have S := S1.trans S2
      cases V2 with
      | d hy =>
        split at h2
        · rename_i es hz2
          split at h2
          · rename_i lz
            exact ⟨A, u2, es, d, rfl, rfl, own_at S.env hz2 hA, hy, lz, fun o' ro' => h2 τ _ ((S.upd hz2 hA ro').ss en)⟩
          · exact h2.elim
        · exact h2.elim
    · exact hw.elim
theorem s_ext {o : Expr} {i : Nat} {p cp : Pos} (ho : GE X Φ o (.pk i)) (h : GE X Φ a x) (ns : noStar a) (h0 : callB o = false) (hl : (p.endLine == cp.line) = true) : GS X Φ N pin (.Expr (.Call (.Attribute o "extend" p) [a] [] cp) pos) (.ext i x) :=
  (ps_expr (pe_mth F.plainAttrs_list F.slot_list_extend F.type_list_extend mt_extF ho (pa_cons h pa_nil (ns [] X.env)) (attrB h0) (few1 ns) hl (ns [] X.env) rfl) rfl).imp fun D τ G q => by
    obtain ⟨r, en, hw⟩ := q
    rw [denS] at hw
    split at hw
    · rename_i ds hz
      refine pk_ow en hz fun G1 A S1 hA => ⟨⟨_, .ow (own_at S1.env hz hA), by simp [boxT]⟩, r, S1.env, (Wp.dat hw).mono fun v2 r2 h2 u2 G2 S2 V2 N2 => ?_⟩
      obtain ⟨d, rfl, h2⟩ := h2
      have S := S1.trans S2
      cases V2 with
      | d hy =>
        split at h2
        · rename_i es fs hz2
          split at h2
          · rename_i lz
            exact ⟨A, u2, es, fs, rfl, rfl, own_at S.env hz2 hA, hy, lz, fun o' ro' => h2 τ _ ((S.upd hz2 hA ro').ss en)⟩
          · exact h2.elim
        · exact h2.elim
    · exact hw.elim
end
end FJ

set_option Elab.async false
set_option linter.all false
set_option autoImplicit false
set_option maxRecDepth 100000
set_option maxHeartbeats 0
/-! Ev6a: the compiled form is right. -/
namespace FJ
open PySem PySem.Spec L2
open PyProof.Rows hiding St

/-- the context is as the compiler takes it -/
structure CtxOk (X : Cx) (c : Ctx) (Φ : Str → List FJ.Slot → Res) (k : Nat) : Prop where
  N : X.N = c.N
  nd : c.N.Nodup
  sc : X.env.scope = c.sc
  calm : X.calm = true
  room : X.A.units + 200 < cLine
  rk : Room k X.A
  G : ∀ x d, c.G.lookup x = some d → ∃ v u, X.mg x = some u ∧ RelV v u ∧ ∀ H, RepF X.prog X.w X.K H v d
  F : ∀ f, c.F.contains f = true → FnR' X Φ k f
  FΦ : ∀ f as s outs, Φ f as = .ok s outs → c.F.contains f = true
  B : ∀ f, c.B.contains f = true → X.mg f = none
  fn : ∀ x, c.fnn x = true → X.fn x = true
/-- forms that the layer takes as they are -/
structure Plain (e : Expr) : Prop where
  st : noStar e
  ix : PlainIx e
  set : noSet e
  mark : ∀ op, behindInMarks op e = false
theorem cE_plain {c : Ctx} {md : Md} {e : Expr} {x : IE} : ∀ {n : Nat}, cE c n md e = some x → Plain e
  | 0, h => by simp [cE] at h
  | n + 1, h => by
    cases e with
    | Starred _ _ => simp [cE] at h
    | Set _ _ _ => simp [cE] at h
    | Slice _ _ _ _ => simp [cE] at h
    | _ => exact ⟨fun _ _ => rfl, fun _ _ => rfl, fun _ _ => rfl, fun _ => rfl⟩
theorem nameOk {c : Ctx} {md : Md} {x : Str} {y : IE} (h : cName c md x = some y) : True := trivial
theorem idx_at : ∀ {l : List Str} {x : Str} {i : Nat}, l.idxOf? x = some i → l[i]? = some x := by
  intro l x i h
  rw [List.idxOf?, List.findIdx?_eq_some_iff_getElem] at h
  obtain ⟨hl, h1, _⟩ := h
  rw [List.getElem?_eq_getElem hl]
  simpa using h1
section
variable {X : Cx} {c : Ctx} {Φ : Str → List FJ.Slot → Res} {k : Nat}
theorem slot_is (C : CtxOk X c Φ k) {x : Str} {i : Nat} (h : slotOf c x = some i) : X.N[i]? = some x ∧ Vis X.env.scope x := by
  unfold slotOf at h
  rw [C.N]
  unfold Vis
  rw [C.sc]
  cases hk : c.sc.names.lookup x with
  | none => simp [hk] at h
  | some kd =>
    rw [hk] at h
    cases kd <;> first | exact ⟨idx_at h, .inl rfl⟩ | exact ⟨idx_at h, .inr (.inl rfl)⟩ | exact ⟨idx_at h, .inr (.inr rfl)⟩ | cases h
theorem glob_is (C : CtxOk X c Φ k) {x : Str} (h : isGlob c x = true) : Gl X x ∧ (x == ("__debug__" : Str)) = false ∧ x ≠ "__name__" := by
  unfold isGlob at h
  rw [Bool.and_eq_true, Bool.and_eq_true, decide_eq_true_eq] at h
  refine ⟨?_, by simpa using h.1.2, by simpa using h.2⟩
  show X.env.scope.names.lookup x = _
  rw [C.sc]
  exact h.1.1
theorem bn_is (C : CtxOk X c Φ k) {x : Str} {u : Value} (h : isB c x = true) (hv : bootBuiltins x = some u) : Bn X x u := by
  unfold isB at h
  rw [Bool.and_eq_true] at h
  obtain ⟨g1, g2, g3⟩ := glob_is C h.1
  exact ⟨g1, C.B x h.2, hv, g3, g2⟩
theorem stor_is (C : CtxOk X c Φ k) {x : Str} (h : stor c x = true) : L2.Loc X.env.scope x ∧ (X.fn x = true ∨ X.env.scope.names.lookup x = some .local) := by
  unfold stor at h
  unfold L2.Loc
  rw [C.sc]
  rw [Bool.or_eq_true, Bool.and_eq_true, decide_eq_true_eq, decide_eq_true_eq] at h
  rcases h with h | ⟨h1, h2⟩
  · exact ⟨.inl h, .inr h⟩
  · exact ⟨.inr h1, .inl (C.fn x h2)⟩
/-- a name's value -/
theorem name_ok (C : CtxOk X c Φ k) {md : Md} {x : Str} {y : IE} {pos : Pos} (h : cName c md x = some y) : GE X Φ (.Name x pos) y := by
  unfold cName at h
  cases hs : slotOf c x with
  | some i =>
    rw [hs] at h
    obtain ⟨hN, hv⟩ := slot_is C hs
    have h : (if (x == ("__debug__" : Str) || x == ("__classdict__" : Str)) = true then none else _) = some y := h
    split at h
    · cases h
    · rename_i hn
      rw [Bool.or_eq_true, not_or] at hn
      have h1 : (x == ("__debug__" : Str)) = false := by simpa using hn.1
      have h2 : (x == ("__classdict__" : Str)) = false := by simpa using hn.2
      cases md with
      | pk => cases h; exact e_pk Φ hN hv h1 h2
      | rt =>
        have h : (if c.np ≤ i then some (IE.pk i) else some (.loc i)) = some y := h
        split at h
        · cases h; exact e_pk Φ hN hv h1 h2
        · cases h; exact e_loc Φ hN hv h1 h2
      | kp => cases h; exact e_loc Φ hN hv h1 h2
      | pl => cases h; exact e_loc Φ hN hv h1 h2
  | none =>
    rw [hs] at h
    have h : (if isGlob c x = true then _ else none) = some y := h
    split at h
    · rename_i hg
      obtain ⟨g1, g2, g3⟩ := glob_is C hg
      cases hG : c.G.lookup x with
      | some d =>
        rw [hG] at h
        cases h
        obtain ⟨v, u, m1, m2, m3⟩ := C.G x d hG
        exact e_known Φ (pe_glob g1 m1 m2 g2) m3
      | none =>
        rw [hG] at h
        have h : (if c.F.contains x = true then some (IE.fnc x) else none) = some y := h
        split at h
        · rename_i hF
          cases h
          exact e_fnc Φ (pe_glob (v := .ref (He.ga X.K x)) g1 (C.F x hF).mg rfl g2)
        · cases h
    · cases h
theorem const_ok {kk : Const} {d : PyData} {j : Nat} {pos : Pos} (h : cConst kk = some d) : GE X Φ (.Constant kk j pos) (.cst d) := by
  cases kk with
  | none => cases h; exact e_known Φ pe_non fun G => .non
  | bool b => cases h; exact e_known Φ pe_bl fun G => .bl b
  | int i => cases h; exact e_known Φ pe_int fun G => .int i
  | str s =>
    have h : (if PyData.strOk s = true then some (PyData.str s) else none) = some d := h
    split at h
    · rename_i hs
      cases h
      exact e_known Φ pe_str fun G => .str s hs
    · cases h
  | _ => cases h
theorem wrap_ok {md : Md} {e : Expr} {x : IE} (h : GE X Φ e x) : GE X Φ e (wrap md x) := by
  cases md with
  | kp => exact e_fz Φ h
  | _ => exact h
theorem bop_is {op : Operator} {o : Bop} (h : bopOf op = some o) : op = opOf o := by
  cases op <;> cases h <;> rfl
theorem cop_is (op : CmpOp) : op = cmpOf (copOf op) := by cases op <;> rfl
theorem own_at' {N : List Str} {sc : Scope} : ∀ p ∈ ownOf N sc, N[p.2]? = some p.1 := by
  rintro p hp
  unfold ownOf at hp
  rw [List.mem_filterMap] at hp
  obtain ⟨y, _, hy⟩ := hp
  split at hy
  · obtain ⟨i, hi, e⟩ := map_some hy
    subst e
    exact idx_at hi
  · cases hy
theorem blk_is {N : List Str} {sc scope : Scope} (h : blkB N sc scope = true) : BlkOk N sc scope (ownOf N scope) := by
  unfold blkB at h
  rw [Bool.and_eq_true, Bool.and_eq_true, Bool.and_eq_true, List.all_eq_true, List.all_eq_true, List.all_eq_true, decide_eq_true_eq] at h
  obtain ⟨⟨⟨h1, h2⟩, h3⟩, h4⟩ := h
  refine ⟨h1, fun y hy => by simpa using h2 y hy, own_at', fun y hy e => ?_, fun y hy e => ?_⟩
  · have := h3 y hy
    simpa [e] using this
  · have := h4 y hy
    rcases e with e | e <;> simp [e] at this <;> simpa using this
theorem blk_ctx (C : CtxOk X c Φ k) (s : Shared) (H : Hp) (scope : Scope) (A : Addr) (cl : List (Str × Addr)) (fp : List Addr) : CtxOk (blkX X s H scope cl A fp) (c.blk scope) Φ k :=
  ⟨C.N, C.nd, by show relabel scope X.env = L2.relS scope c.sc; rw [← C.sc]; rfl, C.calm, C.room, C.rk, C.G, (fun f h => ⟨(C.F f h).ex, (C.F f h).kp, (C.F f h).mg⟩), C.FΦ, C.B, fun x h => h⟩
end
end FJ

set_option Elab.async false
set_option linter.all false
set_option autoImplicit false
set_option maxRecDepth 100000
set_option maxHeartbeats 0
/-! Ev6b: expressions compiled. -/
namespace FJ
open PySem PySem.Spec L2
open PyProof.Rows hiding St

/-! ### targets -/
structure TgSnd (n : Nat) : Prop where
  tg : ∀ {X : Cx} {c : Ctx} {Φ : Str → List FJ.Slot → Res} {k : Nat}, CtxOk X c Φ k → ∀ {e : Expr} {t : ITg}, cTg c n e = some t → PG X e (tG X.prog X.w X.K t) ∧ (∀ i ∈ tgNames t, i ∉ c.pin) ∧ noStarT e ∧ (isTupT e = true → isTp t = true)
  tgs : ∀ {X : Cx} {c : Ctx} {Φ : Str → List FJ.Slot → Res} {k : Nat}, CtxOk X c Φ k → ∀ {es : List Expr} {ts : ITgs}, cTgs c n es = some ts → PGs X es (tGs X.prog X.w X.K ts) ∧ (∀ i ∈ tgsNames ts, i ∉ c.pin) ∧ (∀ e ∈ es, noStarT e) ∧ tsLen ts = es.length
theorem tgSnd : ∀ n, TgSnd n
  | 0 => by
    refine ⟨fun {X c Φ k} C {e t} h => by simp [cTg] at h, fun {X c Φ k} C {es ts} h => ?_⟩
    cases es with
    | nil => simp [cTgs] at h; subst h; exact ⟨g_nil, (fun i h => by simp [tgsNames] at h), (fun e h => by simp at h), rfl⟩
    | cons e es => simp [cTgs] at h
  | n + 1 => by
    have ih := tgSnd n
    refine ⟨fun {X c Φ k} C {e t} h => ?_, fun {X c Φ k} C {es ts} h => ?_⟩
    · cases e with
      | Name x p =>
        simp only [cTg] at h
        cases hs : slotOf c x with
        | none => simp [hs] at h
        | some i =>
          simp only [hs] at h
          split at h
          · rename_i hb
            rw [Bool.and_eq_true] at hb
            cases h
            obtain ⟨hN, hv⟩ := slot_is C hs
            obtain ⟨hl, hf⟩ := stor_is C hb.1
            exact ⟨g_name (by rw [C.N]; exact C.nd) hN hl hf, (fun j hj => by
              simp only [tgNames, List.mem_singleton] at hj
              subst hj
              simpa using hb.2), (fun _ _ => rfl), (fun z => by cases z)⟩
          · cases h
      | Tuple es kk p =>
        simp only [cTg] at h
        cases hs : cTgs c n es with
        | none => simp [hs] at h
        | some ts =>
          simp only [hs] at h
          cases h
          obtain ⟨h1, h2, h3, h4⟩ := ih.tgs C hs
          exact ⟨g_tup C.calm h1 h3 h4, (fun i hi => h2 i (by simpa [tgNames] using hi)), (fun _ _ => rfl), fun _ => rfl⟩
      | _ => simp [cTg] at h
    · cases es with
      | nil => simp [cTgs] at h; subst h; exact ⟨g_nil, (fun i h => by simp [tgsNames] at h), (fun e h => by simp at h), rfl⟩
      | cons e es =>
        simp only [cTgs] at h
        cases h1 : cTg c n e with
        | none => simp [h1] at h
        | some t =>
          cases h2 : cTgs c n es with
          | none => simp [h1, h2] at h
          | some ts =>
            simp only [h1, h2] at h
            cases h
            obtain ⟨a1, a2, a3, a4⟩ := ih.tg C h1
            obtain ⟨b1, b2, b3, b4⟩ := ih.tgs C h2
            refine ⟨g_cons a1 b1 a3, fun i hi => ?_, fun e' he => ?_, by rw [tsLen, b4, List.length_cons]⟩
            · simp only [tgsNames, List.mem_append] at hi
              exact hi.elim (a2 i) (b2 i)
            · rcases List.mem_cons.mp he with z | z
              · subst z; exact a3
              · exact b3 e' z
/-! ### expressions -/
structure Snd (Φ : Str → List FJ.Slot → Res) (k n : Nat) : Prop where
  e : ∀ {X : Cx} {c : Ctx}, CtxOk X c Φ k → ∀ {md : Md} {e : Expr} {x : IE}, cE c n md e = some x → GE X Φ e x
  t : ∀ {X : Cx} {c : Ctx}, CtxOk X c Φ k → ∀ {e : Expr} {x : IE}, cE c n .pk e = some x → GT X Φ e x
  l : ∀ {X : Cx} {c : Ctx}, CtxOk X c Φ k → ∀ {es : List Expr} {x : IL}, cL c n es = some x → GK X Φ es x
  a : ∀ {X : Cx} {c : Ctx}, CtxOk X c Φ k → ∀ {es : List Expr} {x : IL}, cA c n es = some x → GA X Φ es x ∧ ∀ e ∈ es, noStar e
  p : ∀ {X : Cx} {c : Ctx}, CtxOk X c Φ k → ∀ {es : List Expr} {x : IL}, cP c n es = some x → GA X Φ es x ∧ ∀ e ∈ es, noStar e
  d : ∀ {X : Cx} {c : Ctx}, CtxOk X c Φ k → ∀ {ks : List (Option Expr)} {vs : List Expr} {x : IL}, cD c n ks vs = some x → GD X Φ ks vs x
  and : ∀ {X : Cx} {c : Ctx}, CtxOk X c Φ k → ∀ {vs : List Expr} {x : IE} {pos : Pos}, cAnd c n vs = some x → GE X Φ (.BoolOp .And vs pos) x ∧ PW X (.BoolOp .And vs pos) (tB' X Φ x)
  or : ∀ {X : Cx} {c : Ctx}, CtxOk X c Φ k → ∀ {vs : List Expr} {x : IE} {pos : Pos}, cOr c n vs = some x → GE X Φ (.BoolOp .Or vs pos) x ∧ PW X (.BoolOp .Or vs pos) (tB' X Φ x)
  b : ∀ {X : Cx} {c : Ctx}, CtxOk X c Φ k → ∀ {md : Md} {f : Str} {as : List Expr} {x : IE} {p pos : Pos}, cB c n md f as = some x → isB c f = true → GE X Φ (.Call (.Name f p) as [] pos) x
  m : ∀ {X : Cx} {c : Ctx}, CtxOk X c Φ k → ∀ {md : Md} {o : Expr} {m : Str} {as : List Expr} {x : IE} {ap pos : Pos}, cM c n md o m as = some x → callB o = false → (ap.endLine == pos.line) = true → GE X Φ (.Call (.Attribute o m ap) as [] pos) x
  o : ∀ {X : Cx} {c : Ctx}, CtxOk X c Φ k → ∀ {o : Option Expr} {x : IO}, cO c n o = some x → GO X Φ o x
  i : ∀ {X : Cx} {c : Ctx}, CtxOk X c Φ k → ∀ {tg e : Expr} {x : II}, cI c n tg e = some x → GI X Φ tg e x ∧ noSet e
  ts : ∀ {X : Cx} {c : Ctx}, CtxOk X c Φ k → ∀ {es : List Expr} {x : IL}, cT c n es = some x → GTs X Φ es x
section
variable {Φ : Str → List FJ.Slot → Res} {k n : Nat} {X : Cx} {c : Ctx}
theorem st_of {md : Md} {e : Expr} {x : IE} (h : cE c n md e = some x) : noStar e := (cE_plain h).st
theorem snd_l (ih : Snd Φ k n) (C : CtxOk X c Φ k) {es : List Expr} {x : IL} (h : cL c (n + 1) es = some x) : GK X Φ es x := by
  cases es with
  | nil => simp [cL] at h; subst h; exact k_nil
  | cons e es =>
    cases e with
    | Starred e' p =>
      simp only [cL] at h
      cases h1 : cE c n .kp e' with
      | none => simp [h1] at h
      | some y =>
        cases h2 : cL c n es with
        | none => simp [h1, h2] at h
        | some ys =>
          simp only [h1, h2] at h
          cases h
          exact k_star (ih.e C h1) (ih.l C h2)
    | _ =>
      simp only [cL] at h
      split at h
      · rename_i h1 h2
        cases h
        exact k_cons (ih.e C h1) (ih.l C h2) (st_of h1)
      · cases h
theorem snd_a (ih : Snd Φ k n) (C : CtxOk X c Φ k) {es : List Expr} {x : IL} (h : cA c (n + 1) es = some x) : GA X Φ es x ∧ ∀ e ∈ es, noStar e := by
  cases es with
  | nil => simp [cA] at h; subst h; exact ⟨a_nil, fun e h => by simp at h⟩
  | cons e es =>
    cases e with
    | Starred e' p => simp [cA] at h
    | _ =>
      simp only [cA] at h
      split at h
      · rename_i h1 h2
        cases h
        obtain ⟨t1, t2⟩ := ih.a C h2
        exact ⟨a_cons (ih.e C h1) t1 (st_of h1), fun e' he => (List.mem_cons.mp he).elim (fun z => by subst z; exact st_of h1) (t2 e')⟩
      · cases h
theorem snd_p (ih : Snd Φ k n) (C : CtxOk X c Φ k) {es : List Expr} {x : IL} (h : cP c (n + 1) es = some x) : GA X Φ es x ∧ ∀ e ∈ es, noStar e := by
  cases es with
  | nil => simp [cP] at h; subst h; exact ⟨a_nil, fun e h => by simp at h⟩
  | cons e es =>
    cases e with
    | Starred e' p => simp [cP] at h
    | _ =>
      simp only [cP] at h
      split at h
      · rename_i h1 h2
        cases h
        obtain ⟨t1, t2⟩ := ih.p C h2
        exact ⟨a_cons (ih.e C h1) t1 (st_of h1), fun e' he => (List.mem_cons.mp he).elim (fun z => by subst z; exact st_of h1) (t2 e')⟩
      · cases h
theorem snd_d (ih : Snd Φ k n) (C : CtxOk X c Φ k) {ks : List (Option Expr)} {vs : List Expr} {x : IL} (h : cD c (n + 1) ks vs = some x) : GD X Φ ks vs x := by
  cases ks with
  | nil =>
    cases vs with
    | nil => simp [cD] at h; subst h; exact .nil
    | cons _ _ => simp [cD] at h
  | cons ko ks =>
    cases ko with
    | none => simp [cD] at h
    | some ke =>
      cases vs with
      | nil => simp [cD] at h
      | cons v vs =>
        simp only [cD] at h
        split at h
        · rename_i h1 h2 h3
          cases h
          exact .cons (ih.e C h1) (ih.e C h2) (ih.d C h3)
        · cases h
theorem snd_and (ih : Snd Φ k n) (C : CtxOk X c Φ k) {vs : List Expr} {x : IE} {pos : Pos} (h : cAnd c (n + 1) vs = some x) : GE X Φ (.BoolOp .And vs pos) x ∧ PW X (.BoolOp .And vs pos) (tB' X Φ x) := by
  match vs, h with
  | [], h => simp [cAnd] at h
  | [a], h =>
    simp only [cAnd] at h
    exact ⟨pe_one (ih.e C h), pw_and1 (ih.t C h)⟩
  | a :: b :: r, h =>
    simp only [cAnd] at h
    split at h
    · rename_i h1 h2
      cases h
      obtain ⟨t1, t2⟩ := ih.and (pos := pos) C h2
      exact ⟨e_and (ih.e C h1) t1, w_and (ih.t C h1) t2⟩
    · cases h
theorem snd_or (ih : Snd Φ k n) (C : CtxOk X c Φ k) {vs : List Expr} {x : IE} {pos : Pos} (h : cOr c (n + 1) vs = some x) : GE X Φ (.BoolOp .Or vs pos) x ∧ PW X (.BoolOp .Or vs pos) (tB' X Φ x) := by
  match vs, h with
  | [], h => simp [cOr] at h
  | [a], h =>
    simp only [cOr] at h
    exact ⟨pe_one (ih.e C h), pw_or1 (ih.t C h)⟩
  | a :: b :: r, h =>
    simp only [cOr] at h
    split at h
    · rename_i h1 h2
      cases h
      obtain ⟨t1, t2⟩ := ih.or (pos := pos) C h2
      exact ⟨e_or (ih.e C h1) t1, w_or (ih.t C h1) t2⟩
    · cases h
theorem snd_o (ih : Snd Φ k n) (C : CtxOk X c Φ k) {o : Option Expr} {x : IO} (h : cO c (n + 1) o = some x) : GO X Φ o x := by
  cases o with
  | none => simp [cO] at h; subst h; exact o_none
  | some e =>
    simp only [cO] at h
    obtain ⟨y, hy, rfl⟩ := map_some h
    exact o_some (ih.e C hy)
theorem snd_ts (ih : Snd Φ k n) (C : CtxOk X c Φ k) {es : List Expr} {x : IL} (h : cT c (n + 1) es = some x) : GTs X Φ es x := by
  match es, h with
  | [], h => simp [cT] at h; subst h; exact ts_nil
  | [e], h =>
    simp only [cT] at h
    obtain ⟨y, hy, rfl⟩ := map_some h
    exact ts_one (ih.t C hy)
  | _ :: _ :: _, h => simp [cT] at h
/-- a form that computes nothing -/
theorem e_never {e : Expr} {x : IE} (h : ∀ (C : Val → Rh → Prop) r, ¬ Wp (den Φ x r) C) : GE X Φ e x := ⟨fun ps s τ G Q J q => by
  obtain ⟨r, en, hw⟩ := q
  exact (h _ r hw).elim⟩
theorem nm_b1 {f : Str} {o : B1} (h : b1Of f = some o) : f = nmB1 o ∧ bootBuiltins (nmB1 o) = some (fnB1 o) := by
  unfold b1Of at h
  repeat' split at h
  all_goals first | (cases h; done) | skip
  all_goals (cases h; subst_vars; exact ⟨rfl, by decide +kernel⟩)
theorem nm_b2 {f : Str} {o : B2} (h : b2Of f = some o) : f = nmB2 o ∧ bootBuiltins (nmB2 o) = some (fnB2 o) := by
  unfold b2Of at h
  repeat' split at h
  all_goals first | (cases h; done) | skip
  all_goals (cases h; subst_vars; exact ⟨rfl, by decide +kernel⟩)
theorem nm_ty {f : Str} {o : Ty} (h : tyOf f = some o) : f = nmTy o ∧ bootBuiltins (nmTy o) = some (.type (tyS o)) := by
  unfold tyOf at h
  repeat' split at h
  all_goals first | (cases h; done) | skip
  all_goals (cases h; subst_vars; exact ⟨rfl, by decide +kernel⟩)
end
end FJ

set_option Elab.async false
set_option linter.all false
set_option autoImplicit false
set_option maxRecDepth 100000
set_option maxHeartbeats 0
/-! Ev6c: calls, iterables. -/
namespace FJ
open PySem PySem.Spec L2
open PyProof.Rows hiding St
section
variable {Φ : Str → List FJ.Slot → Res} {k n : Nat} {X : Cx} {c : Ctx}
theorem never_bind {α β : Type} {o : Out α} {f : α → Rh → Out β} {C : β → Rh → Prop} (h : ∀ a r, ¬ Wp (f a r) C) : ¬ Wp (o.bind f) C := by
  cases o with
  | ok a r => exact h a r
  | exc _ _ => exact id
  | stuck => exact id
theorem never_sset {y : IE} (C : Val → Rh → Prop) (r : Rh) : ¬ Wp (den Φ (.b1 .sset y) r) C := by
  rw [den]
  refine never_bind fun v r1 => ?_
  cases v with
  | scr ns => exact fun h => h
  | bor i =>
    intro h
    cases hd : (Val.bor i).peek r1 with
    | none => simp only [hd] at h; exact h
    | some d => simp only [hd] at h; cases d <;> exact h
  | d x => cases x <;> exact fun h => h
  | fresh x => cases x <;> exact fun h => h
  | fn x => exact fun h => h
theorem snd_b (ih : Snd Φ k n) (C : CtxOk X c Φ k) {md : Md} {f : Str} {as : List Expr} {x : IE} {p pos : Pos} (h : cB c (n + 1) md f as = some x) (hb : isB c f = true) : GE X Φ (.Call (.Name f p) as [] pos) x := by
  match as, h with
  | [], h => simp [cB] at h
  | [a], h =>
    simp only [cB] at h
    have plain : ∀ {o : B1} {y : IE}, f = nmB1 o ∧ bootBuiltins (nmB1 o) = some (fnB1 o) → cE c n .pk a = some y → GE X Φ (.Call (.Name f p) [a] [] pos) (.b1 o y) := fun {o y} hn ha => by
      obtain ⟨rfl, hv⟩ := hn
      exact e_b1 C.calm C.room (bn_is C hb hv) (ih.e C ha) (st_of ha)
    have srt : ∀ {y : IE}, f = "sorted" → cE c n .pk a = some y → GE X Φ (.Call (.Name f p) [a] [] pos) (wrap md (.b1 .sorted y)) := fun {y} hn ha => wrap_ok (plain ⟨hn, by decide +kernel⟩ ha)
    split at h
    · rename_i hf
      split at h
      · split at h
        · split at h
          · obtain ⟨y, hy, rfl⟩ := map_some h
            exact wrap_ok (e_never never_sset)
          · cases h
        · obtain ⟨y, hy, rfl⟩ := map_some h
          exact srt hf hy
      · obtain ⟨y, hy, rfl⟩ := map_some h
        exact srt hf hy
    · split at h
      · rename_i o y h1 h2
        cases h
        split
        · exact wrap_ok (plain (nm_b1 h1) h2)
        · exact plain (nm_b1 h1) h2
      · cases h
  | [a, b], h =>
    simp only [cB] at h
    split at h
    · rename_i hf
      subst hf
      cases b with
      | Name t p2 =>
        simp only at h
        split at h
        · rename_i ty y h1 h2
          split at h
          · rename_i ht
            cases h
            obtain ⟨rfl, hv⟩ := nm_ty h1
            exact e_isi (bn_is C hb (by decide +kernel)) (bn_is C ht hv) (ih.e C h2) (st_of h2)
          · cases h
        · cases h
      | _ => cases h
    · split at h
      · rename_i h1 h2 h3
        cases h
        obtain ⟨rfl, hv⟩ := nm_b2 h1
        exact e_b2 C.calm (bn_is C hb hv) (ih.e C h2) (ih.e C h3) (st_of h2) (st_of h3)
      · cases h
  | _ :: _ :: _ :: _, h => simp [cB] at h
theorem not_dbg {c : Ctx} {x : Str} {i : Nat} (h : slotOf c x = some i) : True := trivial
theorem snd_m (ih : Snd Φ k n) (C : CtxOk X c Φ k) {md : Md} {o : Expr} {m : Str} {as : List Expr} {x : IE} {ap pos : Pos} (h : cM c (n + 1) md o m as = some x) (h0 : callB o = false) (hl : (ap.endLine == pos.line) = true) : GE X Φ (.Call (.Attribute o m ap) as [] pos) x := by
  have nv1 : ∀ {i : Nat} {y : IE} (C : Val → Rh → Prop) r, ¬ Wp (den Φ (.popd i y) r) C := fun C r h => by rw [den] at h; exact h
  have nv2 : ∀ {i : Nat} {y z : IE} (C : Val → Rh → Prop) r, ¬ Wp (den Φ (.popx i y z) r) C := fun C r h => by rw [den] at h; exact h
  rcases as with _ | ⟨a, _ | ⟨b, _ | ⟨_, _⟩⟩⟩
  · simp only [cM] at h
    split at h
    · rename_i hm
      subst hm
      split at h
      · split at h
        · cases h
        · rename_i hn
          rw [Bool.or_eq_true, not_or] at hn
          obtain ⟨i, hi, rfl⟩ := map_some h
          obtain ⟨hN, hv⟩ := slot_is C hi
          exact e_popl hN hv (by simpa using hn.1) (by simpa using hn.2) hl
      · cases h
    · cases h
  · simp only [cM] at h
    split at h
    · split at h
      · split at h
        · cases h; exact e_never nv1
        · cases h
      · cases h
    · split at h
      · rename_i hm
        subst hm
        split at h
        · rename_i h1 h2
          cases h
          exact e_index C.room (ih.e C h1) (ih.e C h2) (st_of h2) h0 hl
        · cases h
      · cases h
  · simp only [cM] at h
    split at h
    · rename_i hm
      subst hm
      split at h
      · rename_i h1 h2 h3
        cases h
        exact e_get C.room (ih.e C h1) (ih.e C h2) (ih.e C h3) (st_of h2) (st_of h3) h0 hl
      · cases h
    · split at h
      · split at h
        · split at h
          · cases h; exact e_never nv2
          · cases h
        · cases h
      · cases h
  · simp [cM] at h
theorem snd_i (ih : Snd Φ k n) (C : CtxOk X c Φ k) {tg e : Expr} {x : II} (h : cI c (n + 1) tg e = some x) : GI X Φ tg e x ∧ noSet e := by
  have val : ∀ {e : Expr} {x : II}, (cE c n .kp e).map II.val = some x → GI X Φ tg e x ∧ noSet e := fun {e x} h => by
    obtain ⟨y, hy, rfl⟩ := map_some h
    exact ⟨i_val (ih.e C hy), (cE_plain hy).set⟩
  have gb : ∀ {f : Str}, isB c f = true → Gl X f ∧ X.mg f = none := fun {f} hf => by
    unfold isB at hf
    rw [Bool.and_eq_true] at hf
    exact ⟨(glob_is C hf.1).1, C.B f hf.2⟩
  unfold cI at h
  split at h
  · rename_i f p a cp
    split at h
    · rename_i hf
      obtain ⟨rfl, hb⟩ := hf
      obtain ⟨y, hy, rfl⟩ := map_some h
      exact ⟨i_rng (gb hb).1 (gb hb).2 (ih.e C hy) (st_of hy), fun _ _ => rfl⟩
    · split at h
      · rename_i hf
        obtain ⟨rfl, hb⟩ := hf
        split at h
        · rename_i ht
          obtain ⟨y, hy, rfl⟩ := map_some h
          cases tg with
          | Tuple es kk tp => exact ⟨i_enum (gb hb).1 (gb hb).2 (ih.e C hy) (st_of hy), fun _ _ => rfl⟩
          | _ => cases ht
        · cases h
      · exact val h
  · rename_i f p a b cp
    split at h
    · rename_i hf
      obtain ⟨rfl, hb⟩ := hf
      split at h
      · rename_i ht
        split at h
        · rename_i h1 h2
          cases h
          cases tg with
          | Tuple es kk tp => exact ⟨i_zip (gb hb).1 (gb hb).2 (ih.e C h1) (ih.e C h2) (st_of h1) (st_of h2), fun _ _ => rfl⟩
          | _ => cases ht
        · cases h
      · cases h
    · exact val h
  · rename_i o m ap cp
    split at h
    · rename_i hm
      subst hm
      split at h
      · rename_i ht
        rw [Bool.and_eq_true, Bool.and_eq_true] at ht
        obtain ⟨y, hy, rfl⟩ := map_some h
        cases tg with
        | Tuple es kk tp => exact ⟨i_items (ih.e C hy) (by simpa using ht.2) ht.1.2, fun _ _ => rfl⟩
        | _ => cases ht.1.1
      · cases h
    · exact val h
  · exact val h
end
end FJ

set_option Elab.async false
set_option linter.all false
set_option autoImplicit false
set_option maxRecDepth 100000
set_option maxHeartbeats 0
/-! Ev6d: expressions compiled: the whole. -/
namespace FJ
open PySem PySem.Spec L2
open PyProof.Rows hiding St
section
variable {Φ : Str → List FJ.Slot → Res} {k n : Nat} {X : Cx} {c : Ctx}
/-- the clauses of a comprehension -/
inductive GG (X : Cx) (Φ : Str → List FJ.Slot → Res) (scope : Scope) : List Comprehension → IG → Prop
  | one {tg it : Expr} {ifs : List Expr} {t : ITg} {i : II} {fs : IL} : GI X Φ tg it i → noSet it → BlkParts X Φ scope tg ifs t fs → GG X Φ scope [⟨tg, it, ifs, 0⟩] (.one t i fs)
  | two {tg it tg1 it1 : Expr} {ifs ifs1 : List Expr} {t t1 : ITg} {i i1 : II} {fs fs1 : IL} : GI X Φ tg it i → noSet it → BlkParts X Φ scope tg ifs t fs → BlkParts2 X Φ scope tg1 it1 ifs1 t1 i1 fs1 → noSet it1 → GG X Φ scope [⟨tg, it, ifs, 0⟩, ⟨tg1, it1, ifs1, 0⟩] (.two t i fs t1 i1 fs1)
theorem snd_g (ih : Snd Φ k n) (C : CtxOk X c Φ k) {scope : Scope} {gs : List Comprehension} {g : IG} (h : cG c (c.blk scope) (n + 1) gs = some g) : GG X Φ scope gs g := by
  have B := fun s H A cl fp => blk_ctx C s H scope A cl fp
  have parts : ∀ {tg : Expr} {ifs : List Expr} {t : ITg} {fs : IL}, cTg (c.blk scope) n tg = some t → cT (c.blk scope) n ifs = some fs → BlkParts X Φ scope tg ifs t fs := fun {tg ifs t fs} h1 h2 =>
    ⟨fun s H A cl fp => ((tgSnd n).tg (B s H A cl fp) h1).1, fun s H A cl fp => ih.ts (B s H A cl fp) h2⟩
  unfold cG at h
  split at h
  · split at h
    · rename_i h1 h2 h3
      cases h
      obtain ⟨g1, g2⟩ := ih.i C h2
      exact .one g1 g2 (parts h1 h3)
    · cases h
  · split at h
    · rename_i h1 h2 h3 h4 h5 h6
      cases h
      obtain ⟨g1, g2⟩ := ih.i C h2
      -- one block to see that the second is no set
      have ns := fun (s : Shared) (H : Hp) (A : Addr) (cl : List (Str × Addr)) (fp : List Addr) => ih.i (B s H A cl fp) h5
      exact .two g1 g2 (parts h1 h3) ⟨parts h4 h6, fun s H A cl fp => (ns s H A cl fp).1⟩ (ns X.s_0 X.H_0 0 [] []).2
    · cases h
  · cases h
theorem snd_e (ih : Snd Φ k n) (ihg : ∀ {X : Cx} {c : Ctx}, CtxOk X c Φ k → ∀ {scope : Scope} {gs : List Comprehension} {g : IG}, cG c (c.blk scope) n gs = some g → GG X Φ scope gs g) (C : CtxOk X c Φ k) {md : Md} {e : Expr} {x : IE} (h : cE c (n + 1) md e = some x) : GE X Φ e x := by
  cases e with
  | Constant kk j p =>
    simp only [cE] at h
    obtain ⟨d, hd, rfl⟩ := map_some h
    exact const_ok hd
  | Name f p => simp only [cE] at h; exact name_ok C h
  | Tuple es kk p =>
    simp only [cE] at h
    obtain ⟨xs, hx, rfl⟩ := map_some h
    exact e_tup (ih.l C hx)
  | List es p =>
    simp only [cE] at h
    obtain ⟨xs, hx, rfl⟩ := map_some h
    exact wrap_ok (e_lst (ih.l C hx))
  | Dict ks vs p =>
    simp only [cE] at h
    split at h
    · rename_i hl
      obtain ⟨xs, hx, rfl⟩ := map_some h
      exact wrap_ok (e_dsp (ih.d C hx) hl)
    · cases h
  | BinOp a op b p =>
    simp only [cE] at h
    split at h
    · rename_i bo _ _ h1 h2 h3
      have e := bop_is h1
      subst e
      have g := e_bin Φ (o := bo) (pos := p) (ih.e C h2) (ih.e C h3)
      cases h
      split
      · exact wrap_ok g
      · exact g
    · cases h
  | UnaryOp op a p =>
    cases op with
    | USub =>
      simp only [cE] at h
      obtain ⟨y, hy, rfl⟩ := map_some h
      exact e_neg Φ (ih.e C hy)
    | Not =>
      simp only [cE] at h
      obtain ⟨y, hy, rfl⟩ := map_some h
      exact e_not (ih.e C hy)
    | _ => simp [cE] at h
  | Compare a ops bs p =>
    rcases ops with _ | ⟨op, _ | ⟨op', _ | _⟩⟩
    · simp [cE] at h
    · rcases bs with _ | ⟨b, _ | _⟩
      · simp [cE] at h
      · simp only [cE] at h
        split at h
        · rename_i h1 h2
          split at h
          · cases h
          · rename_i hm
            cases h
            have hm' : behindInMarks (cmpOf (copOf op)) b = false := by rw [← cop_is]; simpa using hm
            have g := e_cmp Φ (o := copOf op) (pos := p) C.room (ih.e C h1) (ih.e C h2) hm'
            rw [← cop_is] at g
            exact g
        · cases h
      · simp [cE] at h
    · rcases bs with _ | ⟨b, _ | ⟨d, _ | _⟩⟩
      · simp [cE] at h
      · simp [cE] at h
      · simp only [cE] at h
        split at h
        · rename_i h1 h2 h3
          split at h
          · cases h
          · rename_i hm
            cases h
            have hm' : lastMarks [cmpOf (copOf op), cmpOf (copOf op')] [b, d] = false := by rw [← cop_is, ← cop_is]; simpa using hm
            have g := e_chn (o := copOf op) (o' := copOf op') (pos := p) C.room (ih.e C h1) (ih.e C h2) (ih.e C h3) hm'
            rw [← cop_is, ← cop_is] at g
            exact g
        · cases h
      · simp [cE] at h
    · simp [cE] at h
  | BoolOp op vs p =>
    cases op with
    | And => simp only [cE] at h; exact (ih.and C h).1
    | Or => simp only [cE] at h; exact (ih.or C h).1
  | IfExp t a b p =>
    simp only [cE] at h
    split at h
    · rename_i h1 h2 h3
      cases h
      exact e_ife (ih.t C h1) (ih.e C h2) (ih.e C h3)
    · cases h
  | Call f as ks p =>
    rcases ks with _ | ⟨_, _⟩
    · cases f with
      | Name f fp =>
        simp only [cE] at h
        split at h
        · rename_i i hi
          split at h
          · cases h
          · rename_i hn
            rw [Bool.or_eq_true, Bool.or_eq_true, not_or, not_or] at hn
            obtain ⟨xs, hx, rfl⟩ := map_some h
            obtain ⟨hN, hv⟩ := slot_is C hi
            obtain ⟨a1, a2⟩ := ih.a C hx
            cases as with
            | nil => exact absurd rfl hn.1.1
            | cons a as => exact wrap_ok (e_callv (fun f as s outs hk => C.F f (C.FΦ f as s outs hk)) C.rk hN hv (by simpa using hn.1.2) (by simpa using hn.2) a1 a2)
        · split at h
          · rename_i hg
            rw [Bool.and_eq_true] at hg
            obtain ⟨xs, hx, rfl⟩ := map_some h
            obtain ⟨g1, g2, g3⟩ := glob_is C hg.1
            obtain ⟨a1, a2⟩ := ih.a C hx
            cases as with
            | nil =>
              have : xs = .nil := by
                cases n <;> simp [cA] at hx <;> exact hx.symm
              subst this
              exact wrap_ok (e_call0 (C.F f hg.2) C.rk g1 g2)
            | cons a as => exact wrap_ok (e_call (C.F f hg.2) C.rk g1 g2 a1 a2)
          · split at h
            · rename_i hb
              exact ih.b C h hb
            · cases h
      | Attribute o m ap =>
        simp only [cE] at h
        split at h
        · rename_i hl
          rw [Bool.and_eq_true] at hl
          exact ih.m C h (by simpa using hl.2) hl.1
        · cases h
      | _ => simp [cE] at h
    · cases f <;> simp [cE] at h
  | Subscript a i p =>
    cases i with
    | Slice lo hi st sp =>
      cases st with
      | none =>
        simp only [cE] at h
        split at h
        · rename_i h1 h2 h3
          cases h
          exact wrap_ok (e_slc (ih.e C h1) (ih.o C h2) (ih.o C h3))
        · cases h
      | some _ => simp [cE] at h
    | _ =>
      simp only [cE] at h
      split at h
      · rename_i h1 h2
        cases h
        exact e_item C.room (ih.e C h1) (ih.e C h2) (cE_plain h2).ix
      · cases h
  | ListComp elt gs scope p =>
    simp only [cE] at h
    split at h
    · rename_i hb
      split at h
      · rename_i h1 h2
        cases h
        have ok : BlkOk X.N X.env.scope scope (ownOf c.N scope) := by rw [C.N, C.sc]; exact blk_is hb
        have he := fun (s : Shared) (H : Hp) (A : Addr) (cl : List (Str × Addr)) (fp : List Addr) => ih.e (blk_ctx C s H scope A cl fp) h1
        cases ihg C h2 with
        | one g1 g2 g3 => exact wrap_ok (e_lc C.calm (by rw [C.N]; exact C.nd) g1 ok g3 he g2)
        | two g1 g2 g3 g4 g5 => exact wrap_ok (e_lc2 C.calm (by rw [C.N]; exact C.nd) g1 ok g3 g4 he g2 g5)
      · cases h
    · cases h
  | DictComp ke ve gs scope p =>
    simp only [cE] at h
    split at h
    · rename_i hb
      split at h
      · rename_i h1 h2 h3
        cases h
        have ok : BlkOk X.N X.env.scope scope (ownOf c.N scope) := by rw [C.N, C.sc]; exact blk_is hb
        have hk := fun (s : Shared) (H : Hp) (A : Addr) (cl : List (Str × Addr)) (fp : List Addr) => ih.e (blk_ctx C s H scope A cl fp) h1
        have hv := fun (s : Shared) (H : Hp) (A : Addr) (cl : List (Str × Addr)) (fp : List Addr) => ih.e (blk_ctx C s H scope A cl fp) h2
        cases ihg C h3 with
        | one g1 g2 g3 => exact wrap_ok (e_dc C.room C.calm (by rw [C.N]; exact C.nd) g1 ok g3 hk hv g2)
        | two g1 g2 g3 g4 g5 => exact wrap_ok (e_never fun D r hw => by rw [den] at hw; exact hw)
      · cases h
    · cases h
  | _ => simp [cE] at h
theorem snd_t (ih : Snd Φ k n) (he : ∀ {e : Expr} {x : IE}, cE c (n + 1) .pk e = some x → GE X Φ e x) (C : CtxOk X c Φ k) {e : Expr} {x : IE} (h : cE c (n + 1) .pk e = some x) : GT X Φ e x := by
  cases e with
  | UnaryOp op a p =>
    cases op with
    | Not =>
      simp only [cE] at h
      obtain ⟨y, hy, rfl⟩ := map_some h
      exact t_not (ih.t C hy)
    | _ => exact t_val (he h) fun _ => rfl
  | BoolOp op vs p =>
    cases op with
    | And => simp only [cE] at h; exact (ih.and C h).2.pt
    | Or => simp only [cE] at h; exact (ih.or C h).2.pt
  | IfExp t a b p =>
    simp only [cE] at h
    split at h
    · rename_i h1 h2 h3
      cases h
      exact t_ife (ih.t C h1) (ih.t C h2) (ih.t C h3)
    · cases h
  | Compare a ops bs p =>
    rcases ops with _ | ⟨op, _ | ⟨op', _ | _⟩⟩
    · simp [cE] at h
    · rcases bs with _ | ⟨b, _ | _⟩
      · simp [cE] at h
      · simp only [cE] at h
        split at h
        · rename_i h1 h2
          split at h
          · cases h
          · rename_i hm
            cases h
            have hm' : behindInMarks (cmpOf (copOf op)) b = false := by rw [← cop_is]; simpa using hm
            have g := t_cmp Φ (o := copOf op) (pos := p) C.room (ih.e C h1) (ih.e C h2) hm'
            rw [← cop_is] at g
            exact g
        · cases h
      · simp [cE] at h
    · rcases bs with _ | ⟨b, _ | ⟨d, _ | _⟩⟩
      · simp [cE] at h
      · simp [cE] at h
      · simp only [cE] at h
        split at h
        · rename_i h1 h2 h3
          split at h
          · cases h
          · rename_i hm
            cases h
            have hm' : lastMarks [cmpOf (copOf op), cmpOf (copOf op')] [b, d] = false := by rw [← cop_is, ← cop_is]; simpa using hm
            have g := t_chn (o := copOf op) (o' := copOf op') (pos := p) C.room (ih.e C h1) (ih.e C h2) (ih.e C h3) hm'
            rw [← cop_is, ← cop_is] at g
            exact g
        · cases h
      · simp [cE] at h
    · simp [cE] at h
  | _ => exact t_val (he h) fun _ => rfl
theorem snd0 : Snd Φ k 0 := by
  refine ⟨?_, ?_, ?_, ?_, ?_, ?_, ?_, ?_, ?_, ?_, ?_, ?_, ?_⟩
  · intro X c C md e x h; simp [cE] at h
  · intro X c C e x h; simp [cE] at h
  · intro X c C es x h
    cases es with
    | nil => simp [cL] at h; subst h; exact k_nil
    | cons _ _ => simp [cL] at h
  · intro X c C es x h
    cases es with
    | nil => simp [cA] at h; subst h; exact ⟨a_nil, fun e h => by simp at h⟩
    | cons _ _ => simp [cA] at h
  · intro X c C es x h
    cases es with
    | nil => simp [cP] at h; subst h; exact ⟨a_nil, fun e h => by simp at h⟩
    | cons _ _ => simp [cP] at h
  · intro X c C ks vs x h
    cases ks with
    | nil =>
      cases vs with
      | nil => simp [cD] at h; subst h; exact .nil
      | cons _ _ => simp [cD] at h
    | cons ko ks => cases ko <;> cases vs <;> simp [cD] at h
  · intro X c C vs x p h; rcases vs with _ | ⟨_, _ | _⟩ <;> simp [cAnd] at h
  · intro X c C vs x p h; rcases vs with _ | ⟨_, _ | _⟩ <;> simp [cOr] at h
  · intro X c C md f as x p pos h; simp [cB] at h
  · intro X c C md o m as x ap pos h; simp [cM] at h
  · intro X c C o x h
    cases o with
    | none => simp [cO] at h; subst h; exact o_none
    | some _ => simp [cO] at h
  · intro X c C tg e x h; simp [cI] at h
  · intro X c C es x h
    rcases es with _ | ⟨_, _ | _⟩
    · simp [cT] at h; subst h; exact ts_nil
    · simp [cT] at h
    · simp [cT] at h
theorem snd_all : ∀ n, Snd Φ k n ∧ ∀ {X : Cx} {c : Ctx}, CtxOk X c Φ k → ∀ {scope : Scope} {gs : List Comprehension} {g : IG}, cG c (c.blk scope) n gs = some g → GG X Φ scope gs g
  | 0 => ⟨snd0, fun {X c} C {scope gs g} h => by simp [cG] at h⟩
  | n + 1 => by
    obtain ⟨ih, ihg⟩ := snd_all n
    refine ⟨⟨fun {X c} C {md e x} h => snd_e ih ihg C h, fun {X c} C {e x} h => snd_t ih (fun {e x} h => snd_e ih ihg C h) C h, fun {X c} C {es x} h => snd_l ih C h, fun {X c} C {es x} h => snd_a ih C h, fun {X c} C {es x} h => snd_p ih C h, fun {X c} C {ks vs x} h => snd_d ih C h,
      fun {X c} C {vs x p} h => snd_and ih C h, fun {X c} C {vs x p} h => snd_or ih C h, fun {X c} C {md f as x p pos} h hb => snd_b ih C h hb, fun {X c} C {md o m as x ap pos} h h0 hl => snd_m ih C h h0 hl, fun {X c} C {o x} h => snd_o ih C h, fun {X c} C {tg e x} h => snd_i ih C h, fun {X c} C {es x} h => snd_ts ih C h⟩, fun {X c} C {scope gs g} h => snd_g ih C h⟩
end
end FJ

set_option Elab.async false
set_option linter.all false
set_option autoImplicit false
set_option maxRecDepth 100000
set_option maxHeartbeats 0
/-! Ev6e: statements compiled. -/
namespace FJ
open PySem PySem.Spec L2
open PyProof.Rows hiding St
section
variable {Φ : Str → List FJ.Slot → Res} {k n N : Nat} {X : Cx} {c : Ctx} {pin : List Nat}
/-! ### name = [..] on one line -/
theorem s_setLc {i : Nat} {y : Str} {py : Pos} {elt tg iter : Expr} {ifs : List Expr} {scope : Scope} {own : List (Str × Nat)} {t : ITg} {it : II} {fs : IL} {x : IE} {pos spos : Pos} (hc : X.calm = true) (hN : X.N.Nodup) (hy : X.N[i]? = some y) (hyl : X.env.scope.names.lookup y = some .local)
    (hsw : swapsWith (.ListComp elt [⟨tg, iter, ifs, 0⟩] scope pos) (some (.Name y py)) spos.line X.env = pure true) (hi : GI X Φ tg iter it) (ok : BlkOk X.N X.env.scope scope own) (hp : BlkParts X Φ scope tg ifs t fs)
    (he : ∀ (s : Shared) (H : Hp) (C : Addr) (cl : List (Str × Addr)) (fp : List Addr), PE (blkX X s H scope cl C fp) elt (tE X.prog X.w X.K (den Φ x))) (hs : noSet iter) (hpin : i ∉ pin) :
    GS X Φ N pin (.Assign [.Name y py] (.ListComp elt [⟨tg, iter, ifs, 0⟩] scope pos) spos) (.asg (.nm i) (.lc (own.map (·.2)) x (.one t it fs))) :=
  (ps_setLc hc hN hy hyl hsw hi ok hp.g hp.t he (hs X.env)).imp fun D τ G q => by
    obtain ⟨r, en, hw⟩ := asg_end hpin q
    exact lc_read en (fun _ _ _ h => h) hw
theorem s_setLc2 {i : Nat} {y : Str} {py : Pos} {elt tg iter tg1 iter1 : Expr} {ifs ifs1 : List Expr} {scope : Scope} {own : List (Str × Nat)} {t t1 : ITg} {it it1 : II} {fs fs1 : IL} {x : IE} {pos spos : Pos} (hc : X.calm = true) (hN : X.N.Nodup) (hy : X.N[i]? = some y) (hyl : X.env.scope.names.lookup y = some .local)
    (hsw : swapsWith (.ListComp elt [⟨tg, iter, ifs, 0⟩, ⟨tg1, iter1, ifs1, 0⟩] scope pos) (some (.Name y py)) spos.line X.env = pure true) (hi : GI X Φ tg iter it) (ok : BlkOk X.N X.env.scope scope own) (hp : BlkParts X Φ scope tg ifs t fs) (hp1 : BlkParts2 X Φ scope tg1 iter1 ifs1 t1 it1 fs1)
    (he : ∀ (s : Shared) (H : Hp) (C : Addr) (cl : List (Str × Addr)) (fp : List Addr), PE (blkX X s H scope cl C fp) elt (tE X.prog X.w X.K (den Φ x))) (hs : noSet iter) (hs1 : noSet iter1) (hpin : i ∉ pin) :
    GS X Φ N pin (.Assign [.Name y py] (.ListComp elt [⟨tg, iter, ifs, 0⟩, ⟨tg1, iter1, ifs1, 0⟩] scope pos) spos) (.asg (.nm i) (.lc (own.map (·.2)) x (.two t it fs t1 it1 fs1))) :=
  if hv : tgIn (own.map (·.2)) t1 = true then (ps_setLc2 hc hN hy hyl hsw hi ok (tgIn_is hv) hp.g hp.t hp1.i hp1.g hp1.t he (hs X.env) hs1).imp fun D τ G q => by
    obtain ⟨r, en, hw⟩ := asg_end hpin q
    exact lc2_read en (fun _ _ _ h => h) (fun _ _ _ h => h) hw
  else ⟨fun ps s0 τ G Q J q => by
    obtain ⟨r, en, hw⟩ := asg_end hpin q
    rw [lc2_eq, if_neg (by rw [Bool.and_eq_true]; exact fun z => hv z.2)] at hw
    exact hw.elim⟩
/-! ### whether a comprehension is stored from within -/
theorem beq_local (o : Option NameKind) : (o == some .local) = decide (o = some .local) := by
  cases o with
  | none => rfl
  | some a => cases a <;> rfl
theorem any_same {scope : Scope} {y : Str} : (scope.names.any fun (n, k) => n == y && (k == .local || k == .cell)) = (scope.names.any fun (n, k) => n == y && (k == .local || k == .cell)) := rfl
theorem kind_dec (C : CtxOk X c Φ k) {x : Str} : (X.env.kindOf x == some .local) = decide (c.sc.names.lookup x = some .local) := by
  have e : X.env.kindOf x = c.sc.names.lookup x := by
    show X.env.scope.names.lookup x = _
    rw [C.sc]
  rw [e, beq_local]
theorem swap_false (C : CtxOk X c Φ k) {x : Str} {p : Pos} {e : Expr} {l : Nat} (h : swapB c x p e = false) (hs : ∀ a b d f, e ≠ .SetComp a b d f) : swapsWith e (some (.Name x p)) l X.env = pure false := by
  have key : ∀ (scope : Scope) (b : Bool), swapB c x p e = (decide (c.sc.names.lookup x = some .local) && (p.line == e.pos.line) && !(scope.names.any fun (n, k) => n == x && (k == .local || k == .cell))) →
      (b && X.env.kindOf x == some .local && p.line == e.pos.line && !(scope.names.any fun (n, k) => n == x && (k == .local || k == .cell))) = false := fun scope b e1 => by
    rw [h] at e1
    rw [kind_dec C, Bool.and_assoc, Bool.and_assoc, ← Bool.and_assoc (decide _), ← e1, Bool.and_false]
  cases e with
  | ListComp elt gs scope pos =>
    have := key scope (X.env.blockKind == .function) rfl
    show (do return _) = _
    rw [this]
  | DictComp ke ve gs scope pos =>
    have := key scope (X.env.blockKind == .function) rfl
    show (do return _) = _
    rw [this]
  | SetComp a b d f => exact absurd rfl (hs a b d f)
  | _ => rfl
theorem swap_sub {e o i : Expr} {p : Pos} {l : Nat} : swapsWith e (some (.Subscript o i p)) l X.env = pure false := by cases e <;> rfl
theorem swap_tup {e : Expr} {ts : List Expr} {kk : Nat} {p : Pos} {l : Nat} : swapsWithSole [.Tuple ts kk p] e l X.env = pure false := by cases e <;> rfl
theorem stored_none {e : Expr} {ts : List Expr} {kk : Nat} {p : Pos} (h : ∀ a b d, e ≠ .Tuple a b d) : swappedStores [.Tuple ts kk p] e X.env = pure none := by
  cases e with
  | Tuple a b d => exact absurd rfl (h a b d)
  | _ => rfl
def nmA (g : Str → Bool) (ts : List Expr) : List Str := ts.filterMap fun
  | .Name id pos => if g id && pos.line == (ts.head?.map (·.pos.line)).getD 0 then some id else none
  | _ => none
theorem swN (C : CtxOk X c Φ k) (hk : X.env.blockKind = .function) {ts vs : List Expr} {k1 k2 : Nat} {p1 p2 : Pos} {o : Option (List Str)} (h : swapN c ts vs = some o) : swappedStores [.Tuple ts k1 p1] (.Tuple vs k2 p2) X.env = pure o := by
  unfold swapN at h
  have hst : (fun e : Expr => match e with
    | .Starred .. => true
    | _ => false) = starB := by funext e; cases e <;> rfl
  have hg : (fun id => X.env.kindOf id == some .local) = fun id => decide (c.sc.names.lookup id = some .local) := by funext id; exact kind_dec C
  generalize hA : nmA (fun id => decide (c.sc.names.lookup id = some .local)) ts = A
  have hA' : nmA (fun id => X.env.kindOf id == some .local) ts = A := by rw [hg, hA]
  unfold swappedStores
  simp only [hk]
  show (if (!(ts.length == 2 || ts.length == 3) || vs.length != ts.length || false) = true then (pure none : Sem (Option (List Str))) else _) = _
  rw [Bool.or_false]
  split at h
  · rename_i h1
    cases h
    rw [if_pos h1]
  · rename_i h1
    rw [if_neg h1]
    show (if vs.any (fun e : Expr => match e with
      | .Starred .. => true
      | _ => false) = true then (pure none : Sem (Option (List Str))) else _) = _
    rw [hst]
    split at h
    · rename_i h2
      cases h
      rw [if_pos h2]
    · rename_i h2
      rw [if_neg h2]
      show (if ((nmA (fun id => X.env.kindOf id == some .local) ts).length != ts.length || (nmA (fun id => X.env.kindOf id == some .local) ts).eraseDups.length != (nmA (fun id => X.env.kindOf id == some .local) ts).length) = true then (pure none : Sem (Option (List Str))) else
        if vs.all (foldedForSure 8) = true then pure none else if vs.all (constantsAlone 8) = true then _ else pure (some (nmA (fun id => X.env.kindOf id == some .local) ts))) = _
      have h : (if ((nmA (fun id => decide (c.sc.names.lookup id = some .local)) ts).length != ts.length || (nmA (fun id => decide (c.sc.names.lookup id = some .local)) ts).eraseDups.length != (nmA (fun id => decide (c.sc.names.lookup id = some .local)) ts).length) = true then some none else
        if vs.all (foldedForSure 8) = true then some none else if vs.all (constantsAlone 8) = true then none else some (some (nmA (fun id => decide (c.sc.names.lookup id = some .local)) ts))) = some o := h
      rw [hA] at h
      rw [hA']
      split at h
      · rename_i h3
        cases h
        rw [if_pos h3]
      · rename_i h3
        rw [if_neg h3]
        split at h
        · rename_i h4
          cases h
          show (if vs.all (foldedForSure 8) = true then _ else _) = _
          rw [if_pos h4]
        · rename_i h4
          show (if vs.all (foldedForSure 8) = true then _ else _) = _
          rw [if_neg h4]
          split at h
          · cases h
          · rename_i h5
            cases h
            show (if vs.all (constantsAlone 8) = true then _ else _) = _
            rw [if_neg h5]
end
end FJ

set_option Elab.async false
set_option linter.all false
set_option autoImplicit false
set_option maxRecDepth 100000
set_option maxHeartbeats 0
/-! Ev6f: statements compiled: the whole. -/
namespace FJ
open PySem PySem.Spec L2
open PyProof.Rows hiding St
section
variable {Φ : Str → List FJ.Slot → Res} {k n N : Nat} {X : Cx} {c : Ctx}
theorem nm_at {g : Str → Bool} {l : Nat} {e : Expr} {x : Str} (h : (match e with
    | .Name id pos => if g id && pos.line == l then some id else none
    | _ => none) = some x) : ∃ p, e = .Name x p ∧ g x = true := by
  cases e with
  | Name id pos =>
    have h : (if (g id && pos.line == l) = true then some id else none) = some x := h
    split at h
    · rename_i hb
      cases h
      rw [Bool.and_eq_true] at hb
      exact ⟨pos, rfl, hb.1⟩
    · cases h
  | _ => cases h
/-- two or three plain local names, as many values -/
theorem sw_shape {ts vs : List Expr} {ns : List Str} (h : swapN c ts vs = some (some ns)) :
    (∃ x y p q a b, ts = [.Name x p, .Name y q] ∧ vs = [a, b] ∧ ns = [x, y] ∧ c.sc.names.lookup x = some .local ∧ c.sc.names.lookup y = some .local) ∨
    ∃ x y z p q r a b d, ts = [.Name x p, .Name y q, .Name z r] ∧ vs = [a, b, d] ∧ ns = [x, y, z] ∧ c.sc.names.lookup x = some .local ∧ c.sc.names.lookup y = some .local ∧ c.sc.names.lookup z = some .local := by
  unfold swapN at h
  split at h
  · cases h
  · rename_i h1
    split at h
    · cases h
    · have h : (if ((nmA (fun id => decide (c.sc.names.lookup id = some .local)) ts).length != ts.length || (nmA (fun id => decide (c.sc.names.lookup id = some .local)) ts).eraseDups.length != (nmA (fun id => decide (c.sc.names.lookup id = some .local)) ts).length) = true then some none else
        if vs.all (foldedForSure 8) = true then some none else if vs.all (constantsAlone 8) = true then none else some (some (nmA (fun id => decide (c.sc.names.lookup id = some .local)) ts))) = some (some ns) := h
      split at h
      · cases h
      · rename_i h3
        split at h
        · cases h
        · split at h
          · cases h
          · have e : nmA (fun id => decide (c.sc.names.lookup id = some .local)) ts = ns := by cases h; rfl
            rw [e] at h3
            rw [Bool.or_eq_true, not_or] at h1 h3
            have l1 : ns.length = ts.length := by simpa using h3.1
            have l2 : vs.length = ts.length := by simpa using h1.2
            have l3 : ts.length = 2 ∨ ts.length = 3 := by
              have := h1.1
              simp at this
              omega
            have len : ∀ (f : Expr → Option Str) (ts : List Expr), (ts.filterMap f).length ≤ ts.length := fun f ts => List.length_filterMap_le f ts
            unfold nmA at e
            generalize hf : (fun e : Expr => (match e with
              | .Name id pos => if decide (c.sc.names.lookup id = some .local) && pos.line == (ts.head?.map (·.pos.line)).getD 0 then some id else none
              | _ => none : Option Str)) = f at e
            have at_ : ∀ (t : Expr) (x : Str), f t = some x → ∃ p, t = .Name x p ∧ c.sc.names.lookup x = some .local := fun t x ht => by
              rw [← hf] at ht
              obtain ⟨p, e1, e2⟩ := nm_at (g := fun id => decide (c.sc.names.lookup id = some .local)) ht
              exact ⟨p, e1, by simpa using e2⟩
            have step : ∀ (t : Expr) (r : List Expr), ((t :: r).filterMap f).length = (t :: r).length → ∃ x, f t = some x ∧ (t :: r).filterMap f = x :: r.filterMap f ∧ (r.filterMap f).length = r.length := fun t r hl => by
              cases hft : f t with
              | none =>
                rw [List.filterMap_cons_none hft] at hl
                have := len f r
                rw [List.length_cons] at hl
                omega
              | some x =>
                rw [List.filterMap_cons_some hft] at hl ⊢
                exact ⟨x, rfl, rfl, by simpa using hl⟩
            have hl : (ts.filterMap f).length = ts.length := by rw [e]; exact l1
            clear hf
            rcases ts with _ | ⟨t1, _ | ⟨t2, _ | ⟨t3, _ | ⟨t4, ts⟩⟩⟩⟩
            · simp at l3
            · simp at l3
            · obtain ⟨x, f1, g1, hl⟩ := step _ _ hl
              obtain ⟨y, f2, g2, _⟩ := step _ _ hl
              rw [g1, g2, List.filterMap_nil] at e
              obtain ⟨p, rfl, hx⟩ := at_ _ _ f1
              obtain ⟨q, rfl, hy⟩ := at_ _ _ f2
              match vs, l2 with
              | [a, b], _ => exact .inl ⟨x, y, p, q, a, b, rfl, rfl, e.symm, hx, hy⟩
            · obtain ⟨x, f1, g1, hl⟩ := step _ _ hl
              obtain ⟨y, f2, g2, hl⟩ := step _ _ hl
              obtain ⟨z, f3, g3, _⟩ := step _ _ hl
              rw [g1, g2, g3, List.filterMap_nil] at e
              obtain ⟨p, rfl, hx⟩ := at_ _ _ f1
              obtain ⟨q, rfl, hy⟩ := at_ _ _ f2
              obtain ⟨r, rfl, hz⟩ := at_ _ _ f3
              match vs, l2 with
              | [a, b, d], _ => exact .inr ⟨x, y, z, p, q, r, a, b, d, rfl, rfl, e.symm, hx, hy, hz⟩
            · simp at l3
theorem nameIx_is (C : CtxOk X c Φ k) {e : Expr} {i : Nat} (h : nameIx c e = some i) : ∃ x p, e = .Name x p ∧ slotOf c x = some i ∧ X.N[i]? = some x ∧ L2.Loc X.env.scope x ∧ (X.fn x = true ∨ X.env.scope.names.lookup x = some .local) ∧ i ∉ c.pin := by
  cases e with
  | Name x p =>
    simp only [nameIx] at h
    cases hs : slotOf c x with
    | none => simp [hs] at h
    | some j =>
      simp only [hs] at h
      split at h
      · rename_i hb
        rw [Bool.and_eq_true] at hb
        cases h
        obtain ⟨hN, hv⟩ := slot_is C hs
        obtain ⟨hl, hf⟩ := stor_is C hb.1
        exact ⟨x, p, rfl, hs, hN, hl, hf, by simpa using hb.2⟩
      · cases h
  | _ => simp [nameIx] at h
theorem ownIx_is (C : CtxOk X c Φ k) {e : Expr} {i : Nat} (h : ownIx c e = some i) : GE X Φ e (.pk i) ∧ callB e = false := by
  cases e with
  | Name x p =>
    simp only [ownIx] at h
    split at h
    · cases h
    · rename_i hn
      rw [Bool.or_eq_true, not_or] at hn
      obtain ⟨hN, hv⟩ := slot_is C h
      exact ⟨e_pk Φ hN hv (by simpa using hn.1) (by simpa using hn.2), rfl⟩
  | _ => simp [ownIx] at h
theorem cE_asg {md : Md} {e o : Expr} {x : IE} {p : Pos} {env : Env} {n : Nat} (h : cE c n md e = some x) : (∀ v, assign (.Subscript o e p) env v = (do
      let ov ← holding [v] (eval o env)
      let iv ← holding [v, ov] (eval e env)
      standAt p
      holding [v, ov, iv] (setItem ov iv v)
      release [v, ov, iv] [])) ∧ ∀ ov iv new, augStore e ov iv new = (do holding [new, ov, iv] (setItem ov iv new); release [new, ov, iv] []; pure .next) := by
  cases n with
  | zero => simp [cE] at h
  | succ n =>
    cases e with
    | Slice _ _ _ _ => simp [cE] at h
    | _ => exact ⟨fun _ => rfl, fun _ _ _ => rfl⟩
theorem cE_noset {md : Md} {e : Expr} {x : IE} {n : Nat} (h : cE c n md e = some x) : ∀ a b d f, e ≠ .SetComp a b d f := fun a b d f z => by
  subst z
  cases n <;> simp [cE] at h
theorem namesIx_at (C : CtxOk X c Φ k) : ∀ {es : List Expr} {is : List Nat}, namesIx c es = some is → (∀ i ∈ is, i ∉ c.pin) ∧ Paired (fun e i => ∃ x p, e = .Name x p ∧ X.N[i]? = some x) es is
  | [], is, h => by
    simp only [namesIx] at h
    cases h
    exact ⟨fun i h => by simp at h, .nil⟩
  | e :: es, is, h => by
    simp only [namesIx] at h
    split at h
    · rename_i h1 h2
      cases h
      obtain ⟨x, p, rfl, _, hN, _, _, hp⟩ := nameIx_is C h1
      obtain ⟨t1, t2⟩ := namesIx_at C h2
      refine ⟨fun i hi => ?_, .cons ⟨x, p, rfl, hN⟩ t2⟩
      rcases List.mem_cons.mp hi with z | z
      · subst z; exact hp
      · exact t1 i z
    · cases h
structure SndS (Φ : Str → List FJ.Slot → Res) (k N n : Nat) : Prop where
  s : ∀ {X : Cx} {c : Ctx}, CtxOk X c Φ k → X.env.blockKind = .function → PassesOwn (model X.prog X.w) X.A X.env X.xe → X.env.scope.kind = .function → ∀ {s : Stmt} {i : IS}, cS c n s = some i → GS X Φ N c.pin s i
  ss : ∀ {X : Cx} {c : Ctx}, CtxOk X c Φ k → X.env.blockKind = .function → PassesOwn (model X.prog X.w) X.A X.env X.xe → X.env.scope.kind = .function → ∀ {ss : List Stmt} {is : ISs}, cSs c n ss = some is → GSs X Φ N c.pin ss is
theorem snd_ss (ih : SndS Φ k N n) (C : CtxOk X c Φ k) (hk : X.env.blockKind = .function) (hp : PassesOwn (model X.prog X.w) X.A X.env X.xe) (hf : X.env.scope.kind = .function) {ss : List Stmt} {is : ISs} (h : cSs c (n + 1) ss = some is) : GSs X Φ N c.pin ss is := by
  cases ss with
  | nil => simp [cSs] at h; subst h; exact s_nil
  | cons s ss =>
    simp only [cSs] at h
    split at h
    · rename_i h1 h2
      cases h
      exact s_cons (ih.s C hk hp hf h1) (ih.ss C hk hp hf h2)
    · cases h
/-- name = e -/
theorem snd_set (C : CtxOk X c Φ k) (hf : X.env.scope.kind = .function) {x : Str} {p pos : Pos} {e : Expr} {i : Nat} {v : IE} (h1 : nameIx c (.Name x p) = some i) (h2 : cE c n .pl e = some v) (h3 : (swapB c x p e && dcB e) = false) : GS X Φ N c.pin (.Assign [.Name x p] e pos) (.asg (.nm i) v) := by
  obtain ⟨_, _, e1, _, hN, hl, hfn, hpin⟩ := nameIx_is C h1
  cases e1
  have nd : X.N.Nodup := by rw [C.N]; exact C.nd
  cases hs : swapB c x p e with
  | false => exact s_set nd hN hl hfn ((snd_all n).1.e C h2) (swap_false C hs (cE_noset h2)) hpin
  | true =>
    rw [hs, Bool.true_and] at h3
    cases e with
    | ListComp elt gs scope lp =>
      unfold swapB at hs
      simp only [compSc] at hs
      rw [Bool.and_eq_true, Bool.and_eq_true, decide_eq_true_eq] at hs
      have hyl : X.env.scope.names.lookup x = some .local := by rw [C.sc]; exact hs.1.1
      have hsw : ∀ l, swapsWith (.ListComp elt gs scope lp) (some (.Name x p)) l X.env = pure true := fun l => sw_true hf hyl hs.1.2 (by simpa using hs.2)
      cases n with
      | zero => simp [cE] at h2
      | succ n =>
        obtain ⟨ih, ihg⟩ := snd_all (Φ := Φ) (k := k) n
        simp only [cE] at h2
        split at h2
        · rename_i hb
          split at h2
          · rename_i g1 g2
            cases h2
            have ok : BlkOk X.N X.env.scope scope (ownOf c.N scope) := by rw [C.N, C.sc]; exact blk_is hb
            have he := fun (s : Shared) (H : Hp) (A : Addr) (cl : List (Str × Addr)) (fp : List Addr) => ih.e (blk_ctx C s H scope A cl fp) g1
            cases ihg C g2 with
            | one a1 a2 a3 => exact s_setLc C.calm nd hN hyl (hsw _) a1 ok a3 he a2 hpin
            | two a1 a2 a3 a4 a5 => exact s_setLc2 C.calm nd hN hyl (hsw _) a1 ok a3 a4 he a2 a5 hpin
          · cases h2
        · cases h2
    | DictComp _ _ _ _ _ => cases h3
    | _ => simp [swapB, compSc] at hs
end
end FJ

set_option Elab.async false
set_option linter.all false
set_option autoImplicit false
set_option maxRecDepth 100000
set_option maxHeartbeats 0
/-! Ev6g: statements compiled: the induction. -/
namespace FJ
open PySem PySem.Spec L2
open PyProof.Rows hiding St
section
variable {Φ : Str → List FJ.Slot → Res} {k n N : Nat} {X : Cx} {c : Ctx}
/-- a, b = x, y -/
theorem snd_par (C : CtxOk X c Φ k) (hk : X.env.blockKind = .function) {ts es : List Expr} {k1 k2 : Nat} {p1 p2 pos : Pos} {ns : List Str} {is : List Nat} {xs : IL} (h1 : swapN c ts es = some (some ns)) (h2 : namesIx c ts = some is) (h3 : cP c n es = some xs) (h4 : is.Nodup) :
    GS X Φ N c.pin (.Assign [.Tuple ts k1 p1] (.Tuple es k2 p2) pos) (.par is xs) := by
  have nd : X.N.Nodup := by rw [C.N]; exact C.nd
  have sw := swN (k1 := k1) (k2 := k2) (p1 := p1) (p2 := p2) C hk h1
  obtain ⟨hp, pr⟩ := namesIx_at C h2
  obtain ⟨ga, _⟩ := (snd_all n).1.p C h3
  have lk : ∀ x, c.sc.names.lookup x = some .local → X.env.scope.names.lookup x = some .local := fun x h => by rw [C.sc]; exact h
  rcases sw_shape h1 with ⟨x, y, p, q, a, b, rfl, rfl, rfl, hx, hy⟩ | ⟨x, y, z, p, q, r, a, b, d, rfl, rfl, rfl, hx, hy, hz⟩
  · cases pr with
    | cons r1 pr =>
      cases pr with
      | cons r2 pr =>
        cases pr
        obtain ⟨_, _, e1, n1⟩ := r1
        obtain ⟨_, _, e2, n2⟩ := r2
        cases e1; cases e2
        simp only [List.nodup_cons, List.mem_singleton, List.not_mem_nil, not_false_eq_true, List.nodup_nil, and_true] at h4
        exact s_par2 C.calm nd n1 n2 h4 (lk _ hx) (lk _ hy) ga sw swap_tup hp
  · cases pr with
    | cons r1 pr =>
      cases pr with
      | cons r2 pr =>
        cases pr with
        | cons r3 pr =>
          cases pr
          obtain ⟨_, _, e1, n1⟩ := r1
          obtain ⟨_, _, e2, n2⟩ := r2
          obtain ⟨_, _, e3, n3⟩ := r3
          cases e1; cases e2; cases e3
          simp only [List.nodup_cons, List.mem_cons, List.mem_singleton, List.not_mem_nil, not_or, or_false, not_false_eq_true, List.nodup_nil, and_true] at h4
          exact s_par3 C.calm nd n1 n2 n3 h4.1.1 h4.1.2 h4.2 (lk _ hx) (lk _ hy) (lk _ hz) ga sw swap_tup hp
/-- (.., ..) = e -/
theorem snd_tup (C : CtxOk X c Φ k) {ts : List Expr} {k1 : Nat} {p1 pos : Pos} {e : Expr} {t : ITg} {v : IE} (h1 : cTg c n (.Tuple ts k1 p1) = some t) (h2 : cE c n .kp e = some v) (sw : swappedStores [.Tuple ts k1 p1] e X.env = pure none) : GS X Φ N c.pin (.Assign [.Tuple ts k1 p1] e pos) (.asg t v) := by
  obtain ⟨g1, g2, g3, g4⟩ := (tgSnd n).tg C h1
  exact s_asg ((snd_all n).1.e C h2) g1 (g4 rfl) g2 swap_tup sw rfl
theorem snd_s (ih : SndS Φ k N n) (C : CtxOk X c Φ k) (hk : X.env.blockKind = .function) (hp : PassesOwn (model X.prog X.w) X.A X.env X.xe) (hf : X.env.scope.kind = .function) {s : Stmt} {i : IS} (h : cS c (n + 1) s = some i) : GS X Φ N c.pin s i := by
  have nd : X.N.Nodup := by rw [C.N]; exact C.nd
  have SE := (snd_all (Φ := Φ) (k := k) n).1
  cases s with
  | Assign ts e pos =>
    rcases ts with _ | ⟨t, _ | ⟨_, _⟩⟩
    · simp [cS] at h
    · cases t with
      | Name x p =>
        simp only [cS] at h
        split at h
        · rename_i h1 h2
          split at h
          · cases h
          · rename_i h3
            cases h
            exact snd_set C hf h1 h2 (by simpa using h3)
        · cases h
      | Tuple ts k1 p1 =>
        simp only [cS] at h
        split at h
        · split at h
          · rename_i hsw
            split at h
            · rename_i h2 h3
              split at h
              · rename_i h4
                cases h
                exact snd_par C hk hsw h2 h3 h4
              · cases h
            · cases h
          · rename_i hsw
            split at h
            · rename_i h2 h3
              cases h
              exact snd_tup C h2 h3 (swN C hk hsw)
            · cases h
          · cases h
        · rename_i hne
          split at h
          · rename_i h2 h3
            cases h
            exact snd_tup C h2 h3 (stored_none fun a b d z => hne a b d z)
          · cases h
      | Subscript o b p =>
        simp only [cS] at h
        split at h
        · rename_i h1 h2 h3
          cases h
          exact s_put C.room (ownIx_is C h1).1 (SE.e C h2) (SE.e C h3) swap_sub (cE_asg h2).1
        · cases h
      | _ => simp [cS] at h
    · cases t <;> simp [cS] at h
  | AugAssign t op e pos =>
    cases t with
    | Name x p =>
      simp only [cS] at h
      split at h
      · rename_i h1 h2 h3
        cases h
        obtain ⟨_, _, e1, _, hN, hl, hfn, hpin⟩ := nameIx_is C h1
        cases e1
        have eo := bop_is h2
        subst eo
        exact s_aug nd hN hl hfn (SE.e C h3) hpin
      · cases h
    | Subscript o b p =>
      simp only [cS] at h
      split at h
      · rename_i h1 h2 h3 h4
        cases h
        have eo := bop_is h3
        subst eo
        exact s_augp C.room (ownIx_is C h1).1 (SE.e C h2) (SE.e C h4) (cE_asg (o := o) (p := p) (env := X.env) h2).2
      · cases h
    | _ => simp [cS] at h
  | Expr e pos =>
    have ex : ∀ {f : Expr} {as : List Expr} {ks : List Keyword} {cp : Pos}, (cE c n .pl (.Call f as ks cp)).map IS.ex = some i → GS X Φ N c.pin (.Expr (.Call f as ks cp) pos) i := fun {f as ks cp} h => by
      obtain ⟨y, hy, rfl⟩ := map_some h
      exact s_ex (SE.e C hy) rfl
    unfold cS at h
    simp only at h
    split at h
    · split at h
      · rename_i hm
        subst hm
        split at h
        · rename_i h1 h2
          split at h
          · rename_i hl
            cases h
            obtain ⟨g1, g2⟩ := ownIx_is C h1
            exact s_app g1 (SE.e C h2) (st_of h2) g2 hl
          · cases h
        · cases h
      · split at h
        · rename_i hm
          subst hm
          split at h
          · rename_i h1 h2
            split at h
            · rename_i hl
              cases h
              obtain ⟨g1, g2⟩ := ownIx_is C h1
              exact s_ext g1 (SE.e C h2) (st_of h2) g2 hl
            · cases h
          · cases h
        · exact ex h
    · exact ex h
    · cases h
  | If t a b pos =>
    simp only [cS] at h
    split at h
    · rename_i h1 h2 h3
      cases h
      exact s_ite (SE.t C h1) (ih.ss C hk hp hf h2) (ih.ss C hk hp hf h3)
    · cases h
  | While t a b pos =>
    cases b with
    | nil =>
      simp only [cS] at h
      split at h
      · rename_i h1 h2
        cases h
        exact s_while hp (SE.t C h1) (ih.ss C hk hp hf h2)
      · cases h
    | cons _ _ => simp [cS] at h
  | For tg it a b pos =>
    cases b with
    | nil =>
      simp only [cS] at h
      split at h
      · rename_i h1 h2 h3
        cases h
        obtain ⟨g1, g2, g3, g4⟩ := (tgSnd n).tg C h1
        obtain ⟨i1, i2⟩ := SE.i C h2
        exact s_for hp C.calm i1 g1 (ih.ss C hk hp hf h3) g2 i2
      · cases h
    | cons _ _ => simp [cS] at h
  | Return e pos =>
    cases e with
    | none => simp only [cS] at h; cases h; exact s_retN
    | some e =>
      simp only [cS] at h
      obtain ⟨y, hy, rfl⟩ := map_some h
      exact s_ret (SE.e C hy)
  | Raise e f pos =>
    unfold cS at h
    split at h <;> first | cases h | skip
    all_goals first | (obtain ⟨y, hy, rfl⟩ := map_some h; exact s_raise) | (simp_all; done)
  | Continue pos => simp only [cS] at h; cases h; exact s_cont
  | Break pos => simp only [cS] at h; cases h; exact s_brk
  | Pass pos => simp only [cS] at h; cases h; exact s_pass
  | _ => simp [cS] at h
theorem sndS : ∀ n, SndS Φ k N n
  | 0 => ⟨fun {X c} C hk hp hf {s i} h => by simp [cS] at h, fun {X c} C hk hp hf {ss is} h => by
      cases ss with
      | nil => simp [cSs] at h; subst h; exact s_nil
      | cons _ _ => simp [cSs] at h⟩
  | n + 1 => ⟨fun {X c} C hk hp hf {s i} h => snd_s (sndS n) C hk hp hf h, fun {X c} C hk hp hf {ss is} h => snd_ss (sndS n) C hk hp hf h⟩
end
end FJ

set_option Elab.async false
set_option linter.all false
set_option autoImplicit false
set_option maxRecDepth 100000
set_option maxHeartbeats 0
/-! Ev7a: defs. -/
namespace FJ
open PySem PySem.Spec L2
open PyProof.Rows hiding St

section
variable {P : Program} {w : World} {K : PySem.W.Frag} {mg : Str → Option Value} {base : Heap}
/-- what the head says of the law's text -/
structure LawFacts (P : Program) (w : World) (K : PySem.W.Frag) (mg : Str → Option Value) (base : Heap) (Pg : Prog) (G : List (Str × PyData)) (Fs B : List Str) : Prop where
  fn : ∀ f, Fs.contains f = true → ∃ (qual : Str) (st : Stmt) (fd : FuncData) (F : IF) (N : List Str), FunD K f qual (defArgs st) (defBody st) (defScope st) [] [] (He.ga K f) fd ∧ Binds K fd (paramsOf (defArgs st)) [] ∧ mg f = some (.ref (He.ga K f)) ∧ Pg.lookup f = some F ∧ cF G Fs B N st = some F
  fs : ∀ f F, Pg.lookup f = some F → Fs.contains f = true
  G : ∀ x d, G.lookup x = some d → ∃ v u, mg x = some u ∧ RelV v u ∧ ∀ H, RepF P w K H v d
  B : ∀ f, B.contains f = true → mg f = none
/-- a def at a depth -/
def FOk (P : Program) (w : World) (K : PySem.W.Frag) (mg : Str → Option Value) (base : Heap) (Φ : Str → List FJ.Slot → Res) (k : Nat) (f : Str) : Prop :=
  ∃ (fd : FuncData) (ps : List Str), FnOk P w K mg base CX0 k (He.ga K f) fd ps (spF P w K Φ f) ∧ Binds K fd ps []
theorem env_ext {H : Hp} {vs : List V} {as : List FJ.Slot} (N : List Str) (m : Nat) (hm : m = N.length - vs.length) (en : EnvR P w K H (vs.map some) as) : EnvR P w K H (start N vs) (as ++ List.replicate m .un) ∧ ∀ (i : Nat) a, Owns (start N vs) (as ++ List.replicate m .un) i a → i < as.length ∧ Owns (vs.map some) as i a := by
  have hl : as.length = vs.length := by have := en.len; rw [List.length_map] at this; exact this.symm
  have own : ∀ (i : Nat) a, Owns (start N vs) (as ++ List.replicate m .un) i a → i < as.length ∧ Owns (vs.map some) as i a := fun i a ⟨⟨d, h1⟩, h2⟩ => by
    by_cases hi : i < as.length
    · rw [List.getElem?_append_left hi] at h1
      unfold L2.start at h2
      rw [List.getElem?_append_left (by rw [List.length_map, ← hl]; exact hi)] at h2
      exact ⟨hi, ⟨d, h1⟩, h2⟩
    · rw [List.getElem?_append_right (by omega), List.getElem?_replicate] at h1
      split at h1 <;> cases h1
  refine ⟨⟨?_, fun i s h n => ?_, fun i j a hi hj => en.one i j a (own i a hi).2 (own j a hj).2⟩, own⟩
  · unfold L2.start
    rw [List.length_append, List.length_append, List.length_map, List.length_replicate, List.length_replicate, hl, hm]
  · by_cases hi : i < as.length
    · rw [List.getElem?_append_left hi] at h
      obtain ⟨v, hv, rs⟩ := en.rep i s h n
      refine ⟨v, ?_, rs⟩
      unfold L2.start
      rw [List.getElem?_append_left (by rw [List.length_map, ← hl]; exact hi)]
      exact hv
    · rw [List.getElem?_append_right (by omega), List.getElem?_replicate] at h
      split at h
      · cases h; exact absurd rfl n
      · cases h
theorem pinned_at {pin : List Nat} : ∀ {as : List FJ.Slot} {n j : Nat} {d : PyData}, pinned pin n as = true → as[j]? = some (.ow d) → n + j ∈ pin
  | s :: as, n, 0, d, h, e => by
    cases e
    rw [pinned, Bool.and_eq_true] at h
    simpa using h.1
  | s :: as, n, j + 1, d, h, e => by
    rw [List.getElem?_cons_succ] at e
    have h' : pinned pin (n + 1) as = true := by
      cases s with
      | un => simp [pinned] at h
      | ow _ => rw [pinned, Bool.and_eq_true] at h; exact h.2
      | fz _ => simpa [pinned] using h
      | fn _ => simpa [pinned] using h
      | scr _ => simpa [pinned] using h
    have := pinned_at h' e
    rw [show n + (j + 1) = n + 1 + j by omega]
    exact this
/-- what a body's run gives the caller -/
theorem ret_ok {pin : List Nat} {N : List Str} {vs : List V} {as : List FJ.Slot} {H H' : Hp} {σ' : St} {r' : Rh} {m np : Nat} (hm : m = N.length - vs.length) (en : EnvR P w K H (vs.map some) as) (hnp : as.length = np) (hpin : pinned pin 0 as = true)
    (S : SStp P w K pin (start N vs) (as ++ List.replicate m .un) H σ' r' H') : (r'.take np).length = as.length ∧ Ext (Own (vs.map some) as) H H' ∧ (∀ (j : Nat) d, as[j]? = some (.ow d) → ∃ t v, (r'.take np)[j]? = some t ∧ isD t ∧ vs[j]? = some v ∧ RepS P w K H' v t) ∧
      ∀ u v s, ValR P w K H' σ' r' u v → New H u v → retSlot np r' v = some s → RetR P w K H H' u s := by
  obtain ⟨e0, own⟩ := env_ext N m hm en
  have hl : as.length = vs.length := by have := en.len; rw [List.length_map] at this; exact this.symm
  refine ⟨?_, S.ext.mono fun a ⟨i, h⟩ => ⟨i, (own i a h).2⟩, fun j d hj => ?_, fun u v s hv hn hs => ?_⟩
  · rw [List.length_take, S.len, List.length_append, List.length_replicate]; omega
  · have hjl := (List.getElem?_eq_some_iff.mp hj).1
    have hp : j ∈ pin := by simpa using pinned_at hpin hj
    obtain ⟨p1, p2⟩ := S.pin j hp
    have hd : hasD r' j := p2 (.inl ⟨d, by rw [List.getElem?_append_left hjl]; exact hj⟩)
    have hv : vs[j]? = some vs[j] := List.getElem?_eq_getElem (by omega)
    have hσ : σ'[j]? = some (some vs[j]) := by
      rw [p1]
      unfold L2.start
      rw [List.getElem?_append_left (by rw [List.length_map]; omega), List.getElem?_map, hv]
      rfl
    have fin : ∀ t, r'[j]? = some t → t ≠ .un → isD t → ∃ t v, (r'.take np)[j]? = some t ∧ isD t ∧ vs[j]? = some v ∧ RepS P w K H' v t := fun t ht hne hD => by
      obtain ⟨v, hv', rs⟩ := S.env.rep j t ht hne
      rw [hσ] at hv'
      cases hv'
      exact ⟨t, _, by rw [List.getElem?_take_of_lt (by omega)]; exact ht, hD, hv, rs⟩
    rcases hd with ⟨y, hy⟩ | ⟨y, hy⟩
    · exact fin _ hy (fun z => nomatch z) trivial
    · exact fin _ hy (fun z => nomatch z) trivial
  · cases hv with
    | d q => cases hs; exact .fz q
    | @fresh a x ro no =>
      cases hs
      obtain ⟨a', e1, e2⟩ := hn x rfl
      cases e1
      exact .ow ro e2
    | @bor i _ h1 h2 =>
      have hs : (if i < np then none else match r'[i]? with
        | some (.ow x) => some (.ow x)
        | _ => none) = some s := hs
      split at hs
      · cases hs
      · rename_i hi
        split at hs
        · rename_i x hx
          cases hs
          obtain ⟨a, ha, ro, ho⟩ := S.env.owned hx
          rw [h1] at ha
          cases ha
          refine .ow ro ?_
          rcases S.own i a ho with z | z
          · exact absurd (own i a z).1 (by omega)
          · exact z
        · cases hs
    | fn _ => cases hs
    | scr _ => cases hs
theorem scope_is {N ps : List Str} {sc : Scope} (h : scopeB N ps sc = true) : FnScope N ps sc := by
  unfold scopeB at h
  simp only [Bool.and_eq_true, decide_eq_true_eq, List.all_eq_true, Bool.not_eq_true'] at h
  obtain ⟨⟨⟨⟨⟨⟨h1, h2⟩, h3⟩, h4⟩, h5⟩, h6⟩, h7⟩ := h
  refine ⟨h1, by simpa using h2, by simpa using h3, h4, h5, fun x hx => ?_, fun y hy => ?_⟩
  · have := h6 x hx
    simpa using this
  · have := h7 y hy
    simpa using this
theorem f_zero {f : Str} {fd : FuncData} {ps : List Str} {Pg : Prog} {M : Nat} (hb : Binds K fd ps []) : FOk P w K mg base (fun_ Pg M 0) 0 f := by
  have no : ∀ vs H Q E, ¬ spF P w K (fun_ Pg M 0) f vs H Q E := fun vs H Q E h => by
    obtain ⟨as, _, h⟩ := h
    exact h
  exact ⟨fd, ps, ⟨fun vs H Q E h => (no vs H Q E h).elim, fun A outer s H args us vs Q E _ _ _ _ h => (no vs H Q E h).elim⟩, hb⟩
theorem passNox {X : Cx} : PassesOwn (model X.prog X.w) X.A X.env X.nox.xe := by
  intro e s h
  exact h.elim
theorem cF_is {G : List (Str × PyData)} {Fs B N : List Str} {st : Stmt} {F : IF} (h : cF G Fs B N st = some F) : ∃ b, scopeB N (paramsOf (defArgs st)) (defScope st) = true ∧ cSs (ctxOf G Fs B N (defArgs st) (defBody st) (defScope st)) fuel (defBody st) = some b ∧ F = ⟨N.length, (paramsOf (defArgs st)).length, (ctxOf G Fs B N (defArgs st) (defBody st) (defScope st)).pin, b⟩ := by
  unfold cF at h
  split at h
  · split at h
    · rename_i hb
      rw [Bool.and_eq_true] at hb
      obtain ⟨b, h1, h2⟩ := map_some h
      exact ⟨b, hb.2, h1, h2.symm⟩
    · cases h
  · cases h
theorem f_one {Pg : Prog} {G : List (Str × PyData)} {Fs B : List Str} {M k : Nat} (L : LawFacts P w K mg base Pg G Fs B) (ih : ∀ f, Fs.contains f = true → FOk P w K mg base (fun_ Pg M k) k f) {f qual : Str} {st : Stmt} {fd : FuncData} {F : IF} {N : List Str} (fu : FunD K f qual (defArgs st) (defBody st) (defScope st) [] [] (He.ga K f) fd) (hPg : Pg.lookup f = some F) (hc : cF G Fs B N st = some F) :
    FnOk P w K mg base CX0 (k + 1) (He.ga K f) fd (paramsOf (defArgs st)) (spF P w K (fun_ Pg M (k + 1)) f) := by
  obtain ⟨b, hs, hcs, hF⟩ := cF_is hc
  have S := scope_is hs
  have run : ∀ as, fun_ Pg M (k + 1) f as = runF (fun_ Pg M k) M F as := fun as => by
    show (match Pg.lookup f with
      | some F => runF (fun_ Pg M k) M F as
      | none => .stuck) = _
    rw [hPg]
  refine fu.ok S (fun vs H Q E h => ?_) (fun cdv A outer s H vs Q E hr h => ?_)
  · obtain ⟨as, en, h⟩ := h
    rw [run] at h
    unfold runF at h
    split at h
    · rename_i s outs he
      split at he
      · rename_i hn
        have := en.len
        rw [List.length_map] at this
        rw [this, hn.1, hF]
      · cases he
    · exact h.elim
  · obtain ⟨as, en, h⟩ := h
    rw [run] at h
    generalize hY : (cxOf CX0 P w K mg base N qual (defScope st) (He.ga K f) cdv A outer s H E).nox = Y
    have C : CtxOk Y (ctxOf G Fs B N (defArgs st) (defBody st) (defScope st)) (fun_ Pg M k) k := by
      subst hY
      refine ⟨rfl, S.nd, rfl, rfl, by have := hr.un; show (A.deeper _).units + 200 < _; omega, hr, L.G, fun g hg => ?_, fun g as s outs hk => ?_, L.B, fun x h => rfl⟩
      · obtain ⟨fd', ps', g1, g2⟩ := ih g hg
        obtain ⟨qual', st', fd2, F', N', fu', hb', hmg', hPg', hc'⟩ := L.fn g hg
        exact ⟨⟨fd', ps', g1, g2⟩, fu'.kp, hmg'⟩
      · cases k with
        | zero => cases hk
        | succ k =>
          have hk : (match Pg.lookup g with
            | some F => runF (fun_ Pg M k) M F as
            | none => .stuck) = _ := hk
          cases hl : Pg.lookup g with
          | none => rw [hl] at hk; cases hk
          | some F' => exact L.fs g F' hl
    have kf : Y.env.scope.kind = .function := by subst hY; exact S.kind
    have body : GSs Y (fun_ Pg M k) M (ctxOf G Fs B N (defArgs st) (defBody st) (defScope st)).pin (defBody st) b := (sndS fuel).ss C (by unfold Env.blockKind; rw [kf]; rfl) (by subst hY; exact passNox) kf hcs
    subst hY
    refine ⟨_, body.nox, ?_⟩
    have hm : ∀ {np : Nat}, as.length = np → N.length - np = N.length - vs.length := fun {np} e => by
      have := en.len
      rw [List.length_map] at this
      omega
    unfold runF at h
    have pinE : F.pin = (ctxOf G Fs B N (defArgs st) (defBody st) (defScope st)).pin := by rw [hF]
    have bodyE : F.body = b := by rw [hF]
    have nE : F.n = N.length := by rw [hF]
    rw [← pinE]
    split at h
    · rename_i sl outs he
      obtain ⟨ho, q⟩ := h
      split at he
      · rename_i hn
        have hmm : F.n - F.np = N.length - vs.length := by rw [nE]; exact hm hn.1
        refine ⟨as ++ List.replicate (F.n - F.np) FJ.Slot.un, (env_ext N (F.n - F.np) hmm en).1, ?_⟩
        rw [bodyE] at he
        show Wp (denSs (fun_ Pg M k) M b _) _
        cases hd : denSs (fun_ Pg M k) M b (as ++ List.replicate (F.n - F.np) .un) with
        | exc c x => rw [hd] at he; cases he
        | stuck => rw [hd] at he; cases he
        | ok fl r' =>
          rw [hd] at he
          have fin : ∀ {σ' : St} {H' : Hp}, SStp P w K F.pin (start N vs) (as ++ List.replicate (F.n - F.np) .un) H σ' r' H' → ∀ u v s, outs = r'.take F.np → s = sl → ValR P w K H' σ' r' u v → New H u v → retSlot F.np r' v = some s → Q u H' := fun {σ' H'} T u v s eo es hv hnw hrs => by
            obtain ⟨k1, k2, k3, k4⟩ := ret_ok hmm en hn.1 hn.2 T
            subst eo es
            exact q u H' k2 k3 (k4 u v _ hv hnw hrs)
          cases fl with
          | ret v =>
            show ∀ σ' H' u, _ → _ → _ → Q u H'
            intro σ' H' u T hv hnw
            have he : (match retSlot F.np r' v with
              | some s => Res.ok s (r'.take F.np)
              | none => .stuck) = .ok sl outs := he
            cases hrs : retSlot F.np r' v with
            | none => rw [hrs] at he; cases he
            | some s =>
              rw [hrs] at he
              cases he
              exact fin T u v _ rfl rfl hv hnw hrs
          | next =>
            show ∀ σ' H', _ → Q .non H'
            intro σ' H' T
            cases he
            exact fin T .non (.d .none) _ rfl rfl (.d .non) New.d rfl
          | brk => cases he
          | cont => cases he
      · cases he
    · exact h.elim
theorem f_step {Pg : Prog} {G : List (Str × PyData)} {Fs B : List Str} {M k : Nat} (L : LawFacts P w K mg base Pg G Fs B) (ih : ∀ f, Fs.contains f = true → FOk P w K mg base (fun_ Pg M k) k f) : ∀ f, Fs.contains f = true → FOk P w K mg base (fun_ Pg M (k + 1)) (k + 1) f := by
  intro f hf
  obtain ⟨qual, st, fd, F, N, fu, hb, hmg, hPg, hc⟩ := L.fn f hf
  exact ⟨fd, paramsOf (defArgs st), f_one L ih fu hPg hc, hb⟩
theorem f_all {Pg : Prog} {G : List (Str × PyData)} {Fs B : List Str} {M : Nat} (L : LawFacts P w K mg base Pg G Fs B) : ∀ k f, Fs.contains f = true → FOk P w K mg base (fun_ Pg M k) k f
  | 0 => fun f hf => by
    obtain ⟨qual, st, fd, F, N, fu, hb, _⟩ := L.fn f hf
    exact f_zero hb
  | k + 1 => f_step L (f_all L k)
end
end FJ

set_option Elab.async false
set_option linter.all false
set_option autoImplicit false
set_option maxRecDepth 100000
set_option maxHeartbeats 0
/-! Ev7b: the head's facts: defs, constants. -/
namespace FJ
open PySem PySem.Spec L2
open PyProof.Rows hiding St

mutual
/-- the value u of the module is the datum d -/
def cstB (K : PySem.W.Frag) : PyData → Value → Bool
  | .none, .none => true
  | .bool b, .bool c => b == c
  | .int i, .int j _ => decide (i = j)
  | .str x, .str y _ => decide (x = y) && PyData.strOk x
  | .tuple ds, .ref a => match K.lookup a with
    | some ⟨.type c, none, .seq its _, _⟩ => decide (c = "tuple") && decide (its.size ≤ sizeLine) && cstBs K ds its.toList
    | _ => false
  | _, _ => false
def cstBs (K : PySem.W.Frag) : List PyData → List Value → Bool
  | [], [] => true
  | d :: ds, u :: us => cstB K d u && cstBs K ds us
  | _, _ => false
end
section
variable {P : Program} {w : World} {K : PySem.W.Frag}
mutual
theorem cst_ok : ∀ (d : PyData) (u : Value), cstB K d u = true → ∃ v, RelV v u ∧ ∀ H, RepF P w K H v d
  | .none, u, h => by
    cases u with
    | none => exact ⟨.non, rfl, fun H => .non⟩
    | _ => simp [cstB] at h
  | .bool b, u, h => by
    cases u with
    | bool c =>
      rw [cstB] at h
      have : b = c := by simpa using h
      subst this
      exact ⟨.bl b, rfl, fun H => .bl b⟩
    | _ => simp [cstB] at h
  | .int i, u, h => by
    cases u with
    | int j t =>
      rw [cstB, decide_eq_true_eq] at h
      subst h
      exact ⟨.int i, ⟨t, rfl⟩, fun H => .int i⟩
    | _ => simp [cstB] at h
  | .str x, u, h => by
    cases u with
    | str y t =>
      rw [cstB, Bool.and_eq_true, decide_eq_true_eq] at h
      obtain ⟨rfl, hs⟩ := h
      exact ⟨.str x, ⟨t, rfl⟩, fun H => .str x hs⟩
    | _ => simp [cstB] at h
  | .tuple ds, u, h => by
    cases u with
    | ref a =>
      rw [cstB] at h
      split at h
      · rename_i c its n sl hl
        rw [Bool.and_eq_true, Bool.and_eq_true, decide_eq_true_eq, decide_eq_true_eq] at h
        obtain ⟨⟨rfl, hz⟩, hs⟩ := h
        obtain ⟨vs, hv, hr⟩ := csts_ok ds its.toList hs
        exact ⟨.ref a, rfl, fun H => .tup (.inr ⟨_, its, n, hl, rfl, rfl, rfl, hz, hv⟩) (hr H)⟩
      · cases h
    | _ => simp [cstB] at h
  | .list _, u, h => by cases u <;> simp [cstB] at h
  | .dict _, u, h => by cases u <;> simp [cstB] at h
theorem csts_ok : ∀ (ds : List PyData) (us : List Value), cstBs K ds us = true → ∃ vs, Vals vs us ∧ ∀ H, RepFs P w K H vs ds
  | [], [], _ => ⟨[], .nil, fun H => .nil⟩
  | d :: ds, u :: us, h => by
    rw [cstBs, Bool.and_eq_true] at h
    obtain ⟨v, h1, h2⟩ := cst_ok d u h.1
    obtain ⟨vs, h3, h4⟩ := csts_ok ds us h.2
    exact ⟨v :: vs, .cons h1 h3, fun H => .cons (h2 H) (h4 H)⟩
  | [], _ :: _, h => by simp [cstBs] at h
  | _ :: _, [], h => by simp [cstBs] at h
end
end
/-! ### the hook: defs, free names, constants -/
/-- the module's name x is the datum d -/
def gloB (K : PySem.W.Frag) (p : Str × PyData) : Bool := match PySem.W.nsIn K mainGlobals p.1 with
  | some (some u) => cstB K p.2 u
  | _ => false
abbrev AlF : Type := Bool × He.AlD
def obsF (G : List (Str × PyData)) (fa : List He.Fa) (fn : List He.DefD) (K : PySem.W.Frag) : AlF := (G.all (gloB K), He.obsD fa fn K)
def SaysF (G : List (Str × PyData)) (fa : List He.Fa) (fn : List He.DefD) (K : PySem.W.Frag) : Prop := obsF G fa fn K = (true, He.valD fn)
def obsFG (n : Nat) (G : List (Str × PyData)) (fa : List He.Fa) (fn : List He.DefD) (g : Addr → Option Obj) : AlF := obsF G fa fn (He.frG g (He.asD g n))
def hookF (n : Nat) (G : List (Str × PyData)) (fa : List He.Fa) (fn : List He.DefD) : PySem.W.Hook where
  α := AlF
  obs := fun s => obsFG n G fa fn s.heap.get?
  val := fun _ => (true, He.valD fn)
  says := fun _ h => ∃ K : PySem.W.Frag, K.In h ∧ SaysF G fa fn K
  of := fun _ _ e => ⟨_, He.frG_in, e⟩
  keeps := fun _ _ _ ⟨K, hK, c⟩ k => ⟨K, PySem.W.Frag.In.keeps hK k, c⟩
theorem obsFG_eq {n : Nat} {G : List (Str × PyData)} {fa : List He.Fa} {fn : List He.DefD} {g : Addr → Option Obj} {s : Shared} (h : ∀ a, g a = s.heap.get? a) : obsFG n G fa fn g = (hookF n G fa fn).obs s := by
  have e : g = s.heap.get? := funext h
  rw [e] <;> rfl
section
variable {G : List (Str × PyData)} {fa : List He.Fa} {fn : List He.DefD} {K : PySem.W.Frag} {P : Program} {w : World} {h : Heap} {mg : Str → Option Value}
theorem SaysF.says (c : SaysF G fa fn K) : He.SaysD fa fn K := congrArg (fun z : AlF => z.2) c
theorem SaysF.glo (c : SaysF G fa fn K) (X : K.In h) (Gm : h.Ns mainGlobals mg) {x : Str} {d : PyData} (hx : G.lookup x = some d) : ∃ v u, mg x = some u ∧ RelV v u ∧ ∀ H, RepF P w K H v d := by
  have c1 : G.all (gloB K) = true := congrArg (fun z : AlF => z.1) c
  have := List.all_eq_true.mp c1 (x, d) (PySem.mem_of_lookup hx)
  unfold gloB at this
  cases q : PySem.W.nsIn K mainGlobals x with
  | none => simp [q] at this
  | some o =>
    cases o with
    | none => simp [q] at this
    | some u =>
      simp only [q] at this
      obtain ⟨v, h1, h2⟩ := cst_ok (P := P) (w := w) d u this
      exact ⟨v, u, PySem.W.mg_of X Gm q, h1, h2⟩
end
end FJ

set_option Elab.async false
set_option linter.all false
set_option autoImplicit false
set_option maxRecDepth 100000
set_option maxHeartbeats 0
/-! Ev7c: the law's end. -/
namespace FJ
open PySem PySem.Spec L2
open PyProof.Rows hiding St

section
variable {P : Program} {w : World} {K : PySem.W.Frag}
theorem script_env {H : Hp} {a : Addr} {ns : List Int} (hO : Only H) (hS : SqL K H a (ns.map V.int)) : EnvR P w K H ([V.ref a].map some) [.scr ns] := by
  have st : ∀ H', Later H H' → SqL K H' a (ns.map V.int) := fun H' l => by
    rcases hS with (h | ⟨o, h⟩) | h
    · rcases hO a with z | ⟨o, xs, z⟩
      · rw [h] at z; cases z
      · rw [h] at z; cases z
    · exact .inl (.inr ⟨o, l.frz a o _ h⟩)
    · exact .inr h
  have no : ∀ (i : Nat) b, ¬ Owns ([V.ref a].map some) [.scr ns] i b := fun i b ⟨⟨d, h1⟩, _⟩ => by
    cases i with
    | zero => cases h1
    | succ i => simp at h1
  refine ⟨rfl, fun i s h n => ?_, fun i j b hi _ => (no i b hi).elim⟩
  cases i with
  | zero => cases h; exact ⟨.ref a, rfl, .scr st⟩
  | succ i => simp at h
/-- the law answers True -/
theorem law_sp {Pg : Prog} {M k : Nat} {f : Str} {H : Hp} {a : Addr} {ns : List Int} {outs : List FJ.Slot} {E : XK} (hO : Only H) (hS : SqL K H a (ns.map V.int)) (h : fun_ Pg M k f [.scr ns] = .ok (.fz (.bool true)) outs) (hl : outs.length = 1) :
    spF P w K (fun_ Pg M k) f [.ref a] H (fun v _ => v = .bl true) E := by
  refine ⟨[.scr ns], script_env hO hS, ?_⟩
  rw [h]
  refine ⟨hl, fun u H' _ _ r => ?_⟩
  cases r with
  | fz q => cases q; rfl
end
end FJ

set_option Elab.async false
set_option linter.all false
set_option autoImplicit false
set_option maxRecDepth 100000
namespace FJ.K15
open PySem FJ
def w (s : String) : Str := Str.ofString s
def p_is_whole : IF := ⟨3, 3, [0, 1, 2], (.cons (.ite (.or (.not (.isi .int (.pk 0))) (.or (.isi .bool (.pk 0)) (.cmp .lt (.pk 0) (.pk 1)))) (.cons (.ret (.cst (.bool false))) .nil) .nil) (.cons (.ret (.or (.cmp .is (.pk 2) (.cst .none)) (.cmp .le (.pk 0) (.pk 2)))) .nil))⟩
def p_is_word : IF := ⟨2, 2, [0, 1], (.cons (.ret (.and (.isi .str (.pk 0)) (.cmp .isin (.pk 0) (.pk 1)))) .nil)⟩
def p_are_words : IF := ⟨5, 4, [0, 1, 2, 3], (.cons (.ret (.and (.isi .tuple (.pk 0)) (.and (.chn .le .le (.pk 1) (.b1 .len (.pk 0)) (.pk 2)) (.b1 .all (.lc [4] (.fz (.call (w "is_word") (.cons (.pk 4) (.cons (.pk 3) .nil)))) (.one (.nm 4) (.val (.loc 0)) .nil)))))) .nil)⟩
def p_is_kind : IF := ⟨1, 1, [0], (.cons (.ret (.call (w "are_words") (.cons (.pk 0) (.cons (.cst (.int 1)) (.cons (.cst (.int 5)) (.cons (.cst (.tuple [ (.str (w "group")) , (.str (w "front")) , (.str (w "read")) , (.str (w "write")) , (.str (w "raw")) , (.str (w "plain")) , (.str (w "hold")) , (.str (w "again")) ])) .nil)))))) .nil)⟩
def p_is_script : IF := ⟨1, 1, [0], (.cons (.ret (.call (w "are_words") (.cons (.pk 0) (.cons (.cst (.int 0)) (.cons (.cst (.int 6)) (.cons (.cst (.tuple [ (.str (w "group")) , (.str (w "give")) , (.str (w "go")) , (.str (w "wait")) , (.str (w "listen")) , (.str (w "take")) , (.str (w "plain")) ])) .nil)))))) .nil)⟩
def p_are_rules : IF := ⟨2, 1, [0], (.cons (.ite (.or (.not (.isi .tuple (.pk 0))) (.cmp .ne (.b1 .len (.pk 0)) (.cst (.int 3)))) (.cons (.ret (.cst (.bool false))) .nil) .nil) (.cons (.ret (.and (.call (w "is_word") (.cons (.item (.pk 0) (.cst (.int 0))) (.cons (.tup (.cons (.cst (.str (w "stop"))) (.cons (.cst (.str (w "fail"))) (.cons (.cst (.str (w "wait"))) .nil)))) .nil))) (.b1 .all (.lc [1] (.fz (.call (w "is_word") (.cons (.pk 1) (.cons (.tup (.cons (.cst (.str (w "go"))) (.cons (.cst (.str (w "stop"))) .nil))) .nil)))) (.one (.nm 1) (.val (.fz (.slc (.pk 0) (.some (.cst (.int 1))) .none))) .nil))))) .nil))⟩
def p_first_other : IF := ⟨5, 2, [0, 1], (.cons (.asg (.nm 2) (.lc [3, 4] (.loc 3) (.one (.tp (.cons (.nm 3) (.cons (.nm 4) .nil))) (.enum (.loc 0)) (.cons (.not (.callv 1 (.cons (.pk 4) .nil))) .nil)))) (.cons (.ret (.ife (.cmp .ne (.pk 2) (.lst .nil)) (.item (.pk 2) (.cst (.int 0))) (.cst .none))) .nil))⟩
def p_row_fault : IF := ⟨6, 5, [0, 1, 2, 3, 4], (.cons (.ite (.or (.not (.isi .tuple (.pk 0))) (.not (.chn .le .le (.pk 1) (.b1 .len (.pk 0)) (.pk 2)))) (.cons (.ret (.tup (.cons (.loc 4) .nil))) .nil) .nil) (.cons (.asg (.nm 5) (.call (w "first_other") (.cons (.pk 0) (.cons (.pk 3) .nil)))) (.cons (.ret (.ife (.cmp .is (.pk 5) (.cst .none)) (.cst .none) (.tup (.cons (.loc 4) (.cons (.loc 5) .nil))))) .nil)))⟩
def p_setup_fault : IF := ⟨2, 1, [0], (.cons (.ite (.or (.not (.isi .tuple (.pk 0))) (.cmp .ne (.b1 .len (.pk 0)) (.cst (.int 3)))) (.cons (.ret (.tup .nil)) .nil) .nil) (.cons (.asg (.nm 1) (.call (w "row_fault") (.cons (.item (.pk 0) (.cst (.int 0))) (.cons (.cst (.int 1)) (.cons (.cst (.int 3)) (.cons (.fnc (w "is_kind")) (.cons (.cst (.str (w "kinds"))) .nil))))))) (.cons (.ite (.cmp .isnot (.pk 1) (.cst .none)) (.cons (.ret (.pk 1)) .nil) .nil) (.cons (.ret (.ife (.call (w "are_rules") (.cons (.item (.pk 0) (.cst (.int 1))) .nil)) (.call (w "row_fault") (.cons (.item (.pk 0) (.cst (.int 2))) (.cons (.cst (.int 4)) (.cons (.cst (.int 4)) (.cons (.fnc (w "is_script")) (.cons (.cst (.str (w "shell"))) .nil)))))) (.tup (.cons (.cst (.str (w "rules"))) .nil)))) .nil))))⟩
def p_need_setup : IF := ⟨2, 1, [0], (.cons (.asg (.nm 1) (.call (w "setup_fault") (.cons (.pk 0) .nil))) (.cons (.ite (.cmp .isnot (.pk 1) (.cst .none)) (.cons (.raise (w "BadSetup") (.loc 1)) .nil) .nil) (.cons (.ret (.loc 0)) .nil)))⟩
def p_script_of : IF := ⟨2, 2, [0, 1], (.cons (.ret (.item (.item (.pk 0) (.cst (.int 2))) (.index (.cst (.tuple [ (.str (w "fore")) , (.str (w "back")) , (.str (w "front")) , (.str (w "behind")) ])) (.pk 1)))) .nil)⟩
def p_is_job : IF := ⟨8, 2, [0, 1], (.cons (.ite (.or (.not (.isi .tuple (.pk 1))) (.or (.cmp .ne (.b1 .len (.pk 1)) (.cst (.int 6))) (.not (.call (w "is_whole") (.cons (.item (.pk 1) (.cst (.int 0))) (.cons (.cst (.int 0)) (.cons (.bin .sub (.b1 .len (.item (.pk 0) (.cst (.int 0)))) (.cst (.int 1))) .nil))))))) (.cons (.ret (.cst (.bool false))) .nil) .nil) (.cons (.asg (.tp (.cons (.nm 2) (.cons (.nm 3) (.cons (.nm 4) (.cons (.nm 5) (.cons (.nm 6) (.cons (.nm 7) .nil))))))) (.loc 1)) (.cons (.ite (.or (.not (.call (w "is_whole") (.cons (.pk 3) (.cons (.cst (.int 0)) (.cons (.b1 .len (.item (.item (.pk 0) (.cst (.int 0))) (.pk 2))) .nil))))) (.or (.not (.isi .bool (.pk 4))) (.not (.isi .bool (.pk 7))))) (.cons (.ret (.cst (.bool false))) .nil) .nil) (.cons (.ite (.not (.call (w "is_word") (.cons (.pk 5) (.cons (.tup (.cons (.cst (.str (w "runs"))) (.cons (.cst (.str (w "stopped"))) (.cons (.cst (.str (w "ended"))) .nil)))) .nil)))) (.cons (.ret (.cst (.bool false))) .nil) .nil) (.cons (.ret (.call (w "is_word") (.cons (.pk 6) (.cons (.ife (.cmp .eq (.pk 5) (.cst (.str (w "ended")))) (.tup (.cons (.cst (.str (w "end"))) .nil)) (.tup (.cons (.cst (.str (w "stop"))) (.cons (.cst (.str (w "none"))) .nil)))) .nil)))) .nil)))))⟩
def p_are_jobs : IF := ⟨6, 3, [0, 1, 2], (.cons (.ite (.or (.not (.isi .tuple (.pk 2))) (.not (.b1 .all (.lc [3] (.and (.isi .tuple (.pk 3)) (.cmp .eq (.b1 .len (.pk 3)) (.cst (.int 2)))) (.one (.nm 3) (.val (.loc 2)) .nil))))) (.cons (.ret (.cst (.bool false))) .nil) .nil) (.cons (.ite (.not (.b1 .all (.lc [3] (.and (.call (w "is_whole") (.cons (.item (.pk 3) (.cst (.int 0))) (.cons (.cst (.int 0)) (.cons (.bin .sub (.pk 1) (.cst (.int 1))) .nil)))) (.call (w "is_job") (.cons (.pk 0) (.cons (.item (.pk 3) (.cst (.int 1))) .nil)))) (.one (.nm 3) (.val (.loc 2)) .nil)))) (.cons (.ret (.cst (.bool false))) .nil) .nil) (.cons (.ret (.b1 .all (.lc [4, 5] (.cmp .lt (.item (.pk 4) (.cst (.int 0))) (.item (.pk 5) (.cst (.int 0)))) (.one (.tp (.cons (.nm 4) (.cons (.nm 5) .nil))) (.zip (.loc 2) (.fz (.slc (.pk 2) (.some (.cst (.int 1))) .none))) .nil)))) .nil)))⟩
def p_find_job : IF := ⟨5, 2, [0, 1], (.cons (.asg (.nm 2) (.lc [3, 4] (.loc 4) (.one (.tp (.cons (.nm 3) (.cons (.nm 4) .nil))) (.val (.loc 0)) (.cons (.cmp .eq (.pk 3) (.pk 1)) .nil)))) (.cons (.ret (.ife (.cmp .ne (.pk 2) (.lst .nil)) (.item (.pk 2) (.cst (.int 0))) (.cst .none))) .nil))⟩
def p_can_be_front : IF := ⟨3, 2, [0, 1], (.cons (.ite (.call (w "is_word") (.cons (.pk 1) (.cons (.tup (.cons (.cst (.str (w "shell"))) (.cons (.cst (.str (w "nobody"))) .nil))) .nil))) (.cons (.ret (.cst (.bool true))) .nil) .nil) (.cons (.asg (.nm 2) (.ife (.call (w "is_whole") (.cons (.pk 1) (.cons (.cst (.int 0)) (.cons (.cst .none) .nil)))) (.call (w "find_job") (.cons (.pk 0) (.cons (.pk 1) .nil))) (.cst .none))) (.cons (.ret (.and (.cmp .isnot (.pk 2) (.cst .none)) (.and (.item (.pk 2) (.cst (.int 2))) (.cmp .ne (.item (.pk 2) (.cst (.int 3))) (.cst (.str (w "ended"))))))) .nil)))⟩
def p_can_be_hand : IF := ⟨3, 3, [0, 1, 2], (.cons (.ite (.call (w "is_whole") (.cons (.pk 2) (.cons (.cst (.int (-1))) (.cons (.cst (.int (-1))) .nil)))) (.cons (.ret (.cst (.bool true))) .nil) .nil) (.cons (.ret (.and (.cmp .ne (.pk 0) (.cst (.str (w "none")))) (.and (.call (w "is_whole") (.cons (.pk 2) (.cons (.cst (.int 0)) (.cons (.cst .none) .nil)))) (.cmp .isnot (.call (w "find_job") (.cons (.pk 1) (.cons (.pk 2) .nil))) (.cst .none))))) .nil))⟩
def p_is_place : IF := ⟨3, 3, [0, 1, 2], (.cons (.ret (.call (w "is_whole") (.cons (.pk 2) (.cons (.cst (.int 0)) (.cons (.ife (.cmp .eq (.pk 1) (.cst (.str (w "none")))) (.cst (.int 0)) (.bin .sub (.b1 .len (.call (w "script_of") (.cons (.pk 0) (.cons (.pk 1) .nil)))) (.cst (.int 1)))) .nil))))) .nil)⟩
def p_standing_fault : IF := ⟨9, 2, [0, 1], (.cons (.ite (.or (.not (.isi .tuple (.pk 1))) (.cmp .ne (.b1 .len (.pk 1)) (.cst (.int 7)))) (.cons (.ret (.tup .nil)) .nil) .nil) (.cons (.asg (.tp (.cons (.nm 2) (.cons (.nm 3) (.cons (.nm 4) (.cons (.nm 5) (.cons (.nm 6) (.cons (.nm 7) (.cons (.nm 8) .nil)))))))) (.loc 1)) (.cons (.ite (.not (.call (w "is_word") (.cons (.pk 2) (.cons (.bin .add (.tup (.cons (.cst (.str (w "none"))) .nil)) (.cst (.tuple [ (.str (w "fore")) , (.str (w "back")) , (.str (w "front")) , (.str (w "behind")) ]))) .nil)))) (.cons (.ret (.tup (.cons (.cst (.str (w "script"))) .nil))) .nil) .nil) (.cons (.ite (.not (.call (w "is_place") (.cons (.pk 0) (.cons (.pk 2) (.cons (.pk 3) .nil))))) (.cons (.ret (.tup (.cons (.cst (.str (w "place"))) .nil))) .nil) .nil) (.cons (.ite (.not (.call (w "is_word") (.cons (.pk 5) (.cons (.tup (.cons (.cst (.str (w "plain"))) (.cons (.cst (.str (w "raw"))) .nil))) .nil)))) (.cons (.ret (.tup (.cons (.cst (.str (w "mode"))) .nil))) .nil) .nil) (.cons (.ite (.not (.call (w "is_whole") (.cons (.pk 7) (.cons (.cst (.int 0)) (.cons (.cst .none) .nil))))) (.cons (.ret (.tup (.cons (.cst (.str (w "made"))) .nil))) .nil) .nil) (.cons (.ite (.not (.call (w "are_jobs") (.cons (.pk 0) (.cons (.pk 7) (.cons (.pk 8) .nil))))) (.cons (.ret (.tup (.cons (.cst (.str (w "jobs"))) .nil))) .nil) .nil) (.cons (.ite (.not (.call (w "can_be_front") (.cons (.pk 8) (.cons (.pk 4) .nil)))) (.cons (.ret (.tup (.cons (.cst (.str (w "front"))) .nil))) .nil) .nil) (.cons (.ret (.ife (.call (w "can_be_hand") (.cons (.pk 2) (.cons (.pk 8) (.cons (.pk 6) .nil)))) (.cst .none) (.tup (.cons (.cst (.str (w "hand"))) .nil)))) .nil)))))))))⟩
def p_need_standing : IF := ⟨3, 2, [0, 1], (.cons (.ex (.call (w "need_setup") (.cons (.pk 0) .nil))) (.cons (.asg (.nm 2) (.call (w "standing_fault") (.cons (.pk 0) (.cons (.pk 1) .nil)))) (.cons (.ite (.cmp .isnot (.pk 2) (.cst .none)) (.cons (.raise (w "BadStanding") (.loc 2)) .nil) .nil) (.cons (.ret (.loc 1)) .nil))))⟩
def p_role_of : IF := ⟨4, 2, [0, 1], (.cons (.par [2, 3] (.cons (.cmp .eq (.item (.pk 0) (.cst (.int 4))) (.pk 1)) (.cons (.cmp .eq (.item (.pk 0) (.cst (.int 2))) (.pk 1)) .nil))) (.cons (.ite (.and (.pk 2) (.pk 3)) (.cons (.ret (.cst (.str (w "both")))) .nil) .nil) (.cons (.ite (.pk 2) (.cons (.ret (.cst (.str (w "hand")))) .nil) .nil) (.cons (.ret (.ife (.pk 3) (.cst (.str (w "front"))) (.cst (.str (w "none"))))) .nil))))⟩
def p_parted : IF := ⟨7, 1, [0], (.cons (.asg (.nm 1) (.lc [2, 3] (.tup (.cons (.loc 3) (.cons (.fz (.call (w "role_of") (.cons (.pk 0) (.cons (.pk 2) .nil)))) .nil))) (.one (.tp (.cons (.nm 2) (.cons (.nm 3) .nil))) (.val (.item (.pk 0) (.cst (.int 6)))) .nil))) (.cons (.asg (.nm 4) (.ife (.cmp .isin (.item (.pk 0) (.cst (.int 2))) (.tup (.cons (.cst (.str (w "shell"))) (.cons (.cst (.str (w "nobody"))) .nil)))) (.item (.pk 0) (.cst (.int 2))) (.cst (.str (w "job"))))) (.cons (.asg (.nm 5) (.bin .add (.slc (.pk 0) .none (.some (.cst (.int 2)))) (.tup (.cons (.loc 4) (.cons (.item (.pk 0) (.cst (.int 3))) (.star (.fz (.b1 .sorted (.lc [6] (.loc 6) (.one (.nm 6) (.val (.loc 1)) (.cons (.cmp .ne (.item (.pk 6) (.cst (.int 1))) (.cst (.str (w "none")))) .nil))))) .nil)))))) (.cons (.ret (.tup (.cons (.loc 5) (.cons (.b1 .tuple (.lc [6] (.loc 6) (.one (.nm 6) (.val (.loc 1)) (.cons (.cmp .eq (.item (.pk 6) (.cst (.int 1))) (.cst (.str (w "none")))) .nil)))) .nil)))) .nil))))⟩
def p_key_of : IF := ⟨3, 1, [0], (.cons (.ret (.bin .add (.slc (.pk 0) .none (.some (.cst (.int 4)))) (.b1 .tuple (.lc [1, 2] (.loc 1) (.one (.tp (.cons (.nm 1) (.cons (.nm 2) .nil))) (.val (.item (.pk 0) (.cst (.int 4)))) (.cons (.cmp .ne (.item (.pk 1) (.cst (.int 1))) (.cst (.str (w "none")))) .nil)))))) .nil)⟩
def p_free_of : IF := ⟨3, 1, [0], (.cons (.ret (.dc [1, 2] (.loc 1) (.loc 2) (.one (.tp (.cons (.nm 1) (.cons (.nm 2) .nil))) (.val (.item (.pk 0) (.cst (.int 4)))) (.cons (.cmp .eq (.item (.pk 1) (.cst (.int 1))) (.cst (.str (w "none")))) .nil)))) .nil)⟩
def p_told_row : IF := ⟨4, 2, [0, 1], (.cons (.asg (.nm 2) (.bin .add (.lc [3] (.tup (.cons (.loc 3) (.cons (.cst (.int 1)) .nil))) (.one (.nm 3) (.val (.fz (.slc (.pk 0) (.some (.cst (.int 4))) .none))) .nil)) (.lc [3] (.tup (.cons (.loc 3) (.cons (.item (.pk 1) (.pk 3)) .nil))) (.one (.nm 3) (.val (.loc 1)) .nil)))) (.cons (.ret (.bin .add (.slc (.pk 0) .none (.some (.cst (.int 4)))) (.tup (.cons (.b1 .tuple (.b1 .sorted (.pk 2))) .nil)))) .nil))⟩
def b_with_more : ISs := (.cons (.ite (.cmp .ne (.get (.pk 2) (.pk 3) (.cst (.int 1))) (.cst (.int 0))) (.cons (.put 2 (.loc 3) (.fz (.bin .add (.get (.pk 2) (.pk 3) (.cst (.int 0))) (.cst (.int 1))))) .nil) .nil) .nil)
def p_with_more : IF := ⟨4, 2, [0, 1], (.cons (.asg (.nm 2) (.b1 .dict (.pk 0))) (.cons (.for (.nm 3) (.val (.loc 1)) b_with_more) (.cons (.ret (.pk 2)) .nil)))⟩
def p_row_in : IF := ⟨3, 1, [0], (.cons (.asg (.tp (.cons (.nm 1) (.cons (.nm 2) .nil))) (.fz (.call (w "parted") (.cons (.pk 0) .nil)))) (.cons (.ret (.call (w "told_row") (.cons (.pk 1) (.cons (.call (w "with_more") (.cons (.dsp .nil) (.cons (.pk 2) .nil))) .nil)))) .nil))⟩
def p_row_of : IF := ⟨2, 2, [0, 1], (.cons (.ret (.call (w "row_in") (.cons (.call (w "need_standing") (.cons (.pk 0) (.cons (.pk 1) .nil))) .nil))) .nil)⟩
def b_are_shapes : ISs := (.cons (.ite (.or (.not (.isi .tuple (.pk 2))) (.or (.cmp .ne (.b1 .len (.pk 2)) (.cst (.int 2))) (.not (.call (w "is_whole") (.cons (.item (.pk 2) (.cst (.int 1))) (.cons (.cst (.int 0)) (.cons (.cst .none) .nil))))))) (.cons (.ret (.cst (.bool false))) .nil) .nil) (.cons (.asg (.nm 3) (.item (.pk 2) (.cst (.int 0)))) (.cons (.ite (.or (.not (.isi .tuple (.pk 3))) (.or (.cmp .ne (.b1 .len (.pk 3)) (.cst (.int 2))) (.not (.call (w "is_job") (.cons (.pk 0) (.cons (.item (.pk 3) (.cst (.int 0))) .nil)))))) (.cons (.ret (.cst (.bool false))) .nil) .nil) (.cons (.ite (.or (.not (.call (w "is_word") (.cons (.item (.pk 3) (.cst (.int 1))) (.cons (.cst (.tuple [ (.str (w "none")) , (.str (w "hand")) , (.str (w "front")) , (.str (w "both")) ])) .nil)))) (.and (.cmp .ne (.item (.pk 3) (.cst (.int 1))) (.cst (.str (w "none")))) (.cmp .ne (.item (.pk 2) (.cst (.int 1))) (.cst (.int 1))))) (.cons (.ret (.cst (.bool false))) .nil) .nil) .nil))))
def p_are_shapes : IF := ⟨6, 2, [0, 1], (.cons (.ite (.not (.isi .tuple (.pk 1))) (.cons (.ret (.cst (.bool false))) .nil) .nil) (.cons (.for (.nm 2) (.val (.loc 1)) b_are_shapes) (.cons (.ret (.b1 .all (.lc [4, 5] (.cmp .lt (.item (.pk 4) (.cst (.int 0))) (.item (.pk 5) (.cst (.int 0)))) (.one (.tp (.cons (.nm 4) (.cons (.nm 5) .nil))) (.zip (.loc 1) (.fz (.slc (.pk 1) (.some (.cst (.int 1))) .none))) .nil)))) .nil)))⟩
def p_have_roles : IF := ⟨8, 3, [0, 1, 2], (.cons (.asg (.nm 3) (.lc [5, 6, 4] (.loc 5) (.one (.tp (.cons (.tp (.cons (.nm 5) (.cons (.nm 6) .nil))) (.cons (.nm 4) .nil))) (.val (.loc 2)) (.cons (.cmp .isin (.pk 6) (.tup (.cons (.cst (.str (w "front"))) (.cons (.cst (.str (w "both"))) .nil)))) .nil)))) (.cons (.asg (.nm 7) (.lc [5, 6, 4] (.loc 5) (.one (.tp (.cons (.tp (.cons (.nm 5) (.cons (.nm 6) .nil))) (.cons (.nm 4) .nil))) (.val (.loc 2)) (.cons (.cmp .isin (.pk 6) (.tup (.cons (.cst (.str (w "hand"))) (.cons (.cst (.str (w "both"))) .nil)))) .nil)))) (.cons (.ite (.or (.cmp .ne (.b1 .len (.pk 3)) (.b1 .int (.cmp .eq (.pk 1) (.cst (.str (w "job")))))) (.cmp .gt (.b1 .len (.pk 7)) (.b1 .int (.cmp .ne (.pk 0) (.cst (.str (w "none"))))))) (.cons (.ret (.cst (.bool false))) .nil) .nil) (.cons (.ret (.b1 .all (.lc [5] (.and (.item (.pk 5) (.cst (.int 2))) (.cmp .ne (.item (.pk 5) (.cst (.int 3))) (.cst (.str (w "ended"))))) (.one (.nm 5) (.val (.loc 3)) .nil)))) .nil))))⟩
def p_is_row_in : IF := ⟨7, 2, [0, 1], (.cons (.ite (.or (.not (.isi .tuple (.pk 1))) (.or (.cmp .ne (.b1 .len (.pk 1)) (.cst (.int 5))) (.not (.call (w "is_word") (.cons (.item (.pk 1) (.cst (.int 0))) (.cons (.bin .add (.tup (.cons (.cst (.str (w "none"))) .nil)) (.cst (.tuple [ (.str (w "fore")) , (.str (w "back")) , (.str (w "front")) , (.str (w "behind")) ]))) .nil)))))) (.cons (.ret (.cst (.bool false))) .nil) .nil) (.cons (.asg (.tp (.cons (.nm 2) (.cons (.nm 3) (.cons (.nm 4) (.cons (.nm 5) (.cons (.nm 6) .nil)))))) (.loc 1)) (.cons (.ite (.or (.not (.call (w "is_place") (.cons (.pk 0) (.cons (.pk 2) (.cons (.pk 3) .nil))))) (.not (.call (w "is_word") (.cons (.pk 4) (.cons (.tup (.cons (.cst (.str (w "shell"))) (.cons (.cst (.str (w "job"))) (.cons (.cst (.str (w "nobody"))) .nil)))) .nil))))) (.cons (.ret (.cst (.bool false))) .nil) .nil) (.cons (.ite (.or (.not (.call (w "is_word") (.cons (.pk 5) (.cons (.tup (.cons (.cst (.str (w "plain"))) (.cons (.cst (.str (w "raw"))) .nil))) .nil)))) (.not (.call (w "are_shapes") (.cons (.pk 0) (.cons (.pk 6) .nil))))) (.cons (.ret (.cst (.bool false))) .nil) .nil) (.cons (.ret (.call (w "have_roles") (.cons (.pk 2) (.cons (.pk 4) (.cons (.pk 6) .nil))))) .nil)))))⟩
def p_need_row : IF := ⟨2, 2, [0, 1], (.cons (.ite (.not (.call (w "is_row_in") (.cons (.call (w "need_setup") (.cons (.pk 0) .nil)) (.cons (.pk 1) .nil)))) (.cons (.raise (w "BadRow") (.tup .nil)) .nil) .nil) (.cons (.ret (.loc 1)) .nil))⟩
def b_are_within : ISs := (.cons (.asg (.nm 4) (.get (.pk 1) (.pk 2) (.cst .none))) (.cons (.ite (.or (.cmp .is (.pk 4) (.cst .none)) (.and (.cmp .ne (.pk 4) (.cst (.int 0))) (.or (.cmp .eq (.pk 3) (.cst (.int 0))) (.cmp .gt (.pk 3) (.pk 4))))) (.cons (.ret (.cst (.bool false))) .nil) .nil) .nil))
def p_are_within : IF := ⟨5, 2, [0, 1], (.cons (.for (.tp (.cons (.nm 2) (.cons (.nm 3) .nil))) (.items (.loc 0)) b_are_within) (.cons (.ret (.cst (.bool true))) .nil))⟩
def p_is_below : IF := ⟨2, 2, [0, 1], (.cons (.ret (.and (.cmp .eq (.call (w "key_of") (.cons (.pk 0) .nil)) (.call (w "key_of") (.cons (.pk 1) .nil))) (.call (w "are_within") (.cons (.call (w "free_of") (.cons (.pk 0) .nil)) (.cons (.call (w "free_of") (.cons (.pk 1) .nil)) .nil))))) .nil)⟩
def p_covers : IF := ⟨3, 3, [0, 1, 2], (.cons (.ex (.call (w "need_row") (.cons (.pk 0) (.cons (.pk 1) .nil)))) (.cons (.ret (.call (w "is_below") (.cons (.call (w "row_of") (.cons (.pk 0) (.cons (.pk 2) .nil))) (.cons (.pk 1) .nil)))) .nil))⟩
def p_is_under : IF := ⟨3, 3, [0, 1, 2], (.cons (.ex (.call (w "need_row") (.cons (.pk 0) (.cons (.pk 1) .nil)))) (.cons (.ret (.call (w "is_below") (.cons (.pk 1) (.cons (.call (w "need_row") (.cons (.pk 0) (.cons (.pk 2) .nil))) .nil)))) .nil))⟩
def b__law_begun : ISs := (.cons (.asg (.nm 1) (.bin .mod (.b1 .int (.bin .add (.bin .add (.bin .mul (.pk 1) (.cst (.int 69621))) (.bin .mod (.b1 .int (.pk 2)) (.cst (.int 2147483629)))) (.cst (.int 7)))) (.cst (.int 2147483647)))) .nil)
def p__law_begun : IF := ⟨3, 1, [0], (.cons (.asg (.nm 1) (.cst (.int 11))) (.cons (.for (.nm 2) (.val (.loc 0)) b__law_begun) (.cons (.ret (.dsp (.cons (.cst (.str (w "great"))) (.cons (.fz (.lc [2] (.loc 2) (.one (.nm 2) (.val (.loc 0)) (.cons (.cmp .ge (.pk 2) (.bin .pow (.cst (.int 10)) (.cst (.int 18)))) .nil)))) (.cons (.cst (.str (w "seed"))) (.cons (.loc 1) (.cons (.cst (.str (w "turns"))) (.cons (.cst (.int 0)) .nil)))))))) .nil)))⟩
def b__law_draw : ISs := (.cons (.put 0 (.cst (.str (w "great"))) (.fz (.slc (.item (.pk 0) (.cst (.str (w "great")))) (.some (.cst (.int 1))) .none))) .nil)
def wc__law_draw : IE := (.and (.cmp .ne (.item (.pk 0) (.cst (.str (w "great")))) (.lst .nil)) (.cmp .eq (.item (.item (.pk 0) (.cst (.str (w "great")))) (.cst (.int 0))) (.cst (.int 0))))
def p__law_draw : IF := ⟨4, 2, [0, 1], (.cons (.while wc__law_draw b__law_draw) (.cons (.ite (.cmp .ne (.item (.pk 0) (.cst (.str (w "great")))) (.lst .nil)) (.cons (.asg (.nm 2) (.item (.item (.pk 0) (.cst (.str (w "great")))) (.cst (.int 0)))) (.cons (.put 0 (.cst (.str (w "great"))) (.fz (.bin .add (.lst (.cons (.bin .fdiv (.pk 2) (.pk 1)) .nil)) (.slc (.item (.pk 0) (.cst (.str (w "great")))) (.some (.cst (.int 1))) .none)))) (.cons (.ret (.bin .mod (.b1 .int (.pk 2)) (.pk 1))) .nil))) .nil) (.cons (.put 0 (.cst (.str (w "turns"))) (.fz (.bin .add (.item (.pk 0) (.cst (.str (w "turns")))) (.cst (.int 1))))) (.cons (.asg (.nm 3) (.bin .mod (.b1 .int (.bin .add (.bin .add (.bin .mul (.item (.pk 0) (.cst (.str (w "seed")))) (.cst (.int 48271))) (.bin .mul (.bin .mul (.item (.pk 0) (.cst (.str (w "turns")))) (.item (.pk 0) (.cst (.str (w "turns"))))) (.cst (.int 16807)))) (.item (.pk 0) (.cst (.str (w "turns")))))) (.cst (.int 2147483647)))) (.cons (.asg (.nm 3) (.bin .mod (.b1 .int (.bin .add (.bin .mul (.pk 3) (.cst (.int 69621))) (.cst (.int 12345)))) (.cst (.int 2147483629)))) (.cons (.ret (.bin .mod (.bin .fdiv (.bin .mod (.b1 .int (.bin .add (.bin .mul (.pk 3) (.cst (.int 40014))) (.item (.pk 0) (.cst (.str (w "turns")))))) (.cst (.int 2147483563))) (.cst (.int 64))) (.pk 1))) .nil))))))⟩
def p__law_of : IF := ⟨2, 2, [0, 1], (.cons (.ret (.item (.pk 1) (.call (w "_law_draw") (.cons (.pk 0) (.cons (.b1 .len (.pk 1)) .nil))))) .nil)⟩
def c__law_some : IE := (.lc [4] (.fz (.call (w "_law_of") (.cons (.pk 0) (.cons (.pk 1) .nil)))) (.one (.nm 4) (.rng (.fz (.bin .add (.pk 2) (.call (w "_law_draw") (.cons (.pk 0) (.cons (.bin .add (.bin .sub (.pk 3) (.pk 2)) (.cst (.int 1))) .nil)))))) .nil))
def p__law_some : IF := ⟨5, 4, [0, 1, 2, 3], (.cons (.ret (.b1 .tuple c__law_some)) .nil)⟩
def c__law_setup : IE := (.lc [6] (.fz (.call (w "_law_some") (.cons (.pk 0) (.cons (.pk 4) (.cons (.cst (.int 1)) (.cons (.pk 2) .nil)))))) (.one (.nm 6) (.rng (.fz (.bin .add (.cst (.int 1)) (.call (w "_law_draw") (.cons (.pk 0) (.cons (.pk 1) .nil)))))) .nil))
def c__law_setup2 : IE := (.lc [6] (.fz (.call (w "_law_some") (.cons (.pk 0) (.cons (.pk 4) (.cons (.cst (.int 0)) (.cons (.pk 3) .nil)))))) (.one (.nm 6) (.rng (.cst (.int 4))) .nil))
def p__law_setup : IF := ⟨8, 4, [0, 1, 2, 3], (.cons (.asg (.nm 4) (.lst (.cons (.cst (.str (w "group"))) (.cons (.cst (.str (w "front"))) (.cons (.cst (.str (w "read"))) (.cons (.cst (.str (w "write"))) (.cons (.cst (.str (w "raw"))) (.cons (.cst (.str (w "plain"))) (.cons (.cst (.str (w "hold"))) (.cons (.cst (.str (w "again"))) .nil)))))))))) (.cons (.asg (.nm 5) (.b1 .tuple c__law_setup)) (.cons (.asg (.nm 7) (.tup (.cons (.fz (.call (w "_law_of") (.cons (.pk 0) (.cons (.lst (.cons (.cst (.str (w "stop"))) (.cons (.cst (.str (w "fail"))) (.cons (.cst (.str (w "wait"))) .nil)))) .nil)))) (.cons (.fz (.call (w "_law_of") (.cons (.pk 0) (.cons (.lst (.cons (.cst (.str (w "go"))) (.cons (.cst (.str (w "stop"))) .nil))) .nil)))) (.cons (.fz (.call (w "_law_of") (.cons (.pk 0) (.cons (.lst (.cons (.cst (.str (w "go"))) (.cons (.cst (.str (w "stop"))) .nil))) .nil)))) .nil))))) (.cons (.asg (.nm 4) (.lst (.cons (.cst (.str (w "group"))) (.cons (.cst (.str (w "give"))) (.cons (.cst (.str (w "go"))) (.cons (.cst (.str (w "wait"))) (.cons (.cst (.str (w "listen"))) (.cons (.cst (.str (w "take"))) (.cons (.cst (.str (w "plain"))) (.cons (.cst (.str (w "give"))) (.cons (.cst (.str (w "take"))) .nil))))))))))) (.cons (.ret (.tup (.cons (.loc 5) (.cons (.loc 7) (.cons (.b1 .tuple c__law_setup2) .nil))))) .nil)))))⟩
def p__law_script : IF := ⟨2, 2, [0, 1], (.cons (.ret (.item (.item (.pk 0) (.cst (.int 2))) (.index (.lst (.cons (.cst (.str (w "fore"))) (.cons (.cst (.str (w "back"))) (.cons (.cst (.str (w "front"))) (.cons (.cst (.str (w "behind"))) .nil))))) (.pk 1)))) .nil)⟩
def b__law_state : ISs := (.cons (.asg (.nm 5) (.call (w "_law_draw") (.cons (.pk 0) (.cons (.b1 .len (.item (.pk 1) (.cst (.int 0)))) .nil)))) (.cons (.asg (.nm 6) (.call (w "_law_of") (.cons (.pk 0) (.cons (.lst (.cons (.cst (.str (w "runs"))) (.cons (.cst (.str (w "runs"))) (.cons (.cst (.str (w "stopped"))) (.cons (.cst (.str (w "ended"))) .nil))))) .nil)))) (.cons (.asg (.nm 7) (.ife (.cmp .eq (.pk 6) (.cst (.str (w "ended")))) (.cst (.str (w "end"))) (.call (w "_law_of") (.cons (.pk 0) (.cons (.lst (.cons (.cst (.str (w "none"))) (.cons (.cst (.str (w "stop"))) .nil))) .nil))))) (.cons (.par [9, 10] (.cons (.cmp .eq (.call (w "_law_draw") (.cons (.pk 0) (.cons (.cst (.int 2)) .nil))) (.cst (.int 0))) (.cons (.cmp .eq (.call (w "_law_draw") (.cons (.pk 0) (.cons (.cst (.int 3)) .nil))) (.cst (.int 0))) .nil))) (.cons (.asg (.nm 8) (.tup (.cons (.loc 5) (.cons (.fz (.call (w "_law_draw") (.cons (.pk 0) (.cons (.bin .add (.b1 .len (.item (.item (.pk 1) (.cst (.int 0))) (.pk 5))) (.cst (.int 1))) .nil)))) (.cons (.loc 9) (.cons (.loc 6) (.cons (.loc 7) (.cons (.loc 10) .nil)))))))) (.cons (.asg (.nm 2) (.bin .add (.pk 2) (.bin .mul (.lst (.cons (.tup (.cons (.loc 4) (.cons (.loc 8) .nil))) .nil)) (.b1 .int (.cmp .gt (.call (w "_law_draw") (.cons (.pk 0) (.cons (.cst (.int 4)) .nil))) (.cst (.int 0))))))) .nil))))))
def p__law_state : IF := ⟨16, 2, [0, 1], (.cons (.par [2, 3] (.cons (.lst .nil) (.cons (.call (w "_law_draw") (.cons (.pk 0) (.cons (.cst (.int 5)) .nil))) .nil))) (.cons (.for (.nm 4) (.rng (.loc 3)) b__law_state) (.cons (.asg (.nm 11) (.call (w "_law_of") (.cons (.pk 0) (.cons (.bin .add (.lst (.cons (.cst (.str (w "none"))) .nil)) (.lc [12] (.loc 12) (.one (.nm 12) (.val (.tup (.cons (.cst (.str (w "fore"))) (.cons (.cst (.str (w "back"))) (.cons (.cst (.str (w "front"))) (.cons (.cst (.str (w "behind"))) .nil)))))) (.cons (.cmp .ne (.call (w "_law_script") (.cons (.pk 1) (.cons (.pk 12) .nil))) (.tup .nil)) .nil)))) .nil)))) (.cons (.asg (.nm 13) (.ife (.cmp .ne (.pk 11) (.cst (.str (w "none")))) (.call (w "_law_draw") (.cons (.pk 0) (.cons (.b1 .len (.call (w "_law_script") (.cons (.pk 1) (.cons (.pk 11) .nil)))) .nil))) (.cst (.int 0)))) (.cons (.asg (.nm 14) (.bin .add (.lst (.cons (.cst (.str (w "shell"))) (.cons (.cst (.str (w "nobody"))) .nil))) (.lc [4, 8] (.loc 4) (.one (.tp (.cons (.nm 4) (.cons (.nm 8) .nil))) (.val (.loc 2)) (.cons (.and (.item (.pk 8) (.cst (.int 2))) (.cmp .ne (.item (.pk 8) (.cst (.int 3))) (.cst (.str (w "ended"))))) .nil))))) (.cons (.asg (.nm 15) (.ife (.cmp .ne (.pk 11) (.cst (.str (w "none")))) (.call (w "_law_of") (.cons (.pk 0) (.cons (.bin .add (.lst (.cons (.neg (.cst (.int 1))) .nil)) (.bin .mul (.lc [4, 8] (.loc 4) (.one (.tp (.cons (.nm 4) (.cons (.nm 8) .nil))) (.val (.loc 2)) .nil)) (.cst (.int 2)))) .nil))) (.neg (.cst (.int 1))))) (.cons (.ret (.tup (.cons (.loc 11) (.cons (.loc 13) (.cons (.fz (.call (w "_law_of") (.cons (.pk 0) (.cons (.pk 14) .nil)))) (.cons (.fz (.call (w "_law_of") (.cons (.pk 0) (.cons (.lst (.cons (.cst (.str (w "plain"))) (.cons (.cst (.str (w "raw"))) .nil))) .nil)))) (.cons (.loc 15) (.cons (.fz (.bin .add (.pk 3) (.call (w "_law_draw") (.cons (.pk 0) (.cons (.cst (.int 2)) .nil))))) (.cons (.b1 .tuple (.pk 2)) .nil))))))))) .nil)))))))⟩
def p__law_is_whole : IF := ⟨3, 3, [0, 1, 2], (.cons (.ret (.and (.isi .int (.pk 0)) (.and (.not (.isi .bool (.pk 0))) (.chn .le .le (.pk 1) (.pk 0) (.pk 2))))) .nil)⟩
def p__law_is_word : IF := ⟨2, 2, [0, 1], (.cons (.ret (.and (.isi .str (.pk 0)) (.cmp .isin (.pk 0) (.pk 1)))) .nil)⟩
def p__law_is_job : IF := ⟨2, 2, [0, 1], (.cons (.ite (.or (.not (.isi .tuple (.pk 1))) (.or (.cmp .ne (.b1 .len (.pk 1)) (.cst (.int 6))) (.not (.call (w "_law_is_whole") (.cons (.item (.pk 1) (.cst (.int 0))) (.cons (.cst (.int 0)) (.cons (.bin .sub (.b1 .len (.item (.pk 0) (.cst (.int 0)))) (.cst (.int 1))) .nil))))))) (.cons (.ret (.cst (.bool false))) .nil) .nil) (.cons (.ite (.not (.call (w "_law_is_whole") (.cons (.item (.pk 1) (.cst (.int 1))) (.cons (.cst (.int 0)) (.cons (.b1 .len (.item (.item (.pk 0) (.cst (.int 0))) (.item (.pk 1) (.cst (.int 0))))) .nil))))) (.cons (.ret (.cst (.bool false))) .nil) .nil) (.cons (.ite (.or (.not (.isi .bool (.item (.pk 1) (.cst (.int 2))))) (.not (.isi .bool (.item (.pk 1) (.cst (.int 5)))))) (.cons (.ret (.cst (.bool false))) .nil) .nil) (.cons (.ite (.not (.call (w "_law_is_word") (.cons (.item (.pk 1) (.cst (.int 3))) (.cons (.tup (.cons (.cst (.str (w "runs"))) (.cons (.cst (.str (w "stopped"))) (.cons (.cst (.str (w "ended"))) .nil)))) .nil)))) (.cons (.ret (.cst (.bool false))) .nil) .nil) (.cons (.ret (.call (w "_law_is_word") (.cons (.item (.pk 1) (.cst (.int 4))) (.cons (.ife (.cmp .eq (.item (.pk 1) (.cst (.int 3))) (.cst (.str (w "ended")))) (.tup (.cons (.cst (.str (w "end"))) .nil)) (.tup (.cons (.cst (.str (w "none"))) (.cons (.cst (.str (w "stop"))) .nil)))) .nil)))) .nil)))))⟩
def p__law_role : IF := ⟨2, 2, [0, 1], (.cons (.ite (.cmp .eq (.item (.pk 0) (.cst (.int 4))) (.pk 1)) (.cons (.ret (.ife (.cmp .eq (.item (.pk 0) (.cst (.int 2))) (.pk 1)) (.cst (.str (w "both"))) (.cst (.str (w "hand"))))) .nil) .nil) (.cons (.ret (.ife (.cmp .eq (.item (.pk 0) (.cst (.int 2))) (.pk 1)) (.cst (.str (w "front"))) (.cst (.str (w "none"))))) .nil))⟩
def b__law_row : ISs := (.cons (.asg (.nm 3) (.tup (.cons (.loc 5) (.cons (.fz (.call (w "_law_role") (.cons (.pk 0) (.cons (.pk 4) .nil)))) .nil)))) (.cons (.put 2 (.loc 3) (.ife (.cmp .eq (.get (.pk 2) (.pk 3) (.cst (.int 1))) (.cst (.int 0))) (.cst (.int 0)) (.fz (.bin .add (.get (.pk 2) (.pk 3) (.cst (.int 0))) (.cst (.int 1)))))) .nil))
def p__law_row : IF := ⟨8, 2, [0, 1], (.cons (.asg (.nm 2) (.b1 .dict (.lc [3] (.tup (.cons (.loc 3) (.cons (.item (.pk 1) (.pk 3)) .nil))) (.one (.nm 3) (.val (.loc 1)) .nil)))) (.cons (.for (.tp (.cons (.nm 4) (.cons (.nm 5) .nil))) (.val (.item (.pk 0) (.cst (.int 6)))) b__law_row) (.cons (.asg (.nm 6) (.ife (.cmp .isin (.item (.pk 0) (.cst (.int 2))) (.tup (.cons (.cst (.str (w "shell"))) (.cons (.cst (.str (w "nobody"))) .nil)))) (.item (.pk 0) (.cst (.int 2))) (.cst (.str (w "job"))))) (.cons (.asg (.nm 7) (.lc [3] (.tup (.cons (.loc 3) (.cons (.item (.pk 2) (.pk 3)) .nil))) (.one (.nm 3) (.val (.loc 2)) .nil))) (.cons (.ret (.bin .add (.slc (.pk 0) .none (.some (.cst (.int 2)))) (.tup (.cons (.loc 6) (.cons (.item (.pk 0) (.cst (.int 3))) (.cons (.b1 .tuple (.b1 .sorted (.pk 7))) .nil)))))) .nil)))))⟩
def b__law_below : ISs := (.cons (.ite (.or (.cmp .notin (.pk 4) (.pk 3)) (.and (.cmp .ne (.item (.pk 3) (.pk 4)) (.cst (.int 0))) (.or (.cmp .eq (.item (.pk 2) (.pk 4)) (.cst (.int 0))) (.cmp .gt (.item (.pk 2) (.pk 4)) (.item (.pk 3) (.pk 4)))))) (.cons (.ret (.cst (.bool false))) .nil) .nil) .nil)
def p__law_below : IF := ⟨5, 2, [0, 1], (.cons (.ite (.cmp .ne (.slc (.pk 0) .none (.some (.cst (.int 4)))) (.slc (.pk 1) .none (.some (.cst (.int 4))))) (.cons (.ret (.cst (.bool false))) .nil) .nil) (.cons (.asg (.tp (.cons (.nm 2) (.cons (.nm 3) .nil))) (.tup (.cons (.fz (.b1 .dict (.item (.pk 0) (.cst (.int 4))))) (.cons (.fz (.b1 .dict (.item (.pk 1) (.cst (.int 4))))) .nil)))) (.cons (.for (.nm 4) (.val (.loc 2)) b__law_below) (.cons (.ret (.cmp .eq (.lc [4] (.loc 4) (.one (.nm 4) (.val (.loc 3)) (.cons (.and (.cmp .ne (.item (.pk 4) (.cst (.int 1))) (.cst (.str (w "none")))) (.cmp .notin (.pk 4) (.pk 2))) .nil))) (.lst .nil))) .nil))))⟩
def b__law_some_row : ISs := (.cons (.app 3 (.tup (.cons (.loc 4) (.cons (.ife (.cmp .ne (.item (.pk 4) (.cst (.int 1))) (.cst (.str (w "none")))) (.loc 5) (.fz (.call (w "_law_of") (.cons (.pk 0) (.cons (.lst (.cons (.cst (.int 0)) (.cons (.cst (.int 0)) (.cons (.cst (.int 1)) (.cons (.cst (.int 2)) (.cons (.cst (.int 12)) (.cons (.loc 5) .nil))))))) .nil))))) .nil)))) .nil)
def p__law_some_row : IF := ⟨6, 2, [0, 1], (.cons (.par [2, 3] (.cons (.call (w "_law_row") (.cons (.call (w "_law_state") (.cons (.pk 0) (.cons (.pk 1) .nil))) (.cons (.dsp .nil) .nil))) (.cons (.lst .nil) .nil))) (.cons (.for (.tp (.cons (.nm 4) (.cons (.nm 5) .nil))) (.val (.item (.pk 2) (.cst (.int 4)))) b__law_some_row) (.cons (.ret (.bin .add (.slc (.pk 2) .none (.some (.cst (.int 4)))) (.tup (.cons (.b1 .tuple (.pk 3)) .nil)))) .nil)))⟩
def p__law_is_row : IF := ⟨17, 2, [0, 1], (.cons (.ite (.or (.not (.isi .tuple (.pk 1))) (.cmp .ne (.b1 .len (.pk 1)) (.cst (.int 5)))) (.cons (.ret (.cst (.bool false))) .nil) .nil) (.cons (.asg (.tp (.cons (.nm 2) (.cons (.nm 3) (.cons (.nm 4) (.cons (.nm 5) (.cons (.nm 6) .nil)))))) (.loc 1)) (.cons (.ite (.not (.call (w "_law_is_word") (.cons (.pk 2) (.cons (.tup (.cons (.cst (.str (w "none"))) (.cons (.cst (.str (w "fore"))) (.cons (.cst (.str (w "back"))) (.cons (.cst (.str (w "front"))) (.cons (.cst (.str (w "behind"))) .nil)))))) .nil)))) (.cons (.ret (.cst (.bool false))) .nil) .nil) (.cons (.ite (.not (.call (w "_law_is_whole") (.cons (.pk 3) (.cons (.cst (.int 0)) (.cons (.ife (.cmp .eq (.pk 2) (.cst (.str (w "none")))) (.cst (.int 0)) (.bin .sub (.b1 .len (.call (w "_law_script") (.cons (.pk 0) (.cons (.pk 2) .nil)))) (.cst (.int 1)))) .nil))))) (.cons (.ret (.cst (.bool false))) .nil) .nil) (.cons (.ite (.or (.not (.call (w "_law_is_word") (.cons (.pk 4) (.cons (.tup (.cons (.cst (.str (w "shell"))) (.cons (.cst (.str (w "job"))) (.cons (.cst (.str (w "nobody"))) .nil)))) .nil)))) (.not (.call (w "_law_is_word") (.cons (.pk 5) (.cons (.tup (.cons (.cst (.str (w "plain"))) (.cons (.cst (.str (w "raw"))) .nil))) .nil))))) (.cons (.ret (.cst (.bool false))) .nil) .nil) (.cons (.ite (.or (.not (.isi .tuple (.pk 6))) (.cmp .ne (.lc [7] (.loc 7) (.one (.nm 7) (.val (.loc 6)) (.cons (.not (.call (w "_law_is_lot") (.cons (.pk 0) (.cons (.pk 7) .nil)))) .nil))) (.lst .nil))) (.cons (.ret (.cst (.bool false))) .nil) .nil) (.cons (.asg (.nm 8) (.lc [9, 10] (.loc 9) (.one (.tp (.cons (.nm 9) (.cons (.nm 10) .nil))) (.val (.loc 6)) .nil))) (.cons (.ite (.cmp .ne (.lc [11, 12] (.cst (.int 1)) (.one (.tp (.cons (.nm 11) (.cons (.nm 12) .nil))) (.zip (.loc 8) (.fz (.slc (.pk 8) (.some (.cst (.int 1))) .none))) (.cons (.not (.cmp .lt (.pk 11) (.pk 12))) .nil))) (.lst .nil)) (.cons (.ret (.cst (.bool false))) .nil) .nil) (.cons (.asg (.nm 13) (.lc [14, 15] (.loc 14) (.one (.tp (.cons (.nm 14) (.cons (.nm 15) .nil))) (.val (.loc 8)) (.cons (.cmp .isin (.pk 15) (.tup (.cons (.cst (.str (w "front"))) (.cons (.cst (.str (w "both"))) .nil)))) .nil)))) (.cons (.asg (.nm 16) (.lc [14, 15] (.loc 14) (.one (.tp (.cons (.nm 14) (.cons (.nm 15) .nil))) (.val (.loc 8)) (.cons (.cmp .isin (.pk 15) (.tup (.cons (.cst (.str (w "hand"))) (.cons (.cst (.str (w "both"))) .nil)))) .nil)))) (.cons (.ite (.or (.cmp .ne (.lc [14] (.loc 14) (.one (.nm 14) (.val (.loc 13)) (.cons (.or (.not (.item (.pk 14) (.cst (.int 2)))) (.cmp .eq (.item (.pk 14) (.cst (.int 3))) (.cst (.str (w "ended"))))) .nil))) (.lst .nil)) (.cmp .ne (.b1 .len (.pk 13)) (.b1 .int (.cmp .eq (.pk 4) (.cst (.str (w "job"))))))) (.cons (.ret (.cst (.bool false))) .nil) .nil) (.cons (.ret (.cmp .le (.b1 .len (.pk 16)) (.b1 .int (.cmp .ne (.pk 2) (.cst (.str (w "none"))))))) .nil))))))))))))⟩
def p__law_is_lot : IF := ⟨3, 2, [0, 1], (.cons (.ite (.or (.not (.isi .tuple (.pk 1))) (.or (.cmp .ne (.b1 .len (.pk 1)) (.cst (.int 2))) (.not (.call (w "_law_is_whole") (.cons (.item (.pk 1) (.cst (.int 1))) (.cons (.cst (.int 0)) (.cons (.bin .pow (.cst (.int 10)) (.cst (.int 40))) .nil))))))) (.cons (.ret (.cst (.bool false))) .nil) .nil) (.cons (.asg (.nm 2) (.item (.pk 1) (.cst (.int 0)))) (.cons (.ite (.or (.not (.isi .tuple (.pk 2))) (.or (.cmp .ne (.b1 .len (.pk 2)) (.cst (.int 2))) (.not (.call (w "_law_is_job") (.cons (.pk 0) (.cons (.item (.pk 2) (.cst (.int 0))) .nil)))))) (.cons (.ret (.cst (.bool false))) .nil) .nil) (.cons (.ret (.and (.call (w "_law_is_word") (.cons (.item (.pk 2) (.cst (.int 1))) (.cons (.tup (.cons (.cst (.str (w "none"))) (.cons (.cst (.str (w "hand"))) (.cons (.cst (.str (w "front"))) (.cons (.cst (.str (w "both"))) .nil))))) .nil))) (.or (.cmp .eq (.item (.pk 2) (.cst (.int 1))) (.cst (.str (w "none")))) (.cmp .eq (.item (.pk 1) (.cst (.int 1))) (.cst (.int 1)))))) .nil))))⟩
def b__law_full : ISs := (.cons (.app 4 (.tup (.cons (.b1 .len (.pk 4)) (.cons (.item (.pk 5) (.cst (.int 0))) .nil)))) .nil)
def b__law_full2 : ISs := (.cons (.ite (.cmp .isin (.item (.pk 5) (.cst (.int 1))) (.tup (.cons (.cst (.str (w "front"))) (.cons (.cst (.str (w "both"))) .nil)))) (.cons (.asg (.nm 2) (.b1 .len (.pk 4))) .nil) .nil) (.cons (.ite (.cmp .isin (.item (.pk 5) (.cst (.int 1))) (.tup (.cons (.cst (.str (w "hand"))) (.cons (.cst (.str (w "both"))) .nil)))) (.cons (.asg (.nm 3) (.b1 .len (.pk 4))) .nil) .nil) (.cons (.for (.nm 7) (.rng (.ife (.cmp .gt (.pk 6) (.cst (.int 0))) (.loc 6) (.loc 1))) b__law_full) .nil)))
def p__law_full : IF := ⟨8, 2, [0, 1], (.cons (.par [2, 3, 4] (.cons (.item (.pk 0) (.cst (.int 2))) (.cons (.neg (.cst (.int 1))) (.cons (.lst .nil) .nil)))) (.cons (.for (.tp (.cons (.nm 5) (.cons (.nm 6) .nil))) (.val (.item (.pk 0) (.cst (.int 4)))) b__law_full2) (.cons (.ret (.bin .add (.slc (.pk 0) .none (.some (.cst (.int 2)))) (.tup (.cons (.loc 2) (.cons (.item (.pk 0) (.cst (.int 3))) (.cons (.loc 3) (.cons (.b1 .len (.pk 4)) (.cons (.b1 .tuple (.pk 4)) .nil)))))))) .nil)))⟩
def b__law_other : ISs := (.cons (.ite (.cmp .ne (.item (.pk 5) (.cst (.int 1))) (.cst (.str (w "none")))) (.cons (.app 4 (.tup (.cons (.loc 5) (.cons (.loc 6) .nil)))) .nil) (.cons (.ite (.or (.cmp .gt (.pk 3) (.cst (.int 1))) (.cmp .gt (.call (w "_law_draw") (.cons (.pk 0) (.cons (.cst (.int 3)) .nil))) (.cst (.int 0)))) (.cons (.app 4 (.tup (.cons (.loc 5) (.cons (.fz (.call (w "_law_of") (.cons (.pk 0) (.cons (.lst (.cons (.cst (.int 0)) (.cons (.loc 6) (.cons (.fz (.bin .add (.pk 6) (.cst (.int 1)))) (.cons (.b2 .max (.cst (.int 1)) (.bin .sub (.pk 6) (.cst (.int 1)))) (.cons (.cst (.int 9)) .nil)))))) .nil)))) .nil)))) .nil) .nil) .nil)) .nil)
def p__law_other : IF := ⟨7, 3, [0, 1, 2], (.cons (.par [3, 4] (.cons (.call (w "_law_draw") (.cons (.pk 0) (.cons (.cst (.int 6)) .nil))) (.cons (.lst .nil) .nil))) (.cons (.ite (.cmp .eq (.pk 3) (.cst (.int 0))) (.cons (.ret (.call (w "_law_some_row") (.cons (.pk 0) (.cons (.pk 1) .nil)))) .nil) .nil) (.cons (.for (.tp (.cons (.nm 5) (.cons (.nm 6) .nil))) (.val (.item (.pk 2) (.cst (.int 4)))) b__law_other) (.cons (.ite (.cmp .eq (.pk 3) (.cst (.int 2))) (.cons (.ret (.bin .add (.slc (.pk 2) .none (.some (.cst (.int 3)))) (.tup (.cons (.fz (.call (w "_law_of") (.cons (.pk 0) (.cons (.lst (.cons (.cst (.str (w "plain"))) (.cons (.cst (.str (w "raw"))) .nil))) .nil)))) (.cons (.b1 .tuple (.pk 4)) .nil))))) .nil) .nil) (.cons (.ret (.bin .add (.slc (.pk 2) .none (.some (.cst (.int 4)))) (.tup (.cons (.b1 .tuple (.pk 4)) .nil)))) .nil)))))⟩
def p__law_right : IF := ⟨8, 3, [0, 1, 2], (.cons (.asg (.nm 3) (.call (w "_law_below") (.cons (.pk 1) (.cons (.pk 2) .nil)))) (.cons (.ite (.cmp .ne (.b1 .repr (.call (w "is_under") (.cons (.pk 0) (.cons (.pk 1) (.cons (.pk 2) .nil))))) (.b1 .repr (.pk 3))) (.cons (.ret (.cst (.bool false))) .nil) .nil) (.cons (.asg (.nm 4) (.bin .add (.b1 .max (.bin .add (.lst (.cons (.cst (.int 1)) .nil)) (.lc [5, 6] (.loc 6) (.one (.tp (.cons (.nm 5) (.cons (.nm 6) .nil))) (.val (.item (.pk 2) (.cst (.int 4)))) .nil)))) (.cst (.int 1)))) (.cons (.asg (.nm 7) (.call (w "_law_full") (.cons (.pk 1) (.cons (.pk 4) .nil)))) (.cons (.ite (.or (.cmp .isnot (.call (w "covers") (.cons (.pk 0) (.cons (.pk 1) (.cons (.pk 7) .nil)))) (.cst (.bool true))) (.cmp .isnot (.call (w "covers") (.cons (.pk 0) (.cons (.pk 1) (.cons (.call (w "_law_full") (.cons (.pk 1) (.cons (.cst (.int 0)) .nil))) .nil)))) (.cst (.bool true)))) (.cons (.ret (.cst (.bool false))) .nil) .nil) (.cons (.ret (.cmp .eq (.b1 .repr (.call (w "covers") (.cons (.pk 0) (.cons (.pk 2) (.cons (.pk 7) .nil))))) (.b1 .repr (.pk 3)))) .nil))))))⟩
def c_law : IE := (.lc [9] (.fz (.call (w "_law_other") (.cons (.pk 1) (.cons (.pk 3) (.cons (.pk 4) .nil))))) (.one (.nm 9) (.rng (.cst (.int 4))) .nil))
def c_law2 : IE := (.lc [6] (.loc 6) (.one (.nm 6) (.val (.loc 5)) (.cons (.call (w "_law_is_row") (.cons (.pk 3) (.cons (.pk 6) .nil))) .nil)))
def b_law : ISs := (.cons (.ite (.not (.call (w "_law_right") (.cons (.pk 3) (.cons (.pk 6) (.cons (.pk 7) .nil))))) (.cons (.ret (.cst (.bool false))) .nil) .nil) .nil)
def b_law2 : ISs := (.cons (.ite (.cmp .isnot (.call (w "is_under") (.cons (.pk 3) (.cons (.pk 6) (.cons (.pk 6) .nil)))) (.cst (.bool true))) (.cons (.ret (.cst (.bool false))) .nil) .nil) (.cons (.for (.nm 7) (.val (.loc 5)) b_law) .nil))
def c_law3 : IE := (.lc [10] (.loc 10) (.one (.nm 10) (.val (.loc 5)) (.cons (.and (.call (w "is_under") (.cons (.pk 3) (.cons (.pk 6) (.cons (.pk 7) .nil)))) (.call (w "is_under") (.cons (.pk 3) (.cons (.pk 7) (.cons (.pk 10) .nil))))) .nil)))
def c_law4 : IE := (.lc [10] (.loc 10) (.one (.nm 10) (.val (.loc 8)) (.cons (.not (.call (w "is_under") (.cons (.pk 3) (.cons (.pk 6) (.cons (.pk 10) .nil))))) .nil)))
def b_law3 : ISs := (.cons (.asg (.nm 8) c_law3) (.cons (.ite (.cmp .ne c_law4 (.lst .nil)) (.cons (.ret (.cst (.bool false))) .nil) .nil) .nil))
def b_law4 : ISs := (.cons (.for (.nm 7) (.val (.loc 5)) b_law3) .nil)
def b_law5 : ISs := (.cons (.asg (.nm 3) (.call (w "_law_setup") (.cons (.pk 1) (.cons (.cst (.int 2)) (.cons (.cst (.int 4)) (.cons (.cst (.int 4)) .nil)))))) (.cons (.asg (.nm 4) (.call (w "_law_some_row") (.cons (.pk 1) (.cons (.pk 3) .nil)))) (.cons (.asg (.nm 5) (.bin .add (.lst (.cons (.loc 4) .nil)) c_law)) (.cons (.asg (.nm 5) c_law2) (.cons (.for (.nm 6) (.val (.loc 5)) b_law2) (.cons (.for (.nm 6) (.val (.loc 5)) b_law4) .nil))))))
def p_law : IF := ⟨11, 1, [0], (.cons (.asg (.nm 1) (.call (w "_law_begun") (.cons (.pk 0) .nil))) (.cons (.for (.nm 2) (.rng (.fz (.bin .add (.cst (.int 4)) (.b2 .min (.cst (.int 8)) (.b1 .len (.pk 0)))))) b_law5) (.cons (.ret (.cst (.bool true))) .nil)))⟩
def pg0 : Prog := [(w "is_whole", p_is_whole), (w "is_word", p_is_word), (w "are_words", p_are_words), (w "is_kind", p_is_kind), (w "is_script", p_is_script), (w "are_rules", p_are_rules), (w "first_other", p_first_other), (w "row_fault", p_row_fault), (w "setup_fault", p_setup_fault), (w "need_setup", p_need_setup), (w "script_of", p_script_of), (w "is_job", p_is_job), (w "are_jobs", p_are_jobs), (w "find_job", p_find_job), (w "can_be_front", p_can_be_front), (w "can_be_hand", p_can_be_hand)]
def pg1 : Prog := [(w "is_place", p_is_place), (w "standing_fault", p_standing_fault), (w "need_standing", p_need_standing), (w "role_of", p_role_of), (w "parted", p_parted), (w "key_of", p_key_of), (w "free_of", p_free_of), (w "told_row", p_told_row), (w "with_more", p_with_more), (w "row_in", p_row_in), (w "row_of", p_row_of), (w "are_shapes", p_are_shapes), (w "have_roles", p_have_roles), (w "is_row_in", p_is_row_in), (w "need_row", p_need_row), (w "are_within", p_are_within)]
def pg2 : Prog := [(w "is_below", p_is_below), (w "covers", p_covers), (w "is_under", p_is_under), (w "_law_begun", p__law_begun), (w "_law_draw", p__law_draw), (w "_law_of", p__law_of), (w "_law_some", p__law_some), (w "_law_setup", p__law_setup), (w "_law_script", p__law_script), (w "_law_state", p__law_state), (w "_law_is_whole", p__law_is_whole), (w "_law_is_word", p__law_is_word), (w "_law_is_job", p__law_is_job), (w "_law_role", p__law_role), (w "_law_row", p__law_row), (w "_law_below", p__law_below)]
def pg3 : Prog := [(w "_law_some_row", p__law_some_row), (w "_law_is_row", p__law_is_row), (w "_law_is_lot", p__law_is_lot), (w "_law_full", p__law_full), (w "_law_other", p__law_other), (w "_law_right", p__law_right), (w "law", p_law)]
def pg : Prog := pg0 ++ pg1 ++ pg2 ++ pg3
end FJ.K15

set_option Elab.async false
set_option linter.all false
set_option autoImplicit false
set_option maxRecDepth 100000
set_option maxHeartbeats 0
namespace FJ.K15
open PySem PySem.Spec L2 FJ
open PyProof.Rows hiding St
abbrev R : PySem.W.OpenRow := PySem.W.OpenLaw.row PySem.Challenge.rw_frontjobs_k15_whole_rows_under_rows
def top (i : Nat) : Stmt := PySem.Challenge.pw_frontjobs_k15_whole_rows_under_rows.main.body.getD i (.Pass ⟨0, 0, 0, 0⟩)
def dAt (i : Nat) : He.DefD := match top i with
  | .FunctionDef n a b _ _ _ sc _ _ _ => ⟨(n, none), n, n, a, b, sc, [], []⟩
  | _ => ⟨(w "", none), w "", w "", defArgs (top i), [], defScope (top i), [], []⟩
def G0 : List (Str × PyData) := [(w "GROUP", (.str (w "group"))), (w "FRONT_setups", (.str (w "front"))), (w "READ", (.str (w "read"))), (w "WRITE", (.str (w "write"))), (w "RAW", (.str (w "raw"))), (w "PLAIN", (.str (w "plain"))), (w "HOLD", (.str (w "hold"))), (w "AGAIN", (.str (w "again"))), (w "GIVE", (.str (w "give"))), (w "GO", (.str (w "go"))), (w "WAIT", (.str (w "wait"))), (w "LISTEN", (.str (w "listen"))), (w "TAKE", (.str (w "take"))), (w "FORE", (.str (w "fore"))), (w "BACK", (.str (w "back"))), (w "BEHIND", (.str (w "behind")))]
def G1 : List (Str × PyData) := [(w "STOP", (.str (w "stop"))), (w "FAIL", (.str (w "fail"))), (w "ACTS", (.tuple [(.str (w "group")), (.str (w "front")), (.str (w "read")), (.str (w "write")), (.str (w "raw")), (.str (w "plain")), (.str (w "hold")), (.str (w "again"))])), (w "STEPS", (.tuple [(.str (w "group")), (.str (w "give")), (.str (w "go")), (.str (w "wait")), (.str (w "listen")), (.str (w "take")), (.str (w "plain"))])), (w "SCRIPTS", (.tuple [(.str (w "fore")), (.str (w "back")), (.str (w "front")), (.str (w "behind"))])), (w "MOST_ACTS", (.int 5)), (w "MOST_KINDS", (.int 3)), (w "MOST_STEPS", (.int 6)), (w "IDLE", (.str (w "none"))), (w "SHELL", (.str (w "shell"))), (w "NOBODY", (.str (w "nobody"))), (w "RUNS", (.str (w "runs"))), (w "STOPPED", (.str (w "stopped"))), (w "ENDED", (.str (w "ended"))), (w "NONE", (.str (w "none"))), (w "END", (.str (w "end")))]
def G2 : List (Str × PyData) := [(w "NO_HAND", (.int (-1))), (w "JOB", (.str (w "job"))), (w "HAND", (.str (w "hand"))), (w "FRONT_rows", (.str (w "front"))), (w "BOTH", (.str (w "both"))), (w "ROLES", (.tuple [(.str (w "none")), (.str (w "hand")), (.str (w "front")), (.str (w "both"))])), (w "ANY_MANY", (.int 0))]
def G : List (Str × PyData) := G0 ++ G1 ++ G2
def B : List Str := [w "len", w "tuple", w "int", w "dict", w "sorted", w "all", w "repr", w "max", w "min", w "isinstance", w "bool", w "str", w "range", w "enumerate", w "zip"]
def fn0 : List He.DefD := [dAt 30, dAt 31, dAt 32, dAt 33, dAt 34, dAt 35, dAt 36, dAt 37, dAt 38, dAt 39, dAt 40, dAt 51, dAt 52, dAt 53, dAt 54, dAt 55]
def Fs0 : List Str := [w "is_whole", w "is_word", w "are_words", w "is_kind", w "is_script", w "are_rules", w "first_other", w "row_fault", w "setup_fault", w "need_setup", w "script_of", w "is_job", w "are_jobs", w "find_job", w "can_be_front", w "can_be_hand"]
def fa0 : List He.Fa := [.glo (w "is_whole"), .glo (w "is_word"), .glo (w "are_words"), .glo (w "is_kind"), .glo (w "is_script"), .glo (w "are_rules"), .glo (w "first_other"), .glo (w "row_fault"), .glo (w "setup_fault"), .glo (w "need_setup"), .glo (w "script_of"), .glo (w "is_job"), .glo (w "are_jobs"), .glo (w "find_job"), .glo (w "can_be_front"), .glo (w "can_be_hand")]
def fn1 : List He.DefD := [dAt 56, dAt 57, dAt 58, dAt 66, dAt 67, dAt 68, dAt 69, dAt 70, dAt 71, dAt 72, dAt 73, dAt 74, dAt 75, dAt 76, dAt 77, dAt 78]
def Fs1 : List Str := [w "is_place", w "standing_fault", w "need_standing", w "role_of", w "parted", w "key_of", w "free_of", w "told_row", w "with_more", w "row_in", w "row_of", w "are_shapes", w "have_roles", w "is_row_in", w "need_row", w "are_within"]
def fa1 : List He.Fa := [.glo (w "is_place"), .glo (w "standing_fault"), .glo (w "need_standing"), .glo (w "role_of"), .glo (w "parted"), .glo (w "key_of"), .glo (w "free_of"), .glo (w "told_row"), .glo (w "with_more"), .glo (w "row_in"), .glo (w "row_of"), .glo (w "are_shapes"), .glo (w "have_roles"), .glo (w "is_row_in"), .glo (w "need_row"), .glo (w "are_within")]
def fn2 : List He.DefD := [dAt 79, dAt 80, dAt 81, dAt 83, dAt 84, dAt 85, dAt 86, dAt 87, dAt 88, dAt 89, dAt 90, dAt 91, dAt 92, dAt 93, dAt 94, dAt 95]
def Fs2 : List Str := [w "is_below", w "covers", w "is_under", w "_law_begun", w "_law_draw", w "_law_of", w "_law_some", w "_law_setup", w "_law_script", w "_law_state", w "_law_is_whole", w "_law_is_word", w "_law_is_job", w "_law_role", w "_law_row", w "_law_below"]
def fa2 : List He.Fa := [.glo (w "is_below"), .glo (w "covers"), .glo (w "is_under"), .glo (w "_law_begun"), .glo (w "_law_draw"), .glo (w "_law_of"), .glo (w "_law_some"), .glo (w "_law_setup"), .glo (w "_law_script"), .glo (w "_law_state"), .glo (w "_law_is_whole"), .glo (w "_law_is_word"), .glo (w "_law_is_job"), .glo (w "_law_role"), .glo (w "_law_row"), .glo (w "_law_below")]
def fn3 : List He.DefD := [dAt 96, dAt 97, dAt 98, dAt 99, dAt 100, dAt 101, dAt 102]
def Fs3 : List Str := [w "_law_some_row", w "_law_is_row", w "_law_is_lot", w "_law_full", w "_law_other", w "_law_right", w "law"]
def fa3 : List He.Fa := [.glo (w "_law_some_row"), .glo (w "_law_is_row"), .glo (w "_law_is_lot"), .glo (w "_law_full"), .glo (w "_law_other"), .glo (w "_law_right"), .glo (w "law")]
def fn : List He.DefD := fn0 ++ fn1 ++ fn2 ++ fn3
def Fs : List Str := Fs0 ++ Fs1 ++ Fs2 ++ Fs3
def fb : List He.Fa := [.free (w "len"), .free (w "tuple"), .free (w "int"), .free (w "dict"), .free (w "sorted"), .free (w "all"), .free (w "repr"), .free (w "max"), .free (w "min"), .free (w "isinstance"), .free (w "bool"), .free (w "str"), .free (w "range"), .free (w "enumerate"), .free (w "zip")]
def fa : List He.Fa := fa0 ++ fa1 ++ fa2 ++ fa3 ++ fb
def nm0 : List PySem.Str := ["JobError", "BadSetup", "BadStanding", "BadRow", "GROUP", "FRONT_setups", "READ", "WRITE", "RAW", "PLAIN", "HOLD", "AGAIN", "GIVE", "GO", "WAIT", "LISTEN"]
def nm1 : List PySem.Str := ["TAKE", "FORE", "BACK", "BEHIND", "STOP", "FAIL", "ACTS", "STEPS", "SCRIPTS", "MOST_ACTS", "MOST_KINDS", "MOST_STEPS", "is_whole", "is_word", "are_words", "is_kind"]
def nm2 : List PySem.Str := ["is_script", "are_rules", "first_other", "row_fault", "setup_fault", "need_setup", "script_of", "IDLE", "SHELL", "NOBODY", "RUNS", "STOPPED", "ENDED", "NONE", "END", "NO_HAND"]
def nm3 : List PySem.Str := ["is_job", "are_jobs", "find_job", "can_be_front", "can_be_hand", "is_place", "standing_fault", "need_standing", "JOB", "HAND", "FRONT_rows", "BOTH", "ROLES", "ANY_MANY", "role_of", "parted"]
def nm4 : List PySem.Str := ["key_of", "free_of", "told_row", "with_more", "row_in", "row_of", "are_shapes", "have_roles", "is_row_in", "need_row", "are_within", "is_below", "covers", "is_under", "_law_begun", "_law_draw"]
def nm5 : List PySem.Str := ["_law_of", "_law_some", "_law_setup", "_law_script", "_law_state", "_law_is_whole", "_law_is_word", "_law_is_job", "_law_role", "_law_row", "_law_below", "_law_some_row", "_law_is_row", "_law_is_lot", "_law_full", "_law_other"]
def nm6 : List PySem.Str := ["_law_right"]
def names : List PySem.Str := nm0 ++ nm1 ++ nm2 ++ nm3 ++ nm4 ++ nm5 ++ nm6
abbrev hk : PySem.W.Hook := hookF 4 G fa fn
def ob (s : PySem.W.SharedT) : AlF := obsFG 4 G fa fn (HandSHeadRun.getT s)
theorem ob_eq (s : PySem.W.SharedT) : ob s = hk.obs s.abs := obsFG_eq (HandSHeadRun.getT_eq s)
theorem run (w : World) : HandSHeadRun.RunEq R (PySem.W.view R.prog [102]) hk ob 20000 names w := by
  intro os
  kernel_rfl
section
variable {P : Program} {w' : World} {K : PySem.W.Frag} {h : Heap} {mg : Str → Option Value}
def FFact (K : PySem.W.Frag) (mg : Str → Option Value) (f : Str) : Prop := ∃ (qual : Str) (st : Stmt) (fd : FuncData) (F : IF) (N : List Str), FunD K f qual (defArgs st) (defBody st) (defScope st) [] [] (He.ga K f) fd ∧ Binds K fd (paramsOf (defArgs st)) [] ∧ mg f = some (.ref (He.ga K f)) ∧ pg.lookup f = some F ∧ cF G Fs B N st = some F
theorem cc0 : cF G Fs B [w "thing", w "least", w "most"] (top 30) = some p_is_whole := by kernel_rfl
theorem ff0 (X : K.In h) (Gm : h.Ns mainGlobals mg) (c : He.SaysD fa fn K) : FFact K mg (w "is_whole") := by
  obtain ⟨fd, F⟩ := c.def_ 0 (d := dAt 30) (by kernel_rfl)
  have F' : FunD K (w "is_whole") (w "is_whole") (defArgs (top 30)) (defBody (top 30)) (defScope (top 30)) [] [] (He.ga K (w "is_whole")) fd := F
  exact ⟨_, top 30, fd, p_is_whole, [w "thing", w "least", w "most"], F', F'.bindsN (fun _ _ _ _ _ _ us hl => match us, hl with | [_, _, _], _ => rfl), He.glo_ok X Gm (c.fact 0 (f := .glo (w "is_whole")) (by kernel_rfl)), by kernel_rfl, cc0⟩
theorem cc1 : cF G Fs B [w "thing", w "words"] (top 31) = some p_is_word := by kernel_rfl
theorem ff1 (X : K.In h) (Gm : h.Ns mainGlobals mg) (c : He.SaysD fa fn K) : FFact K mg (w "is_word") := by
  obtain ⟨fd, F⟩ := c.def_ 1 (d := dAt 31) (by kernel_rfl)
  have F' : FunD K (w "is_word") (w "is_word") (defArgs (top 31)) (defBody (top 31)) (defScope (top 31)) [] [] (He.ga K (w "is_word")) fd := F
  exact ⟨_, top 31, fd, p_is_word, [w "thing", w "words"], F', F'.bindsN (fun _ _ _ _ _ _ us hl => match us, hl with | [_, _], _ => rfl), He.glo_ok X Gm (c.fact 1 (f := .glo (w "is_word")) (by kernel_rfl)), by kernel_rfl, cc1⟩
theorem cc2 : cF G Fs B [w "thing", w "least", w "most", w "words", w "one"] (top 32) = some p_are_words := by kernel_rfl
theorem ff2 (X : K.In h) (Gm : h.Ns mainGlobals mg) (c : He.SaysD fa fn K) : FFact K mg (w "are_words") := by
  obtain ⟨fd, F⟩ := c.def_ 2 (d := dAt 32) (by kernel_rfl)
  have F' : FunD K (w "are_words") (w "are_words") (defArgs (top 32)) (defBody (top 32)) (defScope (top 32)) [] [] (He.ga K (w "are_words")) fd := F
  exact ⟨_, top 32, fd, p_are_words, [w "thing", w "least", w "most", w "words", w "one"], F', F'.bindsN (fun _ _ _ _ _ _ us hl => match us, hl with | [_, _, _, _], _ => rfl), He.glo_ok X Gm (c.fact 2 (f := .glo (w "are_words")) (by kernel_rfl)), by kernel_rfl, cc2⟩
theorem cc3 : cF G Fs B [w "thing"] (top 33) = some p_is_kind := by kernel_rfl
theorem ff3 (X : K.In h) (Gm : h.Ns mainGlobals mg) (c : He.SaysD fa fn K) : FFact K mg (w "is_kind") := by
  obtain ⟨fd, F⟩ := c.def_ 3 (d := dAt 33) (by kernel_rfl)
  have F' : FunD K (w "is_kind") (w "is_kind") (defArgs (top 33)) (defBody (top 33)) (defScope (top 33)) [] [] (He.ga K (w "is_kind")) fd := F
  exact ⟨_, top 33, fd, p_is_kind, [w "thing"], F', F'.bindsN (fun _ _ _ _ _ _ us hl => match us, hl with | [_], _ => rfl), He.glo_ok X Gm (c.fact 3 (f := .glo (w "is_kind")) (by kernel_rfl)), by kernel_rfl, cc3⟩
theorem cc4 : cF G Fs B [w "thing"] (top 34) = some p_is_script := by kernel_rfl
theorem ff4 (X : K.In h) (Gm : h.Ns mainGlobals mg) (c : He.SaysD fa fn K) : FFact K mg (w "is_script") := by
  obtain ⟨fd, F⟩ := c.def_ 4 (d := dAt 34) (by kernel_rfl)
  have F' : FunD K (w "is_script") (w "is_script") (defArgs (top 34)) (defBody (top 34)) (defScope (top 34)) [] [] (He.ga K (w "is_script")) fd := F
  exact ⟨_, top 34, fd, p_is_script, [w "thing"], F', F'.bindsN (fun _ _ _ _ _ _ us hl => match us, hl with | [_], _ => rfl), He.glo_ok X Gm (c.fact 4 (f := .glo (w "is_script")) (by kernel_rfl)), by kernel_rfl, cc4⟩
theorem cc5 : cF G Fs B [w "thing", w "one"] (top 35) = some p_are_rules := by kernel_rfl
theorem ff5 (X : K.In h) (Gm : h.Ns mainGlobals mg) (c : He.SaysD fa fn K) : FFact K mg (w "are_rules") := by
  obtain ⟨fd, F⟩ := c.def_ 5 (d := dAt 35) (by kernel_rfl)
  have F' : FunD K (w "are_rules") (w "are_rules") (defArgs (top 35)) (defBody (top 35)) (defScope (top 35)) [] [] (He.ga K (w "are_rules")) fd := F
  exact ⟨_, top 35, fd, p_are_rules, [w "thing", w "one"], F', F'.bindsN (fun _ _ _ _ _ _ us hl => match us, hl with | [_], _ => rfl), He.glo_ok X Gm (c.fact 5 (f := .glo (w "are_rules")) (by kernel_rfl)), by kernel_rfl, cc5⟩
theorem cc6 : cF G Fs B [w "things", w "is_one", w "wrong", w "number", w "thing"] (top 36) = some p_first_other := by kernel_rfl
theorem ff6 (X : K.In h) (Gm : h.Ns mainGlobals mg) (c : He.SaysD fa fn K) : FFact K mg (w "first_other") := by
  obtain ⟨fd, F⟩ := c.def_ 6 (d := dAt 36) (by kernel_rfl)
  have F' : FunD K (w "first_other") (w "first_other") (defArgs (top 36)) (defBody (top 36)) (defScope (top 36)) [] [] (He.ga K (w "first_other")) fd := F
  exact ⟨_, top 36, fd, p_first_other, [w "things", w "is_one", w "wrong", w "number", w "thing"], F', F'.bindsN (fun _ _ _ _ _ _ us hl => match us, hl with | [_, _], _ => rfl), He.glo_ok X Gm (c.fact 6 (f := .glo (w "first_other")) (by kernel_rfl)), by kernel_rfl, cc6⟩
theorem cc7 : cF G Fs B [w "thing", w "least", w "most", w "is_one", w "word", w "number"] (top 37) = some p_row_fault := by kernel_rfl
theorem ff7 (X : K.In h) (Gm : h.Ns mainGlobals mg) (c : He.SaysD fa fn K) : FFact K mg (w "row_fault") := by
  obtain ⟨fd, F⟩ := c.def_ 7 (d := dAt 37) (by kernel_rfl)
  have F' : FunD K (w "row_fault") (w "row_fault") (defArgs (top 37)) (defBody (top 37)) (defScope (top 37)) [] [] (He.ga K (w "row_fault")) fd := F
  exact ⟨_, top 37, fd, p_row_fault, [w "thing", w "least", w "most", w "is_one", w "word", w "number"], F', F'.bindsN (fun _ _ _ _ _ _ us hl => match us, hl with | [_, _, _, _, _], _ => rfl), He.glo_ok X Gm (c.fact 7 (f := .glo (w "row_fault")) (by kernel_rfl)), by kernel_rfl, cc7⟩
theorem cc8 : cF G Fs B [w "thing", w "place"] (top 38) = some p_setup_fault := by kernel_rfl
theorem ff8 (X : K.In h) (Gm : h.Ns mainGlobals mg) (c : He.SaysD fa fn K) : FFact K mg (w "setup_fault") := by
  obtain ⟨fd, F⟩ := c.def_ 8 (d := dAt 38) (by kernel_rfl)
  have F' : FunD K (w "setup_fault") (w "setup_fault") (defArgs (top 38)) (defBody (top 38)) (defScope (top 38)) [] [] (He.ga K (w "setup_fault")) fd := F
  exact ⟨_, top 38, fd, p_setup_fault, [w "thing", w "place"], F', F'.bindsN (fun _ _ _ _ _ _ us hl => match us, hl with | [_], _ => rfl), He.glo_ok X Gm (c.fact 8 (f := .glo (w "setup_fault")) (by kernel_rfl)), by kernel_rfl, cc8⟩
theorem cc9 : cF G Fs B [w "thing", w "place"] (top 39) = some p_need_setup := by kernel_rfl
theorem ff9 (X : K.In h) (Gm : h.Ns mainGlobals mg) (c : He.SaysD fa fn K) : FFact K mg (w "need_setup") := by
  obtain ⟨fd, F⟩ := c.def_ 9 (d := dAt 39) (by kernel_rfl)
  have F' : FunD K (w "need_setup") (w "need_setup") (defArgs (top 39)) (defBody (top 39)) (defScope (top 39)) [] [] (He.ga K (w "need_setup")) fd := F
  exact ⟨_, top 39, fd, p_need_setup, [w "thing", w "place"], F', F'.bindsN (fun _ _ _ _ _ _ us hl => match us, hl with | [_], _ => rfl), He.glo_ok X Gm (c.fact 9 (f := .glo (w "need_setup")) (by kernel_rfl)), by kernel_rfl, cc9⟩
theorem cc10 : cF G Fs B [w "setup", w "word"] (top 40) = some p_script_of := by kernel_rfl
theorem ff10 (X : K.In h) (Gm : h.Ns mainGlobals mg) (c : He.SaysD fa fn K) : FFact K mg (w "script_of") := by
  obtain ⟨fd, F⟩ := c.def_ 10 (d := dAt 40) (by kernel_rfl)
  have F' : FunD K (w "script_of") (w "script_of") (defArgs (top 40)) (defBody (top 40)) (defScope (top 40)) [] [] (He.ga K (w "script_of")) fd := F
  exact ⟨_, top 40, fd, p_script_of, [w "setup", w "word"], F', F'.bindsN (fun _ _ _ _ _ _ us hl => match us, hl with | [_, _], _ => rfl), He.glo_ok X Gm (c.fact 10 (f := .glo (w "script_of")) (by kernel_rfl)), by kernel_rfl, cc10⟩
theorem cc11 : cF G Fs B [w "setup", w "thing", w "kind", w "place", w "own", w "state", w "notice", w "held"] (top 51) = some p_is_job := by kernel_rfl
theorem ff11 (X : K.In h) (Gm : h.Ns mainGlobals mg) (c : He.SaysD fa fn K) : FFact K mg (w "is_job") := by
  obtain ⟨fd, F⟩ := c.def_ 11 (d := dAt 51) (by kernel_rfl)
  have F' : FunD K (w "is_job") (w "is_job") (defArgs (top 51)) (defBody (top 51)) (defScope (top 51)) [] [] (He.ga K (w "is_job")) fd := F
  exact ⟨_, top 51, fd, p_is_job, [w "setup", w "thing", w "kind", w "place", w "own", w "state", w "notice", w "held"], F', F'.bindsN (fun _ _ _ _ _ _ us hl => match us, hl with | [_, _], _ => rfl), He.glo_ok X Gm (c.fact 11 (f := .glo (w "is_job")) (by kernel_rfl)), by kernel_rfl, cc11⟩
theorem cc12 : cF G Fs B [w "setup", w "made", w "thing", w "pair", w "one", w "other"] (top 52) = some p_are_jobs := by kernel_rfl
theorem ff12 (X : K.In h) (Gm : h.Ns mainGlobals mg) (c : He.SaysD fa fn K) : FFact K mg (w "are_jobs") := by
  obtain ⟨fd, F⟩ := c.def_ 12 (d := dAt 52) (by kernel_rfl)
  have F' : FunD K (w "are_jobs") (w "are_jobs") (defArgs (top 52)) (defBody (top 52)) (defScope (top 52)) [] [] (He.ga K (w "are_jobs")) fd := F
  exact ⟨_, top 52, fd, p_are_jobs, [w "setup", w "made", w "thing", w "pair", w "one", w "other"], F', F'.bindsN (fun _ _ _ _ _ _ us hl => match us, hl with | [_, _, _], _ => rfl), He.glo_ok X Gm (c.fact 12 (f := .glo (w "are_jobs")) (by kernel_rfl)), by kernel_rfl, cc12⟩
theorem cc13 : cF G Fs B [w "jobs", w "number", w "found", w "own", w "job"] (top 53) = some p_find_job := by kernel_rfl
theorem ff13 (X : K.In h) (Gm : h.Ns mainGlobals mg) (c : He.SaysD fa fn K) : FFact K mg (w "find_job") := by
  obtain ⟨fd, F⟩ := c.def_ 13 (d := dAt 53) (by kernel_rfl)
  have F' : FunD K (w "find_job") (w "find_job") (defArgs (top 53)) (defBody (top 53)) (defScope (top 53)) [] [] (He.ga K (w "find_job")) fd := F
  exact ⟨_, top 53, fd, p_find_job, [w "jobs", w "number", w "found", w "own", w "job"], F', F'.bindsN (fun _ _ _ _ _ _ us hl => match us, hl with | [_, _], _ => rfl), He.glo_ok X Gm (c.fact 13 (f := .glo (w "find_job")) (by kernel_rfl)), by kernel_rfl, cc13⟩
theorem cc14 : cF G Fs B [w "jobs", w "thing", w "job"] (top 54) = some p_can_be_front := by kernel_rfl
theorem ff14 (X : K.In h) (Gm : h.Ns mainGlobals mg) (c : He.SaysD fa fn K) : FFact K mg (w "can_be_front") := by
  obtain ⟨fd, F⟩ := c.def_ 14 (d := dAt 54) (by kernel_rfl)
  have F' : FunD K (w "can_be_front") (w "can_be_front") (defArgs (top 54)) (defBody (top 54)) (defScope (top 54)) [] [] (He.ga K (w "can_be_front")) fd := F
  exact ⟨_, top 54, fd, p_can_be_front, [w "jobs", w "thing", w "job"], F', F'.bindsN (fun _ _ _ _ _ _ us hl => match us, hl with | [_, _], _ => rfl), He.glo_ok X Gm (c.fact 14 (f := .glo (w "can_be_front")) (by kernel_rfl)), by kernel_rfl, cc14⟩
theorem cc15 : cF G Fs B [w "script", w "jobs", w "thing"] (top 55) = some p_can_be_hand := by kernel_rfl
theorem ff15 (X : K.In h) (Gm : h.Ns mainGlobals mg) (c : He.SaysD fa fn K) : FFact K mg (w "can_be_hand") := by
  obtain ⟨fd, F⟩ := c.def_ 15 (d := dAt 55) (by kernel_rfl)
  have F' : FunD K (w "can_be_hand") (w "can_be_hand") (defArgs (top 55)) (defBody (top 55)) (defScope (top 55)) [] [] (He.ga K (w "can_be_hand")) fd := F
  exact ⟨_, top 55, fd, p_can_be_hand, [w "script", w "jobs", w "thing"], F', F'.bindsN (fun _ _ _ _ _ _ us hl => match us, hl with | [_, _, _], _ => rfl), He.glo_ok X Gm (c.fact 15 (f := .glo (w "can_be_hand")) (by kernel_rfl)), by kernel_rfl, cc15⟩
theorem cc16 : cF G Fs B [w "setup", w "script", w "thing"] (top 56) = some p_is_place := by kernel_rfl
theorem ff16 (X : K.In h) (Gm : h.Ns mainGlobals mg) (c : He.SaysD fa fn K) : FFact K mg (w "is_place") := by
  obtain ⟨fd, F⟩ := c.def_ 16 (d := dAt 56) (by kernel_rfl)
  have F' : FunD K (w "is_place") (w "is_place") (defArgs (top 56)) (defBody (top 56)) (defScope (top 56)) [] [] (He.ga K (w "is_place")) fd := F
  exact ⟨_, top 56, fd, p_is_place, [w "setup", w "script", w "thing"], F', F'.bindsN (fun _ _ _ _ _ _ us hl => match us, hl with | [_, _, _], _ => rfl), He.glo_ok X Gm (c.fact 16 (f := .glo (w "is_place")) (by kernel_rfl)), by kernel_rfl, cc16⟩
theorem cc17 : cF G Fs B [w "setup", w "thing", w "script", w "place", w "front", w "mode", w "hand", w "made", w "jobs"] (top 57) = some p_standing_fault := by kernel_rfl
theorem ff17 (X : K.In h) (Gm : h.Ns mainGlobals mg) (c : He.SaysD fa fn K) : FFact K mg (w "standing_fault") := by
  obtain ⟨fd, F⟩ := c.def_ 17 (d := dAt 57) (by kernel_rfl)
  have F' : FunD K (w "standing_fault") (w "standing_fault") (defArgs (top 57)) (defBody (top 57)) (defScope (top 57)) [] [] (He.ga K (w "standing_fault")) fd := F
  exact ⟨_, top 57, fd, p_standing_fault, [w "setup", w "thing", w "script", w "place", w "front", w "mode", w "hand", w "made", w "jobs"], F', F'.bindsN (fun _ _ _ _ _ _ us hl => match us, hl with | [_, _], _ => rfl), He.glo_ok X Gm (c.fact 17 (f := .glo (w "standing_fault")) (by kernel_rfl)), by kernel_rfl, cc17⟩
theorem cc18 : cF G Fs B [w "setup", w "thing", w "place"] (top 58) = some p_need_standing := by kernel_rfl
theorem ff18 (X : K.In h) (Gm : h.Ns mainGlobals mg) (c : He.SaysD fa fn K) : FFact K mg (w "need_standing") := by
  obtain ⟨fd, F⟩ := c.def_ 18 (d := dAt 58) (by kernel_rfl)
  have F' : FunD K (w "need_standing") (w "need_standing") (defArgs (top 58)) (defBody (top 58)) (defScope (top 58)) [] [] (He.ga K (w "need_standing")) fd := F
  exact ⟨_, top 58, fd, p_need_standing, [w "setup", w "thing", w "place"], F', F'.bindsN (fun _ _ _ _ _ _ us hl => match us, hl with | [_, _], _ => rfl), He.glo_ok X Gm (c.fact 18 (f := .glo (w "need_standing")) (by kernel_rfl)), by kernel_rfl, cc18⟩
theorem cc19 : cF G Fs B [w "standing", w "number", w "is_hand", w "is_front"] (top 66) = some p_role_of := by kernel_rfl
theorem ff19 (X : K.In h) (Gm : h.Ns mainGlobals mg) (c : He.SaysD fa fn K) : FFact K mg (w "role_of") := by
  obtain ⟨fd, F⟩ := c.def_ 19 (d := dAt 66) (by kernel_rfl)
  have F' : FunD K (w "role_of") (w "role_of") (defArgs (top 66)) (defBody (top 66)) (defScope (top 66)) [] [] (He.ga K (w "role_of")) fd := F
  exact ⟨_, top 66, fd, p_role_of, [w "standing", w "number", w "is_hand", w "is_front"], F', F'.bindsN (fun _ _ _ _ _ _ us hl => match us, hl with | [_, _], _ => rfl), He.glo_ok X Gm (c.fact 19 (f := .glo (w "role_of")) (by kernel_rfl)), by kernel_rfl, cc19⟩
theorem cc20 : cF G Fs B [w "standing", w "shapes", w "number", w "job", w "front", w "key", w "shape"] (top 67) = some p_parted := by kernel_rfl
theorem ff20 (X : K.In h) (Gm : h.Ns mainGlobals mg) (c : He.SaysD fa fn K) : FFact K mg (w "parted") := by
  obtain ⟨fd, F⟩ := c.def_ 20 (d := dAt 67) (by kernel_rfl)
  have F' : FunD K (w "parted") (w "parted") (defArgs (top 67)) (defBody (top 67)) (defScope (top 67)) [] [] (He.ga K (w "parted")) fd := F
  exact ⟨_, top 67, fd, p_parted, [w "standing", w "shapes", w "number", w "job", w "front", w "key", w "shape"], F', F'.bindsN (fun _ _ _ _ _ _ us hl => match us, hl with | [_], _ => rfl), He.glo_ok X Gm (c.fact 20 (f := .glo (w "parted")) (by kernel_rfl)), by kernel_rfl, cc20⟩
theorem cc21 : cF G Fs B [w "row", w "shape", w "many"] (top 68) = some p_key_of := by kernel_rfl
theorem ff21 (X : K.In h) (Gm : h.Ns mainGlobals mg) (c : He.SaysD fa fn K) : FFact K mg (w "key_of") := by
  obtain ⟨fd, F⟩ := c.def_ 21 (d := dAt 68) (by kernel_rfl)
  have F' : FunD K (w "key_of") (w "key_of") (defArgs (top 68)) (defBody (top 68)) (defScope (top 68)) [] [] (He.ga K (w "key_of")) fd := F
  exact ⟨_, top 68, fd, p_key_of, [w "row", w "shape", w "many"], F', F'.bindsN (fun _ _ _ _ _ _ us hl => match us, hl with | [_], _ => rfl), He.glo_ok X Gm (c.fact 21 (f := .glo (w "key_of")) (by kernel_rfl)), by kernel_rfl, cc21⟩
theorem cc22 : cF G Fs B [w "row", w "shape", w "many"] (top 69) = some p_free_of := by kernel_rfl
theorem ff22 (X : K.In h) (Gm : h.Ns mainGlobals mg) (c : He.SaysD fa fn K) : FFact K mg (w "free_of") := by
  obtain ⟨fd, F⟩ := c.def_ 22 (d := dAt 69) (by kernel_rfl)
  have F' : FunD K (w "free_of") (w "free_of") (defArgs (top 69)) (defBody (top 69)) (defScope (top 69)) [] [] (He.ga K (w "free_of")) fd := F
  exact ⟨_, top 69, fd, p_free_of, [w "row", w "shape", w "many"], F', F'.bindsN (fun _ _ _ _ _ _ us hl => match us, hl with | [_], _ => rfl), He.glo_ok X Gm (c.fact 22 (f := .glo (w "free_of")) (by kernel_rfl)), by kernel_rfl, cc22⟩
theorem cc23 : cF G Fs B [w "key", w "free", w "shapes", w "shape"] (top 70) = some p_told_row := by kernel_rfl
theorem ff23 (X : K.In h) (Gm : h.Ns mainGlobals mg) (c : He.SaysD fa fn K) : FFact K mg (w "told_row") := by
  obtain ⟨fd, F⟩ := c.def_ 23 (d := dAt 70) (by kernel_rfl)
  have F' : FunD K (w "told_row") (w "told_row") (defArgs (top 70)) (defBody (top 70)) (defScope (top 70)) [] [] (He.ga K (w "told_row")) fd := F
  exact ⟨_, top 70, fd, p_told_row, [w "key", w "free", w "shapes", w "shape"], F', F'.bindsN (fun _ _ _ _ _ _ us hl => match us, hl with | [_, _], _ => rfl), He.glo_ok X Gm (c.fact 23 (f := .glo (w "told_row")) (by kernel_rfl)), by kernel_rfl, cc23⟩
theorem cc24 : cF G Fs B [w "free", w "shapes", w "found", w "shape"] (top 71) = some p_with_more := by kernel_rfl
theorem ff24 (X : K.In h) (Gm : h.Ns mainGlobals mg) (c : He.SaysD fa fn K) : FFact K mg (w "with_more") := by
  obtain ⟨fd, F⟩ := c.def_ 24 (d := dAt 71) (by kernel_rfl)
  have F' : FunD K (w "with_more") (w "with_more") (defArgs (top 71)) (defBody (top 71)) (defScope (top 71)) [] [] (He.ga K (w "with_more")) fd := F
  exact ⟨_, top 71, fd, p_with_more, [w "free", w "shapes", w "found", w "shape"], F', F'.bindsN (fun _ _ _ _ _ _ us hl => match us, hl with | [_, _], _ => rfl), He.glo_ok X Gm (c.fact 24 (f := .glo (w "with_more")) (by kernel_rfl)), by kernel_rfl, cc24⟩
theorem cc25 : cF G Fs B [w "standing", w "key", w "shapes"] (top 72) = some p_row_in := by kernel_rfl
theorem ff25 (X : K.In h) (Gm : h.Ns mainGlobals mg) (c : He.SaysD fa fn K) : FFact K mg (w "row_in") := by
  obtain ⟨fd, F⟩ := c.def_ 25 (d := dAt 72) (by kernel_rfl)
  have F' : FunD K (w "row_in") (w "row_in") (defArgs (top 72)) (defBody (top 72)) (defScope (top 72)) [] [] (He.ga K (w "row_in")) fd := F
  exact ⟨_, top 72, fd, p_row_in, [w "standing", w "key", w "shapes"], F', F'.bindsN (fun _ _ _ _ _ _ us hl => match us, hl with | [_], _ => rfl), He.glo_ok X Gm (c.fact 25 (f := .glo (w "row_in")) (by kernel_rfl)), by kernel_rfl, cc25⟩
theorem cc26 : cF G Fs B [w "setup", w "standing"] (top 73) = some p_row_of := by kernel_rfl
theorem ff26 (X : K.In h) (Gm : h.Ns mainGlobals mg) (c : He.SaysD fa fn K) : FFact K mg (w "row_of") := by
  obtain ⟨fd, F⟩ := c.def_ 26 (d := dAt 73) (by kernel_rfl)
  have F' : FunD K (w "row_of") (w "row_of") (defArgs (top 73)) (defBody (top 73)) (defScope (top 73)) [] [] (He.ga K (w "row_of")) fd := F
  exact ⟨_, top 73, fd, p_row_of, [w "setup", w "standing"], F', F'.bindsN (fun _ _ _ _ _ _ us hl => match us, hl with | [_, _], _ => rfl), He.glo_ok X Gm (c.fact 26 (f := .glo (w "row_of")) (by kernel_rfl)), by kernel_rfl, cc26⟩
theorem cc27 : cF G Fs B [w "setup", w "thing", w "pair", w "shape", w "one", w "other"] (top 74) = some p_are_shapes := by kernel_rfl
theorem ff27 (X : K.In h) (Gm : h.Ns mainGlobals mg) (c : He.SaysD fa fn K) : FFact K mg (w "are_shapes") := by
  obtain ⟨fd, F⟩ := c.def_ 27 (d := dAt 74) (by kernel_rfl)
  have F' : FunD K (w "are_shapes") (w "are_shapes") (defArgs (top 74)) (defBody (top 74)) (defScope (top 74)) [] [] (He.ga K (w "are_shapes")) fd := F
  exact ⟨_, top 74, fd, p_are_shapes, [w "setup", w "thing", w "pair", w "shape", w "one", w "other"], F', F'.bindsN (fun _ _ _ _ _ _ us hl => match us, hl with | [_, _], _ => rfl), He.glo_ok X Gm (c.fact 27 (f := .glo (w "are_shapes")) (by kernel_rfl)), by kernel_rfl, cc27⟩
theorem cc28 : cF G Fs B [w "script", w "front", w "shapes", w "fronts", w "many", w "job", w "role", w "hands"] (top 75) = some p_have_roles := by kernel_rfl
theorem ff28 (X : K.In h) (Gm : h.Ns mainGlobals mg) (c : He.SaysD fa fn K) : FFact K mg (w "have_roles") := by
  obtain ⟨fd, F⟩ := c.def_ 28 (d := dAt 75) (by kernel_rfl)
  have F' : FunD K (w "have_roles") (w "have_roles") (defArgs (top 75)) (defBody (top 75)) (defScope (top 75)) [] [] (He.ga K (w "have_roles")) fd := F
  exact ⟨_, top 75, fd, p_have_roles, [w "script", w "front", w "shapes", w "fronts", w "many", w "job", w "role", w "hands"], F', F'.bindsN (fun _ _ _ _ _ _ us hl => match us, hl with | [_, _, _], _ => rfl), He.glo_ok X Gm (c.fact 28 (f := .glo (w "have_roles")) (by kernel_rfl)), by kernel_rfl, cc28⟩
theorem cc29 : cF G Fs B [w "setup", w "thing", w "script", w "place", w "front", w "mode", w "shapes"] (top 76) = some p_is_row_in := by kernel_rfl
theorem ff29 (X : K.In h) (Gm : h.Ns mainGlobals mg) (c : He.SaysD fa fn K) : FFact K mg (w "is_row_in") := by
  obtain ⟨fd, F⟩ := c.def_ 29 (d := dAt 76) (by kernel_rfl)
  have F' : FunD K (w "is_row_in") (w "is_row_in") (defArgs (top 76)) (defBody (top 76)) (defScope (top 76)) [] [] (He.ga K (w "is_row_in")) fd := F
  exact ⟨_, top 76, fd, p_is_row_in, [w "setup", w "thing", w "script", w "place", w "front", w "mode", w "shapes"], F', F'.bindsN (fun _ _ _ _ _ _ us hl => match us, hl with | [_, _], _ => rfl), He.glo_ok X Gm (c.fact 29 (f := .glo (w "is_row_in")) (by kernel_rfl)), by kernel_rfl, cc29⟩
theorem cc30 : cF G Fs B [w "setup", w "thing"] (top 77) = some p_need_row := by kernel_rfl
theorem ff30 (X : K.In h) (Gm : h.Ns mainGlobals mg) (c : He.SaysD fa fn K) : FFact K mg (w "need_row") := by
  obtain ⟨fd, F⟩ := c.def_ 30 (d := dAt 77) (by kernel_rfl)
  have F' : FunD K (w "need_row") (w "need_row") (defArgs (top 77)) (defBody (top 77)) (defScope (top 77)) [] [] (He.ga K (w "need_row")) fd := F
  exact ⟨_, top 77, fd, p_need_row, [w "setup", w "thing"], F', F'.bindsN (fun _ _ _ _ _ _ us hl => match us, hl with | [_, _], _ => rfl), He.glo_ok X Gm (c.fact 30 (f := .glo (w "need_row")) (by kernel_rfl)), by kernel_rfl, cc30⟩
theorem cc31 : cF G Fs B [w "free", w "most", w "shape", w "many", w "bound"] (top 78) = some p_are_within := by kernel_rfl
theorem ff31 (X : K.In h) (Gm : h.Ns mainGlobals mg) (c : He.SaysD fa fn K) : FFact K mg (w "are_within") := by
  obtain ⟨fd, F⟩ := c.def_ 31 (d := dAt 78) (by kernel_rfl)
  have F' : FunD K (w "are_within") (w "are_within") (defArgs (top 78)) (defBody (top 78)) (defScope (top 78)) [] [] (He.ga K (w "are_within")) fd := F
  exact ⟨_, top 78, fd, p_are_within, [w "free", w "most", w "shape", w "many", w "bound"], F', F'.bindsN (fun _ _ _ _ _ _ us hl => match us, hl with | [_, _], _ => rfl), He.glo_ok X Gm (c.fact 31 (f := .glo (w "are_within")) (by kernel_rfl)), by kernel_rfl, cc31⟩
theorem cc32 : cF G Fs B [w "row", w "other"] (top 79) = some p_is_below := by kernel_rfl
theorem ff32 (X : K.In h) (Gm : h.Ns mainGlobals mg) (c : He.SaysD fa fn K) : FFact K mg (w "is_below") := by
  obtain ⟨fd, F⟩ := c.def_ 32 (d := dAt 79) (by kernel_rfl)
  have F' : FunD K (w "is_below") (w "is_below") (defArgs (top 79)) (defBody (top 79)) (defScope (top 79)) [] [] (He.ga K (w "is_below")) fd := F
  exact ⟨_, top 79, fd, p_is_below, [w "row", w "other"], F', F'.bindsN (fun _ _ _ _ _ _ us hl => match us, hl with | [_, _], _ => rfl), He.glo_ok X Gm (c.fact 32 (f := .glo (w "is_below")) (by kernel_rfl)), by kernel_rfl, cc32⟩
theorem cc33 : cF G Fs B [w "setup", w "row", w "standing"] (top 80) = some p_covers := by kernel_rfl
theorem ff33 (X : K.In h) (Gm : h.Ns mainGlobals mg) (c : He.SaysD fa fn K) : FFact K mg (w "covers") := by
  obtain ⟨fd, F⟩ := c.def_ 33 (d := dAt 80) (by kernel_rfl)
  have F' : FunD K (w "covers") (w "covers") (defArgs (top 80)) (defBody (top 80)) (defScope (top 80)) [] [] (He.ga K (w "covers")) fd := F
  exact ⟨_, top 80, fd, p_covers, [w "setup", w "row", w "standing"], F', F'.bindsN (fun _ _ _ _ _ _ us hl => match us, hl with | [_, _, _], _ => rfl), He.glo_ok X Gm (c.fact 33 (f := .glo (w "covers")) (by kernel_rfl)), by kernel_rfl, cc33⟩
theorem cc34 : cF G Fs B [w "setup", w "row", w "other"] (top 81) = some p_is_under := by kernel_rfl
theorem ff34 (X : K.In h) (Gm : h.Ns mainGlobals mg) (c : He.SaysD fa fn K) : FFact K mg (w "is_under") := by
  obtain ⟨fd, F⟩ := c.def_ 34 (d := dAt 81) (by kernel_rfl)
  have F' : FunD K (w "is_under") (w "is_under") (defArgs (top 81)) (defBody (top 81)) (defScope (top 81)) [] [] (He.ga K (w "is_under")) fd := F
  exact ⟨_, top 81, fd, p_is_under, [w "setup", w "row", w "other"], F', F'.bindsN (fun _ _ _ _ _ _ us hl => match us, hl with | [_, _, _], _ => rfl), He.glo_ok X Gm (c.fact 34 (f := .glo (w "is_under")) (by kernel_rfl)), by kernel_rfl, cc34⟩
theorem cc35 : cF G Fs B [w "script", w "seed", w "cell"] (top 83) = some p__law_begun := by kernel_rfl
theorem ff35 (X : K.In h) (Gm : h.Ns mainGlobals mg) (c : He.SaysD fa fn K) : FFact K mg (w "_law_begun") := by
  obtain ⟨fd, F⟩ := c.def_ 35 (d := dAt 83) (by kernel_rfl)
  have F' : FunD K (w "_law_begun") (w "_law_begun") (defArgs (top 83)) (defBody (top 83)) (defScope (top 83)) [] [] (He.ga K (w "_law_begun")) fd := F
  exact ⟨_, top 83, fd, p__law_begun, [w "script", w "seed", w "cell"], F', F'.bindsN (fun _ _ _ _ _ _ us hl => match us, hl with | [_], _ => rfl), He.glo_ok X Gm (c.fact 35 (f := .glo (w "_law_begun")) (by kernel_rfl)), by kernel_rfl, cc35⟩
theorem cc36 : cF G Fs B [w "m", w "limit", w "cell", w "mixed"] (top 84) = some p__law_draw := by kernel_rfl
theorem ff36 (X : K.In h) (Gm : h.Ns mainGlobals mg) (c : He.SaysD fa fn K) : FFact K mg (w "_law_draw") := by
  obtain ⟨fd, F⟩ := c.def_ 36 (d := dAt 84) (by kernel_rfl)
  have F' : FunD K (w "_law_draw") (w "_law_draw") (defArgs (top 84)) (defBody (top 84)) (defScope (top 84)) [] [] (He.ga K (w "_law_draw")) fd := F
  exact ⟨_, top 84, fd, p__law_draw, [w "m", w "limit", w "cell", w "mixed"], F', F'.bindsN (fun _ _ _ _ _ _ us hl => match us, hl with | [_, _], _ => rfl), He.glo_ok X Gm (c.fact 36 (f := .glo (w "_law_draw")) (by kernel_rfl)), by kernel_rfl, cc36⟩
theorem cc37 : cF G Fs B [w "m", w "some"] (top 85) = some p__law_of := by kernel_rfl
theorem ff37 (X : K.In h) (Gm : h.Ns mainGlobals mg) (c : He.SaysD fa fn K) : FFact K mg (w "_law_of") := by
  obtain ⟨fd, F⟩ := c.def_ 37 (d := dAt 85) (by kernel_rfl)
  have F' : FunD K (w "_law_of") (w "_law_of") (defArgs (top 85)) (defBody (top 85)) (defScope (top 85)) [] [] (He.ga K (w "_law_of")) fd := F
  exact ⟨_, top 85, fd, p__law_of, [w "m", w "some"], F', F'.bindsN (fun _ _ _ _ _ _ us hl => match us, hl with | [_, _], _ => rfl), He.glo_ok X Gm (c.fact 37 (f := .glo (w "_law_of")) (by kernel_rfl)), by kernel_rfl, cc37⟩
theorem cc38 : cF G Fs B [w "m", w "words", w "least", w "most", w "k"] (top 86) = some p__law_some := by kernel_rfl
theorem ff38 (X : K.In h) (Gm : h.Ns mainGlobals mg) (c : He.SaysD fa fn K) : FFact K mg (w "_law_some") := by
  obtain ⟨fd, F⟩ := c.def_ 38 (d := dAt 86) (by kernel_rfl)
  have F' : FunD K (w "_law_some") (w "_law_some") (defArgs (top 86)) (defBody (top 86)) (defScope (top 86)) [] [] (He.ga K (w "_law_some")) fd := F
  exact ⟨_, top 86, fd, p__law_some, [w "m", w "words", w "least", w "most", w "k"], F', F'.bindsN (fun _ _ _ _ _ _ us hl => match us, hl with | [_, _, _, _], _ => rfl), He.glo_ok X Gm (c.fact 38 (f := .glo (w "_law_some")) (by kernel_rfl)), by kernel_rfl, cc38⟩
theorem cc39 : cF G Fs B [w "m", w "kinds", w "acts", w "steps", w "doing", w "some", w "k", w "rules"] (top 87) = some p__law_setup := by kernel_rfl
theorem ff39 (X : K.In h) (Gm : h.Ns mainGlobals mg) (c : He.SaysD fa fn K) : FFact K mg (w "_law_setup") := by
  obtain ⟨fd, F⟩ := c.def_ 39 (d := dAt 87) (by kernel_rfl)
  have F' : FunD K (w "_law_setup") (w "_law_setup") (defArgs (top 87)) (defBody (top 87)) (defScope (top 87)) [] [] (He.ga K (w "_law_setup")) fd := F
  exact ⟨_, top 87, fd, p__law_setup, [w "m", w "kinds", w "acts", w "steps", w "doing", w "some", w "k", w "rules"], F', F'.bindsN (fun _ _ _ _ _ _ us hl => match us, hl with | [_, _, _, _], _ => rfl), He.glo_ok X Gm (c.fact 39 (f := .glo (w "_law_setup")) (by kernel_rfl)), by kernel_rfl, cc39⟩
theorem cc40 : cF G Fs B [w "setup", w "word"] (top 88) = some p__law_script := by kernel_rfl
theorem ff40 (X : K.In h) (Gm : h.Ns mainGlobals mg) (c : He.SaysD fa fn K) : FFact K mg (w "_law_script") := by
  obtain ⟨fd, F⟩ := c.def_ 40 (d := dAt 88) (by kernel_rfl)
  have F' : FunD K (w "_law_script") (w "_law_script") (defArgs (top 88)) (defBody (top 88)) (defScope (top 88)) [] [] (He.ga K (w "_law_script")) fd := F
  exact ⟨_, top 88, fd, p__law_script, [w "setup", w "word"], F', F'.bindsN (fun _ _ _ _ _ _ us hl => match us, hl with | [_, _], _ => rfl), He.glo_ok X Gm (c.fact 40 (f := .glo (w "_law_script")) (by kernel_rfl)), by kernel_rfl, cc40⟩
theorem cc41 : cF G Fs B [w "m", w "setup", w "jobs", w "made", w "j", w "kind", w "state", w "notice", w "job", w "own", w "held", w "word", w "one", w "place", w "fronts", w "hand"] (top 89) = some p__law_state := by kernel_rfl
theorem ff41 (X : K.In h) (Gm : h.Ns mainGlobals mg) (c : He.SaysD fa fn K) : FFact K mg (w "_law_state") := by
  obtain ⟨fd, F⟩ := c.def_ 41 (d := dAt 89) (by kernel_rfl)
  have F' : FunD K (w "_law_state") (w "_law_state") (defArgs (top 89)) (defBody (top 89)) (defScope (top 89)) [] [] (He.ga K (w "_law_state")) fd := F
  exact ⟨_, top 89, fd, p__law_state, [w "m", w "setup", w "jobs", w "made", w "j", w "kind", w "state", w "notice", w "job", w "own", w "held", w "word", w "one", w "place", w "fronts", w "hand"], F', F'.bindsN (fun _ _ _ _ _ _ us hl => match us, hl with | [_, _], _ => rfl), He.glo_ok X Gm (c.fact 41 (f := .glo (w "_law_state")) (by kernel_rfl)), by kernel_rfl, cc41⟩
theorem cc42 : cF G Fs B [w "thing", w "least", w "most"] (top 90) = some p__law_is_whole := by kernel_rfl
theorem ff42 (X : K.In h) (Gm : h.Ns mainGlobals mg) (c : He.SaysD fa fn K) : FFact K mg (w "_law_is_whole") := by
  obtain ⟨fd, F⟩ := c.def_ 42 (d := dAt 90) (by kernel_rfl)
  have F' : FunD K (w "_law_is_whole") (w "_law_is_whole") (defArgs (top 90)) (defBody (top 90)) (defScope (top 90)) [] [] (He.ga K (w "_law_is_whole")) fd := F
  exact ⟨_, top 90, fd, p__law_is_whole, [w "thing", w "least", w "most"], F', F'.bindsN (fun _ _ _ _ _ _ us hl => match us, hl with | [_, _, _], _ => rfl), He.glo_ok X Gm (c.fact 42 (f := .glo (w "_law_is_whole")) (by kernel_rfl)), by kernel_rfl, cc42⟩
theorem cc43 : cF G Fs B [w "thing", w "words"] (top 91) = some p__law_is_word := by kernel_rfl
theorem ff43 (X : K.In h) (Gm : h.Ns mainGlobals mg) (c : He.SaysD fa fn K) : FFact K mg (w "_law_is_word") := by
  obtain ⟨fd, F⟩ := c.def_ 43 (d := dAt 91) (by kernel_rfl)
  have F' : FunD K (w "_law_is_word") (w "_law_is_word") (defArgs (top 91)) (defBody (top 91)) (defScope (top 91)) [] [] (He.ga K (w "_law_is_word")) fd := F
  exact ⟨_, top 91, fd, p__law_is_word, [w "thing", w "words"], F', F'.bindsN (fun _ _ _ _ _ _ us hl => match us, hl with | [_, _], _ => rfl), He.glo_ok X Gm (c.fact 43 (f := .glo (w "_law_is_word")) (by kernel_rfl)), by kernel_rfl, cc43⟩
theorem cc44 : cF G Fs B [w "setup", w "thing"] (top 92) = some p__law_is_job := by kernel_rfl
theorem ff44 (X : K.In h) (Gm : h.Ns mainGlobals mg) (c : He.SaysD fa fn K) : FFact K mg (w "_law_is_job") := by
  obtain ⟨fd, F⟩ := c.def_ 44 (d := dAt 92) (by kernel_rfl)
  have F' : FunD K (w "_law_is_job") (w "_law_is_job") (defArgs (top 92)) (defBody (top 92)) (defScope (top 92)) [] [] (He.ga K (w "_law_is_job")) fd := F
  exact ⟨_, top 92, fd, p__law_is_job, [w "setup", w "thing"], F', F'.bindsN (fun _ _ _ _ _ _ us hl => match us, hl with | [_, _], _ => rfl), He.glo_ok X Gm (c.fact 44 (f := .glo (w "_law_is_job")) (by kernel_rfl)), by kernel_rfl, cc44⟩
theorem cc45 : cF G Fs B [w "standing", w "j"] (top 93) = some p__law_role := by kernel_rfl
theorem ff45 (X : K.In h) (Gm : h.Ns mainGlobals mg) (c : He.SaysD fa fn K) : FFact K mg (w "_law_role") := by
  obtain ⟨fd, F⟩ := c.def_ 45 (d := dAt 93) (by kernel_rfl)
  have F' : FunD K (w "_law_role") (w "_law_role") (defArgs (top 93)) (defBody (top 93)) (defScope (top 93)) [] [] (He.ga K (w "_law_role")) fd := F
  exact ⟨_, top 93, fd, p__law_role, [w "standing", w "j"], F', F'.bindsN (fun _ _ _ _ _ _ us hl => match us, hl with | [_, _], _ => rfl), He.glo_ok X Gm (c.fact 45 (f := .glo (w "_law_role")) (by kernel_rfl)), by kernel_rfl, cc45⟩
theorem cc46 : cF G Fs B [w "standing", w "more", w "many", w "shape", w "j", w "job", w "front", w "lots"] (top 94) = some p__law_row := by kernel_rfl
theorem ff46 (X : K.In h) (Gm : h.Ns mainGlobals mg) (c : He.SaysD fa fn K) : FFact K mg (w "_law_row") := by
  obtain ⟨fd, F⟩ := c.def_ 46 (d := dAt 94) (by kernel_rfl)
  have F' : FunD K (w "_law_row") (w "_law_row") (defArgs (top 94)) (defBody (top 94)) (defScope (top 94)) [] [] (He.ga K (w "_law_row")) fd := F
  exact ⟨_, top 94, fd, p__law_row, [w "standing", w "more", w "many", w "shape", w "j", w "job", w "front", w "lots"], F', F'.bindsN (fun _ _ _ _ _ _ us hl => match us, hl with | [_, _], _ => rfl), He.glo_ok X Gm (c.fact 46 (f := .glo (w "_law_row")) (by kernel_rfl)), by kernel_rfl, cc46⟩
theorem cc47 : cF G Fs B [w "row", w "other", w "mine", w "theirs", w "shape"] (top 95) = some p__law_below := by kernel_rfl
theorem ff47 (X : K.In h) (Gm : h.Ns mainGlobals mg) (c : He.SaysD fa fn K) : FFact K mg (w "_law_below") := by
  obtain ⟨fd, F⟩ := c.def_ 47 (d := dAt 95) (by kernel_rfl)
  have F' : FunD K (w "_law_below") (w "_law_below") (defArgs (top 95)) (defBody (top 95)) (defScope (top 95)) [] [] (He.ga K (w "_law_below")) fd := F
  exact ⟨_, top 95, fd, p__law_below, [w "row", w "other", w "mine", w "theirs", w "shape"], F', F'.bindsN (fun _ _ _ _ _ _ us hl => match us, hl with | [_, _], _ => rfl), He.glo_ok X Gm (c.fact 47 (f := .glo (w "_law_below")) (by kernel_rfl)), by kernel_rfl, cc47⟩
theorem cc48 : cF G Fs B [w "m", w "setup", w "row", w "some", w "shape", w "many"] (top 96) = some p__law_some_row := by kernel_rfl
theorem ff48 (X : K.In h) (Gm : h.Ns mainGlobals mg) (c : He.SaysD fa fn K) : FFact K mg (w "_law_some_row") := by
  obtain ⟨fd, F⟩ := c.def_ 48 (d := dAt 96) (by kernel_rfl)
  have F' : FunD K (w "_law_some_row") (w "_law_some_row") (defArgs (top 96)) (defBody (top 96)) (defScope (top 96)) [] [] (He.ga K (w "_law_some_row")) fd := F
  exact ⟨_, top 96, fd, p__law_some_row, [w "m", w "setup", w "row", w "some", w "shape", w "many"], F', F'.bindsN (fun _ _ _ _ _ _ us hl => match us, hl with | [_, _], _ => rfl), He.glo_ok X Gm (c.fact 48 (f := .glo (w "_law_some_row")) (by kernel_rfl)), by kernel_rfl, cc48⟩
theorem cc49 : cF G Fs B [w "setup", w "thing", w "word", w "place", w "front", w "mode", w "shapes", w "pair", w "some", w "shape", w "many", w "one", w "other", w "fronts", w "job", w "role", w "hands"] (top 97) = some p__law_is_row := by kernel_rfl
theorem ff49 (X : K.In h) (Gm : h.Ns mainGlobals mg) (c : He.SaysD fa fn K) : FFact K mg (w "_law_is_row") := by
  obtain ⟨fd, F⟩ := c.def_ 49 (d := dAt 97) (by kernel_rfl)
  have F' : FunD K (w "_law_is_row") (w "_law_is_row") (defArgs (top 97)) (defBody (top 97)) (defScope (top 97)) [] [] (He.ga K (w "_law_is_row")) fd := F
  exact ⟨_, top 97, fd, p__law_is_row, [w "setup", w "thing", w "word", w "place", w "front", w "mode", w "shapes", w "pair", w "some", w "shape", w "many", w "one", w "other", w "fronts", w "job", w "role", w "hands"], F', F'.bindsN (fun _ _ _ _ _ _ us hl => match us, hl with | [_, _], _ => rfl), He.glo_ok X Gm (c.fact 49 (f := .glo (w "_law_is_row")) (by kernel_rfl)), by kernel_rfl, cc49⟩
theorem cc50 : cF G Fs B [w "setup", w "thing", w "shape"] (top 98) = some p__law_is_lot := by kernel_rfl
theorem ff50 (X : K.In h) (Gm : h.Ns mainGlobals mg) (c : He.SaysD fa fn K) : FFact K mg (w "_law_is_lot") := by
  obtain ⟨fd, F⟩ := c.def_ 50 (d := dAt 98) (by kernel_rfl)
  have F' : FunD K (w "_law_is_lot") (w "_law_is_lot") (defArgs (top 98)) (defBody (top 98)) (defScope (top 98)) [] [] (He.ga K (w "_law_is_lot")) fd := F
  exact ⟨_, top 98, fd, p__law_is_lot, [w "setup", w "thing", w "shape"], F', F'.bindsN (fun _ _ _ _ _ _ us hl => match us, hl with | [_, _], _ => rfl), He.glo_ok X Gm (c.fact 50 (f := .glo (w "_law_is_lot")) (by kernel_rfl)), by kernel_rfl, cc50⟩
theorem cc51 : cF G Fs B [w "row", w "extra", w "front", w "hand", w "jobs", w "shape", w "many", w "k"] (top 99) = some p__law_full := by kernel_rfl
theorem ff51 (X : K.In h) (Gm : h.Ns mainGlobals mg) (c : He.SaysD fa fn K) : FFact K mg (w "_law_full") := by
  obtain ⟨fd, F⟩ := c.def_ 51 (d := dAt 99) (by kernel_rfl)
  have F' : FunD K (w "_law_full") (w "_law_full") (defArgs (top 99)) (defBody (top 99)) (defScope (top 99)) [] [] (He.ga K (w "_law_full")) fd := F
  exact ⟨_, top 99, fd, p__law_full, [w "row", w "extra", w "front", w "hand", w "jobs", w "shape", w "many", w "k"], F', F'.bindsN (fun _ _ _ _ _ _ us hl => match us, hl with | [_, _], _ => rfl), He.glo_ok X Gm (c.fact 51 (f := .glo (w "_law_full")) (by kernel_rfl)), by kernel_rfl, cc51⟩
theorem cc52 : cF G Fs B [w "m", w "setup", w "row", w "way", w "some", w "shape", w "many"] (top 100) = some p__law_other := by kernel_rfl
theorem ff52 (X : K.In h) (Gm : h.Ns mainGlobals mg) (c : He.SaysD fa fn K) : FFact K mg (w "_law_other") := by
  obtain ⟨fd, F⟩ := c.def_ 52 (d := dAt 100) (by kernel_rfl)
  have F' : FunD K (w "_law_other") (w "_law_other") (defArgs (top 100)) (defBody (top 100)) (defScope (top 100)) [] [] (He.ga K (w "_law_other")) fd := F
  exact ⟨_, top 100, fd, p__law_other, [w "m", w "setup", w "row", w "way", w "some", w "shape", w "many"], F', F'.bindsN (fun _ _ _ _ _ _ us hl => match us, hl with | [_, _, _], _ => rfl), He.glo_ok X Gm (c.fact 52 (f := .glo (w "_law_other")) (by kernel_rfl)), by kernel_rfl, cc52⟩
theorem cc53 : cF G Fs B [w "setup", w "row", w "other", w "due", w "most", w "shape", w "many", w "great"] (top 101) = some p__law_right := by kernel_rfl
theorem ff53 (X : K.In h) (Gm : h.Ns mainGlobals mg) (c : He.SaysD fa fn K) : FFact K mg (w "_law_right") := by
  obtain ⟨fd, F⟩ := c.def_ 53 (d := dAt 101) (by kernel_rfl)
  have F' : FunD K (w "_law_right") (w "_law_right") (defArgs (top 101)) (defBody (top 101)) (defScope (top 101)) [] [] (He.ga K (w "_law_right")) fd := F
  exact ⟨_, top 101, fd, p__law_right, [w "setup", w "row", w "other", w "due", w "most", w "shape", w "many", w "great"], F', F'.bindsN (fun _ _ _ _ _ _ us hl => match us, hl with | [_, _, _], _ => rfl), He.glo_ok X Gm (c.fact 53 (f := .glo (w "_law_right")) (by kernel_rfl)), by kernel_rfl, cc53⟩
theorem cc54 : cF G Fs B [w "script", w "m", w "turn", w "setup", w "row", w "some", w "one", w "other", w "far", w "again", w "third"] (top 102) = some p_law := by kernel_rfl
theorem ff54 (X : K.In h) (Gm : h.Ns mainGlobals mg) (c : He.SaysD fa fn K) : FFact K mg (w "law") := by
  obtain ⟨fd, F⟩ := c.def_ 54 (d := dAt 102) (by kernel_rfl)
  have F' : FunD K (w "law") (w "law") (defArgs (top 102)) (defBody (top 102)) (defScope (top 102)) [] [] (He.ga K (w "law")) fd := F
  exact ⟨_, top 102, fd, p_law, [w "script", w "m", w "turn", w "setup", w "row", w "some", w "one", w "other", w "far", w "again", w "third"], F', F'.bindsN (fun _ _ _ _ _ _ us hl => match us, hl with | [_], _ => rfl), He.glo_ok X Gm (c.fact 54 (f := .glo (w "law")) (by kernel_rfl)), by kernel_rfl, cc54⟩
theorem fl0 (X : K.In h) (Gm : h.Ns mainGlobals mg) (c : He.SaysD fa fn K) : ∀ f ∈ Fs0, FFact K mg f := by
  unfold Fs0
  simp only [List.forall_mem_cons]
  exact ⟨ff0 X Gm c, ff1 X Gm c, ff2 X Gm c, ff3 X Gm c, ff4 X Gm c, ff5 X Gm c, ff6 X Gm c, ff7 X Gm c, ff8 X Gm c, ff9 X Gm c, ff10 X Gm c, ff11 X Gm c, ff12 X Gm c, ff13 X Gm c, ff14 X Gm c, ff15 X Gm c, fun _ h => nomatch h⟩
theorem fl1 (X : K.In h) (Gm : h.Ns mainGlobals mg) (c : He.SaysD fa fn K) : ∀ f ∈ Fs1, FFact K mg f := by
  unfold Fs1
  simp only [List.forall_mem_cons]
  exact ⟨ff16 X Gm c, ff17 X Gm c, ff18 X Gm c, ff19 X Gm c, ff20 X Gm c, ff21 X Gm c, ff22 X Gm c, ff23 X Gm c, ff24 X Gm c, ff25 X Gm c, ff26 X Gm c, ff27 X Gm c, ff28 X Gm c, ff29 X Gm c, ff30 X Gm c, ff31 X Gm c, fun _ h => nomatch h⟩
theorem fl2 (X : K.In h) (Gm : h.Ns mainGlobals mg) (c : He.SaysD fa fn K) : ∀ f ∈ Fs2, FFact K mg f := by
  unfold Fs2
  simp only [List.forall_mem_cons]
  exact ⟨ff32 X Gm c, ff33 X Gm c, ff34 X Gm c, ff35 X Gm c, ff36 X Gm c, ff37 X Gm c, ff38 X Gm c, ff39 X Gm c, ff40 X Gm c, ff41 X Gm c, ff42 X Gm c, ff43 X Gm c, ff44 X Gm c, ff45 X Gm c, ff46 X Gm c, ff47 X Gm c, fun _ h => nomatch h⟩
theorem fl3 (X : K.In h) (Gm : h.Ns mainGlobals mg) (c : He.SaysD fa fn K) : ∀ f ∈ Fs3, FFact K mg f := by
  unfold Fs3
  simp only [List.forall_mem_cons]
  exact ⟨ff48 X Gm c, ff49 X Gm c, ff50 X Gm c, ff51 X Gm c, ff52 X Gm c, ff53 X Gm c, ff54 X Gm c, fun _ h => nomatch h⟩
theorem fB (X : K.In h) (Gm : h.Ns mainGlobals mg) (c : He.SaysD fa fn K) : ∀ f ∈ B, mg f = none := by
  unfold B
  simp only [List.forall_mem_cons]
  exact ⟨He.free_ok X Gm (c.fact 55 (f := .free (w "len")) (by kernel_rfl)), He.free_ok X Gm (c.fact 56 (f := .free (w "tuple")) (by kernel_rfl)), He.free_ok X Gm (c.fact 57 (f := .free (w "int")) (by kernel_rfl)), He.free_ok X Gm (c.fact 58 (f := .free (w "dict")) (by kernel_rfl)), He.free_ok X Gm (c.fact 59 (f := .free (w "sorted")) (by kernel_rfl)), He.free_ok X Gm (c.fact 60 (f := .free (w "all")) (by kernel_rfl)), He.free_ok X Gm (c.fact 61 (f := .free (w "repr")) (by kernel_rfl)), He.free_ok X Gm (c.fact 62 (f := .free (w "max")) (by kernel_rfl)), He.free_ok X Gm (c.fact 63 (f := .free (w "min")) (by kernel_rfl)), He.free_ok X Gm (c.fact 64 (f := .free (w "isinstance")) (by kernel_rfl)), He.free_ok X Gm (c.fact 65 (f := .free (w "bool")) (by kernel_rfl)), He.free_ok X Gm (c.fact 66 (f := .free (w "str")) (by kernel_rfl)), He.free_ok X Gm (c.fact 67 (f := .free (w "range")) (by kernel_rfl)), He.free_ok X Gm (c.fact 68 (f := .free (w "enumerate")) (by kernel_rfl)), He.free_ok X Gm (c.fact 69 (f := .free (w "zip")) (by kernel_rfl)), fun _ h => nomatch h⟩
theorem pgFs : pg.map (·.1) = Fs := by kernel_rfl
theorem lawF (X : K.In h) (Gm : h.Ns mainGlobals mg) (c : SaysF G fa fn K) (base : Heap) : LawFacts P w' K mg base pg G Fs B where
  fn := fun f hf => by
    have hm : f ∈ Fs := by simpa using hf
    unfold Fs at hm
    simp only [List.mem_append] at hm
    rcases hm with ((h0 | h1) | h2) | h3
    · exact fl0 X Gm c.says f h0
    · exact fl1 X Gm c.says f h1
    · exact fl2 X Gm c.says f h2
    · exact fl3 X Gm c.says f h3
  fs := fun f F hl => by
    have := List.mem_map_of_mem (f := (·.1)) (PySem.mem_of_lookup hl)
    rw [pgFs] at this
    simpa using this
  G := fun x d hx => c.glo X Gm hx
  B := fun f hf => fB X Gm c.says f (by simpa using hf)
theorem facts {f : Addr} (X : K.In h) (Gm : h.Ns mainGlobals mg) (hfa : mg (w "law") = some (.ref f)) (c : SaysF G fa fn K) :
    ∃ fd : FuncData, (∀ (s : Shared) (v : Value), BindsTo s fd ⟨[v], []⟩ [("script", v)]) ∧ ∀ base : Heap, K.In base → base.Ns mainGlobals mg → FnOk P w' K mg base CX0 20 f fd ["script"] (spF P w' K (fun_ pg 20000 20) (w "law")) := by
  obtain ⟨fd, F⟩ := c.says.def_ 54 (d := dAt 102) (by kernel_rfl)
  have F' : FunD K (w "law") (w "law") (defArgs (top 102)) (defBody (top 102)) (defScope (top 102)) [] [] (He.ga K (w "law")) fd := F
  have e := hfa.symm.trans (He.glo_ok X Gm (c.says.fact 54 (f := .glo (w "law")) (by kernel_rfl)))
  cases e
  have b := FunD.bindsA (ps := ["script"]) F' fun _ _ _ _ _ _ us hl => match us, hl with | [_], _ => rfl
  refine ⟨fd, fun s v => b s [v] rfl, fun base X' G' => ?_⟩
  have L := lawF (P := P) (w' := w') X Gm c base
  exact f_one (M := 20000) (k := 19) L (f_all L 19) F' (F := p_law) (by kernel_rfl) cc54
end
end FJ.K15

set_option Elab.async false
set_option linter.all false
set_option autoImplicit false
set_option maxRecDepth 100000
/-! M0: how the small form is evaluated, rule by rule. -/
namespace FJ
open PySem
@[simp] theorem obind_ok {α β : Type} (a : α) (r : Rh) (f : α → Rh → Out β) : (Out.ok a r).bind f = f a r := rfl
@[simp] theorem obind_exc {α β : Type} (c : Str) (x : PyData) (f : α → Rh → Out β) : (Out.exc c x : Out α).bind f = .exc c x := rfl
@[simp] theorem ite_okB (c : Prop) [Decidable c] (a b : Bool) (r : Rh) : (if c then Out.ok a r else Out.ok b r) = Out.ok (if c then a else b) r := by split <;> rfl
@[simp] theorem ite_okL (c : Prop) [Decidable c] (a b : List PyData) (r : Rh) : (if c then Out.ok a r else Out.ok b r) = Out.ok (if c then a else b) r := by split <;> rfl
@[simp] theorem ite_okP (c : Prop) [Decidable c] (a b : List (PyData × PyData)) (r : Rh) : (if c then Out.ok a r else Out.ok b r) = Out.ok (if c then a else b) r := by split <;> rfl
@[simp] theorem ite_okD (c : Prop) [Decidable c] (a b : PyData) (r : Rh) : (if c then Out.ok (Val.d a) r else Out.ok (Val.d b) r) = Out.ok (Val.d (if c then a else b)) r := by split <;> rfl
@[simp] theorem ite_bool (c : Prop) [Decidable c] (a b : Bool) : (if c then PyData.bool a else PyData.bool b) = PyData.bool (if c then a else b) := by split <;> rfl
@[simp] theorem ite_str (c : Prop) [Decidable c] (a b : Str) : (if c then PyData.str a else PyData.str b) = PyData.str (if c then a else b) := by split <;> rfl
@[simp] theorem ite_int (c : Prop) [Decidable c] (a b : Int) : (if c then PyData.int a else PyData.int b) = PyData.int (if c then a else b) := by split <;> rfl
def rdP (i : Nat) (r : Rh) : Option Slot → Out Val
  | some (.fz d) => .ok (.d d) r
  | some (.ow _) => .ok (.bor i) r
  | some (.fn x) => .ok (.fn x) r
  | some (.scr ns) => .ok (.scr ns) r
  | _ => .stuck
def rdL (i : Nat) (r : Rh) : Option Slot → Out Val
  | some (.fz d) => .ok (.d d) r
  | some (.ow d) => .ok (.d d) (r.set i (.fz d))
  | some (.fn x) => .ok (.fn x) r
  | some (.scr ns) => .ok (.scr ns) r
  | _ => .stuck
@[simp] theorem rdP_fz (i : Nat) (r : Rh) (d : PyData) : rdP i r (some (.fz d)) = .ok (.d d) r := rfl
@[simp] theorem rdP_ow (i : Nat) (r : Rh) (d : PyData) : rdP i r (some (.ow d)) = .ok (.bor i) r := rfl
@[simp] theorem rdP_fn (i : Nat) (r : Rh) (d : Str) : rdP i r (some (.fn d)) = .ok (.fn d) r := rfl
@[simp] theorem rdP_scr (i : Nat) (r : Rh) (d : List Int) : rdP i r (some (.scr d)) = .ok (.scr d) r := rfl
@[simp] theorem rdL_fz (i : Nat) (r : Rh) (d : PyData) : rdL i r (some (.fz d)) = .ok (.d d) r := rfl
@[simp] theorem rdL_ow (i : Nat) (r : Rh) (d : PyData) : rdL i r (some (.ow d)) = .ok (.d d) (r.set i (.fz d)) := rfl
@[simp] theorem rdL_fn (i : Nat) (r : Rh) (d : Str) : rdL i r (some (.fn d)) = .ok (.fn d) r := rfl
@[simp] theorem rdL_scr (i : Nat) (r : Rh) (d : List Int) : rdL i r (some (.scr d)) = .ok (.scr d) r := rfl
def datO : Option Slot → Option PyData
  | some (.fz d) => some d
  | some (.ow d) => some d
  | _ => none
@[simp] theorem datO_fz (d : PyData) : datO (some (.fz d)) = some d := rfl
@[simp] theorem datO_ow (d : PyData) : datO (some (.ow d)) = some d := rfl
@[simp] theorem peek_d (r : Rh) (x : PyData) : Val.peek r (.d x) = some x := rfl
@[simp] theorem peek_fresh (r : Rh) (x : PyData) : Val.peek r (.fresh x) = some x := rfl
@[simp] theorem peek_bor (r : Rh) (i : Nat) : Val.peek r (.bor i) = datO r[i]? := rfl
def kpB (r : Rh) (i : Nat) : Option Slot → Out Val
  | some (.fz y) => .ok (.d y) r
  | some (.ow y) => .ok (.d y) (r.set i (.fz y))
  | _ => .stuck
@[simp] theorem kpB_fz (i : Nat) (r : Rh) (d : PyData) : kpB r i (some (.fz d)) = .ok (.d d) r := rfl
@[simp] theorem kpB_ow (i : Nat) (r : Rh) (d : PyData) : kpB r i (some (.ow d)) = .ok (.d d) (r.set i (.fz d)) := rfl
@[simp] theorem keep_d (r : Rh) (x : PyData) : Val.keep r (.d x) = .ok (.d x) r := rfl
@[simp] theorem keep_fresh (r : Rh) (x : PyData) : Val.keep r (.fresh x) = .ok (.d x) r := rfl
@[simp] theorem keep_bor (r : Rh) (i : Nat) : Val.keep r (.bor i) = kpB r i r[i]? := rfl
@[simp] theorem pkd_ok {β : Type} (v : Val) (r : Rh) (f : PyData → Rh → Out β) : pkd (.ok v r) f = (match v.peek r with
  | some x => f x r
  | none => .stuck) := rfl
def pkO2 {β : Type} (f : PyData → PyData → Out β) : Option PyData → Option PyData → Out β
  | some x, some y => f x y
  | _, _ => .stuck
@[simp] theorem pkO2_some {β : Type} (f : PyData → PyData → Out β) (x y : PyData) : pkO2 f (some x) (some y) = f x y := rfl
@[simp] theorem pk2_def {β : Type} (v u : Val) (r : Rh) (f : PyData → PyData → Out β) : pk2 v u r f = pkO2 f (v.peek r) (u.peek r) := by
  unfold pk2
  cases v.peek r <;> cases u.peek r <;> rfl
@[simp] theorem datE_ok {β : Type} (x : PyData) (r : Rh) (f : PyData → Rh → Out β) : dat (.ok (.d x) r) f = f x r := rfl
@[simp] theorem boo_ok {β : Type} (b : Bool) (r : Rh) (f : Bool → Rh → Out β) : boo (.ok (.d (.bool b)) r) f = f b r := rfl
@[simp] theorem ofO_d (x : PyData) (r : Rh) : ofO (some (.d x)) r = .ok (.d x) r := rfl
@[simp] theorem ofO_fresh (x : PyData) (r : Rh) : ofO (some (.fresh x)) r = .ok (.fresh x) r := rfl
section
variable (Φ : Str → List Slot → Res) (N : Nat)
@[simp] theorem den_loc (i : Nat) (r : Rh) : den Φ (.loc i) r = rdL i r r[i]? := by
  rw [den]
  rcases r[i]? with _ | s
  · rfl
  · cases s <;> rfl
@[simp] theorem den_pk (i : Nat) (r : Rh) : den Φ (.pk i) r = rdP i r r[i]? := by
  rw [den]
  rcases r[i]? with _ | s
  · rfl
  · cases s <;> rfl
@[simp] theorem den_cst (d : PyData) (r : Rh) : den Φ (.cst d) r = .ok (.d d) r := by rw [den]
@[simp] theorem den_fnc (x : Str) (r : Rh) : den Φ (.fnc x) r = .ok (.fn x) r := by rw [den]
@[simp] theorem den_fz (e : IE) (r : Rh) : den Φ (.fz e) r = (den Φ e r).bind fun v r1 => v.keep r1 := by rw [den]
@[simp] theorem den_tup (xs : IL) (r : Rh) : den Φ (.tup xs) r = (denK Φ xs r).bind fun ds r1 => if ds.length ≤ sizeLine then .ok (.d (.tuple ds)) r1 else .stuck := by rw [den]
@[simp] theorem den_lst (xs : IL) (r : Rh) : den Φ (.lst xs) r = (denK Φ xs r).bind fun ds r1 => if ds.length ≤ sizeLine then .ok (.fresh (.list ds)) r1 else .stuck := by rw [den]
@[simp] theorem den_dsp (xs : IL) (r : Rh) : den Φ (.dsp xs) r = (denP Φ xs r).bind fun ps r1 => if ((ps.all fun p => flatKey p.1) && decide (ps.length ≤ 15)) = true then .ok (.fresh (.dict (ps.foldl (fun a p => dput a p.1 p.2) []))) r1 else .stuck := by rw [den]
@[simp] theorem den_bin (o : Bop) (a b : IE) (r : Rh) : den Φ (.bin o a b) r = (den Φ a r).bind fun v r1 => (den Φ b r1).bind fun w r2 => pk2 v w r2 fun x y => ofO (binD o x y) r2 := by rw [den]
@[simp] theorem den_neg (i : Int) (r : Rh) : den Φ (.neg (.cst (.int i))) r = .ok (.d (.int (-i))) r := by rw [den, den_cst]; rfl
@[simp] theorem den_cmp (o : Cop) (a b : IE) (r : Rh) : den Φ (.cmp o a b) r = (den Φ a r).bind fun v r1 => (den Φ b r1).bind fun w r2 => pk2 v w r2 fun x y => ofO ((cmpD o x y).map fun t => .d (.bool t)) r2 := by rw [den]
@[simp] theorem den_chn (o o' : Cop) (a b c : IE) (r : Rh) : den Φ (.chn o o' a b c) r = (den Φ a r).bind fun v r1 => (den Φ b r1).bind fun w r2 => pk2 v w r2 fun x y => match cmpD o x y with
    | some true => (den Φ c r2).bind fun u r3 => pk2 w u r3 fun y' z => ofO ((cmpD o' y' z).map fun t => .d (.bool t)) r3
    | some false => .ok (.d (.bool false)) r2
    | none => .stuck := by rw [den] <;> rfl
@[simp] theorem den_and (a b : IE) (r : Rh) : den Φ (.and a b) r = boo (den Φ a r) fun t r1 => if t = true then boo (den Φ b r1) fun t2 r2 => .ok (.d (.bool t2)) r2 else .ok (.d (.bool false)) r1 := by rw [den]
@[simp] theorem den_or (a b : IE) (r : Rh) : den Φ (.or a b) r = boo (den Φ a r) fun t r1 => if t = true then .ok (.d (.bool true)) r1 else boo (den Φ b r1) fun t2 r2 => .ok (.d (.bool t2)) r2 := by rw [den]
@[simp] theorem den_not (a : IE) (r : Rh) : den Φ (.not a) r = boo (den Φ a r) fun t r1 => .ok (.d (.bool (!t))) r1 := by rw [den]
@[simp] theorem den_ife (c a b : IE) (r : Rh) : den Φ (.ife c a b) r = boo (den Φ c r) fun t r1 => if t = true then den Φ a r1 else den Φ b r1 := by rw [den]
@[simp] theorem den_call (f : Str) (xs : IL) (r : Rh) : den Φ (.call f xs) r = (denV Φ xs r).bind fun vs r1 => called Φ f vs r1 := by rw [den]
def cvO (xs : IL) (r : Rh) : Option Slot → Out Val
  | some (.fn f) => (denV Φ xs r).bind fun vs r1 => called Φ f vs r1
  | _ => .stuck
@[simp] theorem cvO_fn (xs : IL) (r : Rh) (f : Str) : cvO Φ xs r (some (.fn f)) = (denV Φ xs r).bind fun vs r1 => called Φ f vs r1 := rfl
@[simp] theorem den_callv (i : Nat) (xs : IL) (r : Rh) : den Φ (.callv i xs) r = cvO Φ xs r r[i]? := by
  rw [den]
  rcases r[i]? with _ | s
  · rfl
  · cases s <;> rfl
def b1O (b : B1) (r1 : Rh) : Option PyData → Out Val
  | some x => ofO (b1D b x) r1
  | none => .stuck
@[simp] theorem b1O_some (b : B1) (r1 : Rh) (x : PyData) : b1O b r1 (some x) = ofO (b1D b x) r1 := rfl
def b1V (b : B1) (r1 : Rh) : Val → Out Val
  | .scr ns => if b = .len then .ok (.d (.int ns.length)) r1 else .stuck
  | .d x => ofO (b1D b x) r1
  | .fresh x => ofO (b1D b x) r1
  | .bor i => b1O b r1 (datO r1[i]?)
  | .fn _ => .stuck
@[simp] theorem b1V_d (b : B1) (r : Rh) (x : PyData) : b1V b r (.d x) = ofO (b1D b x) r := rfl
@[simp] theorem b1V_fresh (b : B1) (r : Rh) (x : PyData) : b1V b r (.fresh x) = ofO (b1D b x) r := rfl
@[simp] theorem b1V_bor (b : B1) (r : Rh) (i : Nat) : b1V b r (.bor i) = b1O b r (datO r[i]?) := rfl
@[simp] theorem b1V_scr (r : Rh) (ns : List Int) : b1V .len r (.scr ns) = .ok (.d (.int ns.length)) r := rfl
@[simp] theorem den_b1 (b : B1) (a : IE) (r : Rh) : den Φ (.b1 b a) r = (den Φ a r).bind fun v r1 => b1V b r1 v := by
  rw [den]
  congr 1
  funext v r1
  cases v <;> rfl
@[simp] theorem den_b2 (b : B2) (a a' : IE) (r : Rh) : den Φ (.b2 b a a') r = (den Φ a r).bind fun v r1 => (den Φ a' r1).bind fun w r2 => pk2 v w r2 fun x y => ofO (b2D b x y) r2 := by rw [den]
@[simp] theorem den_isi (t : Ty) (a : IE) (r : Rh) : den Φ (.isi t a) r = pkd (den Φ a r) fun x r1 => .ok (.d (.bool (isTy t x))) r1 := by rw [den]
@[simp] theorem den_get (a k x : IE) (r : Rh) : den Φ (.get a k x) r = (den Φ a r).bind fun v r1 => match v.peek r1 with
    | some (.dict _) => (den Φ k r1).bind fun w r2 => dat (den Φ x r2) fun z r3 => pk2 v w r3 fun d y => ofO ((getD d y z).map .d) r3
    | _ => .stuck := by rw [den] <;> rfl
@[simp] theorem den_index (a x : IE) (r : Rh) : den Φ (.index a x) r = (den Φ a r).bind fun v r1 => match v.peek r1 with
    | some d0 => (den Φ x r1).bind fun w r2 => pk2 v w r2 fun d y => if sameK d0 d = true then ofO (indexD d y) r2 else .stuck
    | none => .stuck := by rw [den] <;> rfl
@[simp] theorem den_item (a i : IE) (r : Rh) : den Φ (.item a i) r = (den Φ a r).bind fun v r1 => (den Φ i r1).bind fun w r2 => pk2 v w r2 fun x y => ofO ((itemD x y).map .d) r2 := by rw [den]
def slO (l h : Option Int) (r : Rh) : Option PyData → Out Val
  | some x => ofO (slcD x l h) r
  | none => .stuck
@[simp] theorem slO_some (l h : Option Int) (r : Rh) (x : PyData) : slO l h r (some x) = ofO (slcD x l h) r := rfl
def slV (l h : Option Int) (r : Rh) : Val → Out Val
  | .d x => ofO (slcD x l h) r
  | .fresh x => ofO (slcD x l h) r
  | .bor i => slO l h r (datO r[i]?)
  | _ => .stuck
@[simp] theorem slV_d (l h : Option Int) (r : Rh) (x : PyData) : slV l h r (.d x) = ofO (slcD x l h) r := rfl
@[simp] theorem slV_fresh (l h : Option Int) (r : Rh) (x : PyData) : slV l h r (.fresh x) = ofO (slcD x l h) r := rfl
@[simp] theorem slV_bor (l h : Option Int) (r : Rh) (i : Nat) : slV l h r (.bor i) = slO l h r (datO r[i]?) := rfl
@[simp] theorem den_slc (a : IE) (lo hi : IO) (r : Rh) : den Φ (.slc a lo hi) r = (den Φ a r).bind fun v r1 => (denO Φ lo r1).bind fun l r2 => (denO Φ hi r2).bind fun h r3 => slV l h r3 v := by
  rw [den]
  congr 1
  funext v r1
  congr 1
  funext l r2
  congr 1
  funext h r3
  cases v <;> rfl
@[simp] theorem denK_nil (r : Rh) : denK Φ .nil r = .ok [] r := by rw [denK]
@[simp] theorem denK_cons (e : IE) (es : IL) (r : Rh) : denK Φ (.cons e es) r = dat (den Φ e r) fun x r1 => (denK Φ es r1).bind fun xs r2 => .ok (x :: xs) r2 := by rw [denK]
@[simp] theorem denK_star (e : IE) (es : IL) (r : Rh) : denK Φ (.star e es) r = dat (den Φ e r) fun x r1 => match starD x with
    | some ys => (denK Φ es r1).bind fun xs r2 => .ok (ys ++ xs) r2
    | none => .stuck := by rw [denK] <;> rfl
@[simp] theorem denP_nil (r : Rh) : denP Φ .nil r = .ok [] r := by rw [denP]
@[simp] theorem denP_cons (k v : IE) (es : IL) (r : Rh) : denP Φ (.cons k (.cons v es)) r = dat (den Φ k r) fun x r1 => dat (den Φ v r1) fun y r2 => (denP Φ es r2).bind fun ps r3 => .ok ((x, y) :: ps) r3 := by rw [denP]
@[simp] theorem denV_nil (r : Rh) : denV Φ .nil r = .ok [] r := by rw [denV]
@[simp] theorem denV_cons (e : IE) (es : IL) (r : Rh) : denV Φ (.cons e es) r = (den Φ e r).bind fun v r1 => (denV Φ es r1).bind fun vs r2 => .ok (v :: vs) r2 := by rw [denV]
@[simp] theorem denT_nil (r : Rh) : denT Φ .nil r = .ok true r := by rw [denT]
@[simp] theorem denT_cons (e : IE) (es : IL) (r : Rh) : denT Φ (.cons e es) r = boo (den Φ e r) fun t r1 => if t = true then denT Φ es r1 else .ok false r1 := by rw [denT]
@[simp high] theorem denT_one (e : IE) (r : Rh) : denT Φ (.cons e .nil) r = boo (den Φ e r) fun t r1 => .ok t r1 := by
  rw [denT]
  congr 1
  funext t r1
  cases t
  · rfl
  · rw [if_pos rfl, denT]
@[simp] theorem denO_none (r : Rh) : denO Φ .none r = .ok none r := by rw [denO]
def oInt (r : Rh) : PyData → Out (Option Int)
  | .int i => .ok (some i) r
  | _ => .stuck
@[simp] theorem oInt_int (r : Rh) (i : Int) : oInt r (.int i) = .ok (some i) r := rfl
@[simp] theorem denO_some (e : IE) (r : Rh) : denO Φ (.some e) r = dat (den Φ e r) fun x r1 => oInt r1 x := by
  rw [denO]
  congr 1
def itV (r1 : Rh) : Val → Out (List PyData)
  | .d x => match listD x with
      | some xs => .ok xs r1
      | none => .stuck
  | .scr ns => .ok (ns.map .int) r1
  | _ => .stuck
@[simp] theorem itV_tuple (r : Rh) (xs : List PyData) : itV r (.d (.tuple xs)) = .ok xs r := rfl
@[simp] theorem itV_list (r : Rh) (xs : List PyData) : itV r (.d (.list xs)) = .ok xs r := rfl
@[simp] theorem itV_dict (r : Rh) (xs : List (PyData × PyData)) : itV r (.d (.dict xs)) = .ok (xs.map (·.1)) r := rfl
@[simp] theorem itV_scr (r : Rh) (ns : List Int) : itV r (.scr ns) = .ok (ns.map .int) r := rfl
@[simp] theorem denI_val (e : IE) (r : Rh) : denI Φ (.val e) r = (den Φ e r).bind fun v r1 => itV r1 v := by
  rw [denI]
  congr 1
def rgV (r1 : Rh) : PyData → Out (List PyData)
  | .int i => if (decide (-(2 ^ 62) ≤ i) && decide (i < 2 ^ 62)) = true then .ok (rngD i) r1 else .stuck
  | _ => .stuck
theorem rgV_int (r : Rh) (i : Int) : rgV r (.int i) = if (decide (-(2 ^ 62) ≤ i) && decide (i < 2 ^ 62)) = true then .ok (rngD i) r else .stuck := rfl
@[simp] theorem denI_rng (e : IE) (r : Rh) : denI Φ (.rng e) r = dat (den Φ e r) fun x r1 => rgV r1 x := by
  rw [denI]
  congr 1
def enV (r1 : Rh) : PyData → Out (List PyData)
  | .list xs => .ok (enumD 0 xs) r1
  | .tuple xs => .ok (enumD 0 xs) r1
  | _ => .stuck
@[simp] theorem enV_tuple (r : Rh) (xs : List PyData) : enV r (.tuple xs) = .ok (enumD 0 xs) r := rfl
@[simp] theorem denI_enum (e : IE) (r : Rh) : denI Φ (.enum e) r = dat (den Φ e r) fun x r1 => enV r1 x := by
  rw [denI]
  congr 1
def zpV (r2 : Rh) : PyData → PyData → Out (List PyData)
  | .tuple xs, .tuple ys => .ok (zipD xs ys) r2
  | .list xs, .list ys => .ok (zipD xs ys) r2
  | _, _ => .stuck
@[simp] theorem zpV_tuple (r : Rh) (xs ys : List PyData) : zpV r (.tuple xs) (.tuple ys) = .ok (zipD xs ys) r := rfl
@[simp] theorem zpV_list (r : Rh) (xs ys : List PyData) : zpV r (.list xs) (.list ys) = .ok (zipD xs ys) r := rfl
@[simp] theorem denI_zip (a b : IE) (r : Rh) : denI Φ (.zip a b) r = dat (den Φ a r) fun x r1 => dat (den Φ b r1) fun y r2 => zpV r2 x y := by
  rw [denI]
  congr 1
def imV (r1 : Rh) : PyData → Out (List PyData)
  | .dict kvs => .ok (kvs.map fun p => .tuple [p.1, p.2]) r1
  | _ => .stuck
@[simp] theorem imV_dict (r : Rh) (kvs : List (PyData × PyData)) : imV r (.dict kvs) = .ok (kvs.map fun p => .tuple [p.1, p.2]) r := rfl
@[simp] theorem denI_items (e : IE) (r : Rh) : denI Φ (.items e) r = dat (den Φ e r) fun x r1 => imV r1 x := by
  rw [denI]
  congr 1
def nxO : Option Rh → Out Fl
  | some r2 => .ok .next r2
  | none => .stuck
@[simp] theorem nxO_some (r : Rh) : nxO (some r) = .ok .next r := rfl
@[simp] theorem denS_asg (t : ITg) (e : IE) (r : Rh) : denS Φ N (.asg t e) r = (den Φ e r).bind fun v r1 => nxO (tgV t v r1) := by
  rw [denS]
  congr 1
@[simp] theorem denS_par (is : List Nat) (es : IL) (r : Rh) : denS Φ N (.par is es) r = (denV Φ es r).bind fun vs r1 => nxO (denS.parR is vs r1) := by
  rw [denS]
  congr 1
@[simp] theorem parR_nil (r : Rh) : denS.parR [] [] r = some r := by rw [denS.parR]
def prO (is : List Nat) (vs : List Val) : Option Rh → Option Rh
  | some r1 => denS.parR is vs r1
  | none => none
@[simp] theorem prO_some (is : List Nat) (vs : List Val) (r : Rh) : prO is vs (some r) = denS.parR is vs r := rfl
@[simp] theorem parE_cons (i : Nat) (is : List Nat) (v : Val) (vs : List Val) (r : Rh) : denS.parR (i :: is) (v :: vs) r = prO is vs (tgV (.nm i) v r) := by
  rw [denS.parR]
  cases tgV (.nm i) v r <;> rfl
@[simp] theorem denS_ex (e : IE) (r : Rh) : denS Φ N (.ex e) r = (den Φ e r).bind fun _ r1 => .ok .next r1 := by rw [denS]
@[simp] theorem denS_ite (c : IE) (a b : ISs) (r : Rh) : denS Φ N (.ite c a b) r = boo (den Φ c r) fun t r1 => if t = true then denSs Φ N a r1 else denSs Φ N b r1 := by rw [denS]
@[simp] theorem denS_ret (e : IE) (r : Rh) : denS Φ N (.ret e) r = (den Φ e r).bind fun v r1 => .ok (.ret v) r1 := by rw [denS]
@[simp] theorem denS_raise (c : Str) (e : IE) (r : Rh) : denS Φ N (.raise c e) r = dat (den Φ e r) fun x _ => .exc c x := by rw [denS]
def sqF (Φ : Str → List Slot → Res) (N : Nat) (ss : ISs) (r1 : Rh) : Fl → Out Fl
  | .next => denSs Φ N ss r1
  | .brk => .ok .brk r1
  | .cont => .ok .cont r1
  | .ret v => .ok (.ret v) r1
@[simp] theorem sqF_next (ss : ISs) (r : Rh) : sqF Φ N ss r .next = denSs Φ N ss r := rfl
@[simp] theorem sqF_ret (ss : ISs) (r : Rh) (v : Val) : sqF Φ N ss r (.ret v) = .ok (.ret v) r := rfl
@[simp] theorem sqF_cont (ss : ISs) (r : Rh) : sqF Φ N ss r .cont = .ok .cont r := rfl
@[simp] theorem denSs_nil (r : Rh) : denSs Φ N .nil r = .ok .next r := by rw [denSs]
@[simp] theorem denSs_cons (s : IS) (ss : ISs) (r : Rh) : denSs Φ N (.cons s ss) r = (denS Φ N s r).bind fun fl r1 => sqF Φ N ss r1 fl := by
  rw [denSs]
  congr 1
@[simp] theorem tgV_fresh (i : Nat) (x : PyData) (r : Rh) : tgV (.nm i) (.fresh x) r = some (r.set i (.ow x)) := rfl
@[simp] theorem tgV_d (t : ITg) (x : PyData) (r : Rh) : tgV t (.d x) r = tgD t x r := by
  cases t <;> rfl
@[simp] theorem tgD_nm (i : Nat) (x : PyData) (r : Rh) : tgD (.nm i) x r = some (r.set i (.fz x)) := by rw [tgD]
@[simp] theorem tgD_tp (ts : ITgs) (xs : List PyData) (r : Rh) : tgD (.tp ts) (.tuple xs) r = tgsD ts xs r := by rw [tgD]
@[simp] theorem tgsD_nil (r : Rh) : tgsD .nil [] r = some r := by rw [tgsD]
def tgO (ts : ITgs) (xs : List PyData) : Option Rh → Option Rh
  | some r1 => tgsD ts xs r1
  | none => none
@[simp] theorem tgO_some (ts : ITgs) (xs : List PyData) (r : Rh) : tgO ts xs (some r) = tgsD ts xs r := rfl
@[simp] theorem tgsD_cons (t : ITg) (ts : ITgs) (x : PyData) (xs : List PyData) (r : Rh) : tgsD (.cons t ts) (x :: xs) r = tgO ts xs (tgD t x r) := by
  rw [tgsD]
  cases tgD t x r <;> rfl
end
/-! calls -/
def resO (vs : List Val) (r : Rh) : Res → Out Val
  | .ok (.fz x) outs => .ok (.d x) (backA vs outs r)
  | .ok (.ow x) outs => .ok (.fresh x) (backA vs outs r)
  | .ok _ _ => .stuck
  | .exc c x => .exc c x
  | .stuck => .stuck
@[simp] theorem resO_fz (vs : List Val) (r : Rh) (x : PyData) (o : List Slot) : resO vs r (.ok (.fz x) o) = .ok (.d x) (backA vs o r) := rfl
@[simp] theorem resO_ow (vs : List Val) (r : Rh) (x : PyData) (o : List Slot) : resO vs r (.ok (.ow x) o) = .ok (.fresh x) (backA vs o r) := rfl
@[simp] theorem resO_exc (vs : List Val) (r : Rh) (c : Str) (x : PyData) : resO vs r (.exc c x) = .exc c x := rfl
theorem called_eq {Φ : Str → List Slot → Res} {f : Str} {vs : List Val} {r : Rh} {as : List Slot} {s : Res} (hb : (borsOf vs).Nodup) (ha : argsOf r vs = some as) (hp : Φ f as = s) (hl : ∀ z outs, s = .ok z outs → outs.length = as.length) : called Φ f vs r = resO vs r s := by
  unfold called
  rw [if_pos hb, ha]
  simp only [hp]
  cases s with
  | ok z outs =>
    simp only [hl z outs rfl, if_true]
    cases z <;> rfl
  | exc c x => rfl
  | stuck => rfl
end FJ

set_option Elab.async false
set_option linter.all false
set_option autoImplicit false
set_option maxRecDepth 100000
/-! M1: values, calls, loops of the small form. -/
namespace FJ
open PySem
/-! calls -/
def argB : Option Slot → Option Slot
  | some (.ow x) => some (.ow x)
  | some (.fz x) => some (.fz x)
  | _ => none
@[simp] theorem argB_ow (x : PyData) : argB (some (.ow x)) = some (.ow x) := rfl
@[simp] theorem argB_fz (x : PyData) : argB (some (.fz x)) = some (.fz x) := rfl
@[simp] theorem argOf_d (r : Rh) (x : PyData) : argOf r (.d x) = some (.fz x) := rfl
@[simp] theorem argOf_fresh (r : Rh) (x : PyData) : argOf r (.fresh x) = some (.ow x) := rfl
@[simp] theorem argOf_fn (r : Rh) (x : Str) : argOf r (.fn x) = some (.fn x) := rfl
@[simp] theorem argOf_scr (r : Rh) (x : List Int) : argOf r (.scr x) = some (.scr x) := rfl
@[simp] theorem argOf_bor (r : Rh) (i : Nat) : argOf r (.bor i) = argB r[i]? := rfl
def argC : Option Slot → Option (List Slot) → Option (List Slot)
  | some s, some ss => some (s :: ss)
  | _, _ => none
@[simp] theorem argC_some (s : Slot) (ss : List Slot) : argC (some s) (some ss) = some (s :: ss) := rfl
@[simp] theorem argsOf_nil (r : Rh) : argsOf r [] = some [] := rfl
@[simp] theorem argsOf_cons (r : Rh) (v : Val) (vs : List Val) : argsOf r (v :: vs) = argC (argOf r v) (argsOf r vs) := by
  rw [argsOf]
  cases argOf r v <;> cases argsOf r vs <;> rfl
@[simp] theorem bors_nil : borsOf [] = [] := rfl
@[simp] theorem bors_bor (i : Nat) (vs : List Val) : borsOf (.bor i :: vs) = i :: borsOf vs := rfl
@[simp] theorem bors_d (x : PyData) (vs : List Val) : borsOf (.d x :: vs) = borsOf vs := rfl
@[simp] theorem bors_fresh (x : PyData) (vs : List Val) : borsOf (.fresh x :: vs) = borsOf vs := rfl
@[simp] theorem bors_fn (x : Str) (vs : List Val) : borsOf (.fn x :: vs) = borsOf vs := rfl
@[simp] theorem bors_scr (x : List Int) (vs : List Val) : borsOf (.scr x :: vs) = borsOf vs := rfl
def backB (i : Nat) (s : Slot) (r : Rh) : Option Slot → Rh
  | some (.ow _) => r.set i s
  | _ => r
@[simp] theorem backB_ow (i : Nat) (s : Slot) (r : Rh) (x : PyData) : backB i s r (some (.ow x)) = r.set i s := rfl
@[simp] theorem backB_fz (i : Nat) (s : Slot) (r : Rh) (x : PyData) : backB i s r (some (.fz x)) = r := rfl
@[simp] theorem back1_d (x : PyData) (s : Slot) (r : Rh) : back1 (.d x) s r = r := rfl
@[simp] theorem back1_fresh (x : PyData) (s : Slot) (r : Rh) : back1 (.fresh x) s r = r := rfl
@[simp] theorem back1_fn (x : Str) (s : Slot) (r : Rh) : back1 (.fn x) s r = r := rfl
@[simp] theorem back1_scr (x : List Int) (s : Slot) (r : Rh) : back1 (.scr x) s r = r := rfl
@[simp] theorem back1_bor (i : Nat) (s : Slot) (r : Rh) : back1 (.bor i) s r = backB i s r r[i]? := by
  show (match r[i]? with
    | some (.ow _) => r.set i s
    | _ => r) = _
  rcases r[i]? with _ | z
  · rfl
  · cases z <;> rfl
@[simp] theorem backA_nil (ss : List Slot) (r : Rh) : backA [] ss r = r := by cases ss <;> rfl
@[simp] theorem backA_cons (v : Val) (vs : List Val) (s : Slot) (ss : List Slot) (r : Rh) : backA (v :: vs) (s :: ss) r = backA vs ss (back1 v s r) := rfl
def resK (vs : List Val) (r : Rh) (n : Nat) : Res → Out Val
  | .ok s outs => if outs.length = n then resO vs r (.ok s outs) else .stuck
  | .exc c x => .exc c x
  | .stuck => .stuck
@[simp] theorem resK_ok (vs : List Val) (r : Rh) (n : Nat) (s : Slot) (outs : List Slot) (h : outs.length = n) : resK vs r n (.ok s outs) = resO vs r (.ok s outs) := by
  show (if outs.length = n then resO vs r (.ok s outs) else .stuck) = _
  rw [if_pos h]
@[simp] theorem resK_exc (vs : List Val) (r : Rh) (n : Nat) (c : Str) (x : PyData) : resK vs r n (.exc c x) = .exc c x := rfl
def callO (Φ : Str → List Slot → Res) (f : Str) (vs : List Val) (r : Rh) : Option (List Slot) → Out Val
  | some as => resK vs r as.length (Φ f as)
  | none => .stuck
@[simp] theorem callO_some (Φ : Str → List Slot → Res) (f : Str) (vs : List Val) (r : Rh) (as : List Slot) : callO Φ f vs r (some as) = resK vs r as.length (Φ f as) := rfl
@[simp] theorem called_def (Φ : Str → List Slot → Res) (f : Str) (vs : List Val) (r : Rh) : called Φ f vs r = if (borsOf vs).Nodup then callO Φ f vs r (argsOf r vs) else .stuck := by
  unfold called
  by_cases h : (borsOf vs).Nodup
  · rw [if_pos h, if_pos h]
    cases argsOf r vs with
    | none => rfl
    | some as =>
      show _ = resK vs r as.length (Φ f as)
      unfold resK
      simp only
      cases Φ f as with
      | ok s outs =>
        simp only
        by_cases h : outs.length = as.length
        · simp only [h, if_true]
          cases s <;> rfl
        · simp only [h, if_false]
      | exc c x => rfl
      | stuck => rfl
  · rw [if_neg h, if_neg h]
def retB : Option Slot → Option Slot
  | some (.ow x) => some (.ow x)
  | _ => none
@[simp] theorem retB_ow (x : PyData) : retB (some (.ow x)) = some (.ow x) := rfl
@[simp] theorem retSlot_d (np : Nat) (r : Rh) (x : PyData) : retSlot np r (.d x) = some (.fz x) := rfl
@[simp] theorem retSlot_fresh (np : Nat) (r : Rh) (x : PyData) : retSlot np r (.fresh x) = some (.ow x) := rfl
@[simp] theorem retSlot_bor (np : Nat) (r : Rh) (i : Nat) : retSlot np r (.bor i) = if i < np then none else retB r[i]? := by
  show (if i < np then none else _) = _
  by_cases h : i < np
  · rw [if_pos h, if_pos h]
  · rw [if_neg h, if_neg h]
    cases r[i]? with
    | none => rfl
    | some z => cases z <;> rfl
def finS (np : Nat) (r : Rh) : Option Slot → Res
  | some s => .ok s (r.take np)
  | none => .stuck
@[simp] theorem finS_some (np : Nat) (r : Rh) (s : Slot) : finS np r (some s) = .ok s (r.take np) := rfl
def finR (np : Nat) : Out Fl → Res
  | .ok (.ret v) r => finS np r (retSlot np r v)
  | .ok .next r => .ok (.fz .none) (r.take np)
  | .ok _ _ => .stuck
  | .exc c x => .exc c x
  | .stuck => .stuck
@[simp] theorem finR_ret (np : Nat) (r : Rh) (v : Val) : finR np (.ok (.ret v) r) = finS np r (retSlot np r v) := rfl
@[simp] theorem finR_exc (np : Nat) (c : Str) (x : PyData) : finR np (.exc c x) = .exc c x := rfl
theorem runF_eq {Φ : Str → List Slot → Res} {N n np : Nat} {pin : List Nat} {body : ISs} {as : List Slot} (h : as.length = np) (hp : pinned pin 0 as = true) : runF Φ N ⟨n, np, pin, body⟩ as = finR np (denSs Φ N body (as ++ List.replicate (n - np) .un)) := by
  unfold runF
  simp only [h, hp, and_self, if_true]
  cases denSs Φ N body (as ++ List.replicate (n - np) .un) with
  | ok fl r =>
    cases fl with
    | ret v =>
      show (match retSlot np r v with
        | some s => Res.ok s (r.take np)
        | none => .stuck) = finS np r (retSlot np r v)
      cases retSlot np r v <;> rfl
    | next => rfl
    | brk => rfl
    | cont => rfl
  | exc c x => rfl
  | stuck => rfl
/-! values -/
@[simp] theorem binD_add_int (i j : Int) : binD .add (.int i) (.int j) = some (.d (.int (i + j))) := rfl
@[simp] theorem binD_add_list (xs ys : List PyData) : binD .add (.list xs) (.list ys) = if xs.length + ys.length ≤ sizeLine then some (.fresh (.list (xs ++ ys))) else none := rfl
@[simp] theorem binD_add_tuple (xs ys : List PyData) : binD .add (.tuple xs) (.tuple ys) = if xs.length + ys.length ≤ sizeLine then some (.d (.tuple (xs ++ ys))) else none := rfl
@[simp] theorem binD_sub (i j : Int) : binD .sub (.int i) (.int j) = some (.d (.int (i - j))) := rfl
@[simp] theorem binD_mul (i j : Int) : binD .mul (.int i) (.int j) = if mulOk i j = true then some (.d (.int (i * j))) else none := rfl
@[simp] theorem binD_mul_list (xs : List PyData) (k : Int) : binD .mul (.list xs) (.int k) = if (decide (-(2 ^ 63) ≤ k) && decide (k < 2 ^ 63) && decide (xs.length * k.toNat ≤ sizeLine)) = true then some (.fresh (.list (repd xs k.toNat))) else none := rfl
@[simp] theorem binD_fdiv (i j : Int) : binD .fdiv (.int i) (.int j) = if (decide (0 < j) && decide (j < 1073741824)) = true then some (.d (.int (i / j))) else none := rfl
@[simp] theorem binD_mod (i j : Int) : binD .mod (.int i) (.int j) = if 0 < j then some (.d (.int (i % j))) else none := rfl
@[simp] theorem binD_pow (i j : Int) : binD .pow (.int i) (.int j) = if (decide (0 ≤ j) && decide (j ≤ 1000000) && decide (i.natAbs < 2 ^ 64)) = true then some (.d (.int (i ^ j.toNat))) else none := rfl
@[simp] theorem cmpD_eq (x y : PyData) : cmpD .eq x y = eqD x y := by cases x <;> cases y <;> rfl
@[simp] theorem cmpD_ne (x y : PyData) : cmpD .ne x y = (eqD x y).map (!·) := by cases x <;> cases y <;> rfl
@[simp] theorem cmpD_lt_int (i j : Int) : cmpD .lt (.int i) (.int j) = some (decide (i < j)) := rfl
@[simp] theorem cmpD_le_int (i j : Int) : cmpD .le (.int i) (.int j) = some (decide (i ≤ j)) := rfl
@[simp] theorem cmpD_gt_int (i j : Int) : cmpD .gt (.int i) (.int j) = some (decide (j < i)) := rfl
@[simp] theorem cmpD_ge_int (i j : Int) : cmpD .ge (.int i) (.int j) = some (decide (j ≤ i)) := rfl
@[simp] theorem cmpD_lt_tuple (xs ys : List PyData) : cmpD .lt (.tuple xs) (.tuple ys) = if ltOk (.tuple xs) (.tuple ys) = true then some (PySem.W.dataLt (.tuple xs) (.tuple ys)) else none := rfl
@[simp] theorem cmpD_in_list (x : PyData) (ys : List PyData) : cmpD .isin x (.list ys) = memD x ys := by cases x <;> rfl
@[simp] theorem cmpD_in_tuple (x : PyData) (ys : List PyData) : cmpD .isin x (.tuple ys) = memD x ys := by cases x <;> rfl
@[simp] theorem cmpD_in_dict (k : PyData) (kvs : List (PyData × PyData)) : cmpD .isin k (.dict kvs) = if keyFits kvs k = true then some (dfind kvs k).isSome else none := by cases k <;> rfl
@[simp] theorem cmpD_nin_dict (k : PyData) (kvs : List (PyData × PyData)) : cmpD .notin k (.dict kvs) = if keyFits kvs k = true then some (!(dfind kvs k).isSome) else none := by cases k <;> rfl
@[simp] theorem cmpD_is_none (x : PyData) : cmpD .is x .none = some (isNonD x) := by cases x <;> rfl
@[simp] theorem cmpD_isnot_none (x : PyData) : cmpD .isnot x .none = some (!isNonD x) := by cases x <;> rfl
@[simp] theorem cmpD_is_bool (x : PyData) (b : Bool) : cmpD .is x (.bool b) = some (isBlD b x) := by cases x <;> rfl
@[simp] theorem cmpD_isnot_bool (x : PyData) (b : Bool) : cmpD .isnot x (.bool b) = some (!isBlD b x) := by cases x <;> rfl
@[simp] theorem isNon_none : isNonD .none = true := rfl
@[simp] theorem isNon_int (i : Int) : isNonD (.int i) = false := rfl
@[simp] theorem isNon_tuple (xs : List PyData) : isNonD (.tuple xs) = false := rfl
@[simp] theorem isBl_bool (b c : Bool) : isBlD b (.bool c) = (b == c) := rfl
@[simp] theorem noDict_none : noDict .none = true := by rw [noDict]
@[simp] theorem noDict_bool (b : Bool) : noDict (.bool b) = true := by rw [noDict]
@[simp] theorem noDict_int (i : Int) : noDict (.int i) = true := by rw [noDict]
@[simp] theorem noDict_str (x : Str) : noDict (.str x) = true := by rw [noDict]
@[simp] theorem noDict_list (xs : List PyData) : noDict (.list xs) = noDicts xs := by rw [noDict]
@[simp] theorem noDict_tuple (xs : List PyData) : noDict (.tuple xs) = noDicts xs := by rw [noDict]
@[simp] theorem noDicts_nil : noDicts [] = true := by rw [noDicts]
@[simp] theorem noDicts_cons (x : PyData) (xs : List PyData) : noDicts (x :: xs) = (noDict x && noDicts xs) := by rw [noDicts]
@[simp] theorem depth_none : PyData.depth .none = 0 := by rw [PyData.depth]
@[simp] theorem depth_bool (b : Bool) : PyData.depth (.bool b) = 0 := by rw [PyData.depth]
@[simp] theorem depth_int (b : Int) : PyData.depth (.int b) = 0 := by rw [PyData.depth]
@[simp] theorem depth_str (b : Str) : PyData.depth (.str b) = 0 := by rw [PyData.depth]
@[simp] theorem depth_list (xs : List PyData) : PyData.depth (.list xs) = PyData.depthAll xs + 1 := by rw [PyData.depth]
@[simp] theorem depth_tuple (xs : List PyData) : PyData.depth (.tuple xs) = PyData.depthAll xs + 1 := by rw [PyData.depth]
@[simp] theorem depthAll_nil : PyData.depthAll [] = 0 := by rw [PyData.depthAll]
@[simp] theorem depthAll_cons (x : PyData) (xs : List PyData) : PyData.depthAll (x :: xs) = max x.depth (PyData.depthAll xs) := by rw [PyData.depthAll]
theorem noDicts_of {xs : List PyData} (h : ∀ x ∈ xs, noDict x = true) : noDicts xs = true := by
  induction xs with
  | nil => rfl
  | cons x xs ih =>
    rw [noDicts_cons, h x (List.mem_cons_self ..), ih fun y hy => h y (List.mem_cons_of_mem _ hy)]
    rfl
theorem depthAll_of {xs : List PyData} {n : Nat} (h : ∀ x ∈ xs, x.depth ≤ n) : PyData.depthAll xs ≤ n := by
  induction xs with
  | nil => simp
  | cons x xs ih =>
    rw [depthAll_cons]
    have h1 := h x (List.mem_cons_self ..)
    have h2 := ih fun y hy => h y (List.mem_cons_of_mem _ hy)
    omega
theorem eqD_of {x y : PyData} (h : noDict x = true) (h' : noDict y = true) (hd : min x.depth y.depth ≤ 64) : eqD x y = some (PyData.eqv x y) := by
  unfold eqD eqOk
  simp [h, h', hd]
@[simp] theorem eqD_int (x : PyData) (i : Int) (h : noDict x = true) : eqD x (.int i) = some (PyData.eqv x (.int i)) := eqD_of h rfl (by simp)
@[simp] theorem eqD_str (x : PyData) (i : Str) (h : noDict x = true) : eqD x (.str i) = some (PyData.eqv x (.str i)) := eqD_of h rfl (by simp)
@[simp] theorem eqD_nilT (x : PyData) (h : noDict x = true) : eqD x (.tuple []) = some (PyData.eqv x (.tuple [])) := eqD_of h rfl (by simp; omega)
@[simp] theorem eqD_nilL (x : PyData) (h : noDict x = true) : eqD x (.list []) = some (PyData.eqv x (.list [])) := eqD_of h rfl (by simp; omega)
@[simp] theorem eqv_int (i j : Int) : PyData.eqv (.int i) (.int j) = decide (i = j) := by
  rw [PyData.eqv]
  by_cases h : i = j <;> simp [h]
@[simp] theorem eqv_str (i j : Str) : PyData.eqv (.str i) (.str j) = decide (i = j) := by
  rw [PyData.eqv]
  by_cases h : i = j <;> simp [h]
@[simp] theorem eqv_bool (i j : Bool) : PyData.eqv (.bool i) (.bool j) = decide (i = j) := by
  rw [PyData.eqv]
  cases i <;> cases j <;> rfl
@[simp] theorem eqv_str_int (x : Str) (i : Int) : PyData.eqv (.str x) (.int i) = false := by rw [PyData.eqv]
@[simp] theorem eqv_int_str (x : Str) (i : Int) : PyData.eqv (.int i) (.str x) = false := by rw [PyData.eqv]
@[simp] theorem eqv_list (xs ys : List PyData) : PyData.eqv (.list xs) (.list ys) = PyData.eqvAll xs ys := by rw [PyData.eqv]
@[simp] theorem eqv_tuple (xs ys : List PyData) : PyData.eqv (.tuple xs) (.tuple ys) = PyData.eqvAll xs ys := by rw [PyData.eqv]
@[simp] theorem eqvAll_nil : PyData.eqvAll [] [] = true := by rw [PyData.eqvAll]
@[simp] theorem eqvAll_cn (x : PyData) (xs : List PyData) : PyData.eqvAll (x :: xs) [] = false := by rw [PyData.eqvAll] <;> simp
@[simp] theorem eqvAll_nc (x : PyData) (xs : List PyData) : PyData.eqvAll [] (x :: xs) = false := by rw [PyData.eqvAll] <;> simp
@[simp] theorem eqvAll_cc (x y : PyData) (xs ys : List PyData) : PyData.eqvAll (x :: xs) (y :: ys) = (PyData.eqv x y && PyData.eqvAll xs ys) := by rw [PyData.eqvAll]
@[simp] theorem eqvAll_emp (xs : List PyData) : PyData.eqvAll xs [] = xs.isEmpty := by cases xs <;> simp
theorem memD_of {x : PyData} {ys : List PyData} (h : noDict x = true) (h0 : x.depth = 0) (h' : noDicts ys = true) : memD x ys = some (ys.any fun y => PyData.eqv y x) := by
  unfold memD
  have : (ys.all fun y => eqOk x y) = true := by
    induction ys with
    | nil => rfl
    | cons y ys ih =>
      rw [noDicts_cons, Bool.and_eq_true] at h'
      rw [List.all_cons, ih h'.2]
      unfold eqOk
      rw [h, h'.1, h0]
      simp
  rw [h, this]
  rfl
@[simp] theorem memD_str (x : Str) (ys : List PyData) (h' : noDicts ys = true) : memD (.str x) ys = some (ys.any fun y => PyData.eqv y (.str x)) := memD_of (by simp) (by simp) h'
@[simp] theorem memD_int (x : Int) (ys : List PyData) (h' : noDicts ys = true) : memD (.int x) ys = some (ys.any fun y => PyData.eqv y (.int x)) := memD_of (by simp) (by simp) h'
@[simp] theorem isTy_int_int (i : Int) : isTy .int (.int i) = true := rfl
@[simp] theorem isTy_bool_int (i : Int) : isTy .bool (.int i) = false := rfl
@[simp] theorem isTy_bool_bool (i : Bool) : isTy .bool (.bool i) = true := rfl
@[simp] theorem isTy_int_bool (i : Bool) : isTy .int (.bool i) = true := rfl
@[simp] theorem isTy_str_str (i : Str) : isTy .str (.str i) = true := rfl
@[simp] theorem isTy_str_int (i : Int) : isTy .str (.int i) = false := rfl
@[simp] theorem isTy_int_str (i : Str) : isTy .int (.str i) = false := rfl
@[simp] theorem isTy_tuple_tuple (xs : List PyData) : isTy .tuple (.tuple xs) = true := rfl
@[simp] theorem b1_len_list (xs : List PyData) : b1D .len (.list xs) = some (.d (.int xs.length)) := rfl
@[simp] theorem b1_len_tuple (xs : List PyData) : b1D .len (.tuple xs) = some (.d (.int xs.length)) := rfl
@[simp] theorem b1_tuple_list (xs : List PyData) : b1D .tuple (.list xs) = some (.d (.tuple xs)) := rfl
@[simp] theorem b1_int_int (i : Int) : b1D .int (.int i) = some (.d (.int i)) := rfl
@[simp] theorem b1_int_bool (b : Bool) : b1D .int (.bool b) = some (.d (.int (if b = true then 1 else 0))) := rfl
@[simp] theorem b1_dict_dict (kvs : List (PyData × PyData)) : b1D .dict (.dict kvs) = if (kvs.all fun p => flatKey p.1) = true then some (.fresh (.dict kvs)) else none := rfl
@[simp] theorem b1_dict_list (xs : List PyData) : b1D .dict (.list xs) = dictD xs := rfl
@[simp] theorem b1_dict_tuple (xs : List PyData) : b1D .dict (.tuple xs) = dictD xs := rfl
@[simp] theorem b1_sorted (xs : List PyData) : b1D .sorted (.list xs) = if sortOk xs = true then some (.fresh (.list (sortD xs))) else none := rfl
@[simp] theorem b1_all (xs : List PyData) : b1D .all (.list xs) = (bools xs).map fun bs => .d (.bool (bs.all id)) := rfl
@[simp] theorem b1_repr (b : Bool) : b1D .repr (.bool b) = some (.d (.str (if b = true then "True" else "False"))) := rfl
@[simp] theorem b2_min (i j : Int) : b2D .min (.int i) (.int j) = some (.d (.int (if j < i then j else i))) := rfl
@[simp] theorem b2_max (i j : Int) : b2D .max (.int i) (.int j) = some (.d (.int (if j > i then j else i))) := rfl
@[simp] theorem item_list (xs : List PyData) (i : Int) : itemD (.list xs) (.int i) = L2.atI xs i := rfl
@[simp] theorem item_tuple (xs : List PyData) (i : Int) : itemD (.tuple xs) (.int i) = L2.atI xs i := rfl
@[simp] theorem item_dict (kvs : List (PyData × PyData)) (k : PyData) : itemD (.dict kvs) k = if keyFits kvs k = true then dfind kvs k else none := by cases k <;> rfl
@[simp] theorem get_dict (kvs : List (PyData × PyData)) (k x : PyData) : getD (.dict kvs) k x = if keyFits kvs k = true then some ((dfind kvs k).getD x) else none := rfl
@[simp] theorem atI_nat {α : Type} (xs : List α) (k : Nat) : L2.atI xs (k : Int) = xs[k]? := by
  unfold L2.atI L2.ixN
  rw [if_pos (by omega)]
  by_cases h : (k : Int) < xs.length
  · rw [if_pos h]
    simp
  · rw [if_neg h]
    simp
    omega
@[simp] theorem atI_0 {α : Type} (xs : List α) : L2.atI xs 0 = xs[0]? := atI_nat xs 0
@[simp] theorem atI_1 {α : Type} (xs : List α) : L2.atI xs 1 = xs[1]? := atI_nat xs 1
@[simp] theorem atI_2 {α : Type} (xs : List α) : L2.atI xs 2 = xs[2]? := atI_nat xs 2
@[simp] theorem atI_3 {α : Type} (xs : List α) : L2.atI xs 3 = xs[3]? := atI_nat xs 3
@[simp] theorem atI_4 {α : Type} (xs : List α) : L2.atI xs 4 = xs[4]? := atI_nat xs 4
@[simp] theorem atI_5 {α : Type} (xs : List α) : L2.atI xs 5 = xs[5]? := atI_nat xs 5
@[simp] theorem atI_6 {α : Type} (xs : List α) : L2.atI xs 6 = xs[6]? := atI_nat xs 6
theorem atI_int {α : Type} (xs : List α) (i : Int) (h : 0 ≤ i) : L2.atI xs i = xs[i.toNat]? := by
  have := atI_nat xs i.toNat
  rwa [Int.toNat_of_nonneg h] at this
@[simp] theorem slc_list (xs : List PyData) (l h : Option Int) : slcD (.list xs) l h = some (.fresh (.list (cutD xs l h))) := rfl
@[simp] theorem slc_tuple (xs : List PyData) (l h : Option Int) : slcD (.tuple xs) l h = some (.d (.tuple (cutD xs l h))) := rfl
theorem cut_take (xs : List PyData) (k : Nat) : cutD xs none (some (k : Int)) = xs.take k := by
  unfold cutD HT.sIx
  simp only
  rw [if_neg (by omega)]
  simp
theorem cut_drop (xs : List PyData) (k : Nat) : cutD xs (some (k : Int)) none = xs.drop k := by
  unfold cutD HT.sIx
  simp only
  rw [if_neg (by omega)]
  simp
  rw [Nat.min_def]
  split
  · rw [List.take_of_length_le (by simp)]
  · rw [List.drop_of_length_le (by omega), List.drop_of_length_le (by omega)]
    simp
@[simp] theorem cut_t2 (xs : List PyData) : cutD xs none (some 2) = xs.take 2 := cut_take xs 2
@[simp] theorem cut_t3 (xs : List PyData) : cutD xs none (some 3) = xs.take 3 := cut_take xs 3
@[simp] theorem cut_t4 (xs : List PyData) : cutD xs none (some 4) = xs.take 4 := cut_take xs 4
@[simp] theorem cut_d1 (xs : List PyData) : cutD xs (some 1) none = xs.drop 1 := cut_drop xs 1
@[simp] theorem cut_d4 (xs : List PyData) : cutD xs (some 4) none = xs.drop 4 := cut_drop xs 4
@[simp] theorem star_list (xs : List PyData) : starD (.list xs) = some xs := rfl
@[simp] theorem star_tuple (xs : List PyData) : starD (.tuple xs) = some xs := rfl
@[simp] theorem bools_nil : bools [] = some [] := rfl
@[simp] theorem bools_cons (b : Bool) (r : List PyData) : bools (.bool b :: r) = (bools r).map (b :: ·) := rfl
@[simp] theorem filter_no {α : Type} (l : List α) : l.filter (fun _ => false) = [] := by
  induction l with
  | nil => rfl
  | cons a l ih => rw [List.filter_cons]; exact ih
theorem bools_map {α : Type} (l : List α) (p : α → Bool) : bools (l.map fun a => .bool (p a)) = some (l.map p) := by
  induction l with
  | nil => rfl
  | cons a l ih =>
    show (bools (l.map _)).map _ = _
    rw [ih]
    rfl
@[simp high] theorem all_map {α : Type} (l : List α) (p : α → Bool) : b1D .all (.list (l.map fun a => .bool (p a))) = some (.d (.bool (l.all p))) := by
  rw [b1_all, bools_map]
  simp
@[simp high] theorem all_true {α : Type} (l : List α) : b1D .all (.list (l.map fun _ => .bool true)) = some (.d (.bool true)) := by
  rw [all_map l fun _ => true]
  simp
@[simp] theorem sizeLine_le : sizeLine = 16777216 := rfl
theorem enumD_map (n : Nat) (xs : List PyData) : enumD n xs = (xs.zipIdx n).map fun p => .tuple [.int p.2, p.1] := by
  induction xs generalizing n with
  | nil => rfl
  | cons x xs ih =>
    rw [enumD, ih, List.zipIdx_cons]
    rfl
theorem zipD_map {α β : Type} (e : α → PyData) (e' : β → PyData) : ∀ (l : List α) (m : List β), zipD (l.map e) (m.map e') = (l.zip m).map fun p => .tuple [e p.1, e' p.2]
  | [], _ => by simp [zipD]
  | _ :: _, [] => by simp [zipD]
  | a :: l, b :: m => by simp [zipD, zipD_map e e' l m]
theorem rgV_small (r : Rh) (n : Nat) (h : n ≤ 100000) : rgV r (.int n) = .ok ((List.range n).map fun (k : Nat) => .int k) r := by
  have g : -((2 : Int) ^ 62) ≤ n := by
    have : (0 : Int) ≤ 2 ^ 62 := by decide
    omega
  have g2 : (n : Int) < 2 ^ 62 := by
    have : (100000 : Int) < 2 ^ 62 := by decide
    omega
  rw [rgV_int, if_pos (by rw [Bool.and_eq_true, decide_eq_true_eq, decide_eq_true_eq]; exact ⟨g, g2⟩)]
  unfold rngD
  rfl
/-! loops -/
section
variable (Φ : Str → List Slot → Res) (N : Nat)
def fwF (f : PyData → Rh → Out Fl) (xs : List PyData) (r1 : Rh) : Fl → Out Fl
  | .next => forR f xs r1
  | .cont => forR f xs r1
  | .brk => .ok .next r1
  | .ret v => .ok (.ret v) r1
@[simp] theorem fwF_next (f : PyData → Rh → Out Fl) (xs : List PyData) (r : Rh) : fwF f xs r .next = forR f xs r := rfl
@[simp] theorem fwF_ret (f : PyData → Rh → Out Fl) (xs : List PyData) (r : Rh) (v : Val) : fwF f xs r (.ret v) = .ok (.ret v) r := rfl
@[simp] theorem forR_nil (f : PyData → Rh → Out Fl) (r : Rh) : forR f [] r = .ok .next r := rfl
@[simp] theorem forR_cons (f : PyData → Rh → Out Fl) (x : PyData) (xs : List PyData) (r : Rh) : forR f (x :: xs) r = (f x r).bind fun fl r1 => fwF f xs r1 fl := by
  rw [forR]
  congr 1
def bdO (b : ISs) : Option Rh → Out Fl
  | some r3 => denSs Φ N b r3
  | none => .stuck
@[simp] theorem bdO_some (b : ISs) (r : Rh) : bdO Φ N b (some r) = denSs Φ N b r := rfl
def forB (t : ITg) (b : ISs) (x : PyData) (r2 : Rh) : Out Fl := bdO Φ N b (tgD t x r2)
@[simp] theorem denS_for (t : ITg) (it : II) (b : ISs) (r : Rh) (h : tgOk t it = true) : denS Φ N (.for t it b) r = (denI Φ it r).bind fun xs r1 => forR (forB Φ N t b) xs r1 := by
  rw [denS, h]
  rfl
@[simp] theorem tgOk_val (t : ITg) (e : IE) : tgOk t (.val e) = true := by cases t <;> rfl
@[simp] theorem tgOk_rng (t : ITg) (e : IE) : tgOk t (.rng e) = true := by cases t <;> rfl
@[simp] theorem tgOk_tp (t : ITgs) (it : II) : tgOk (.tp t) it = true := by cases it <;> rfl
theorem forR_all {xs : List PyData} {f : PyData → Rh → Out Fl} (I : List PyData → Rh → Prop) (h : ∀ x rest r, I (x :: rest) r → ∃ r', f x r = .ok .next r' ∧ I rest r') : ∀ {r}, I xs r → ∃ r', forR f xs r = .ok .next r' ∧ I [] r' := by
  induction xs with
  | nil => exact fun {r} hI => ⟨r, rfl, hI⟩
  | cons x xs ih =>
    intro r hI
    obtain ⟨r1, h1, h2⟩ := h x xs r hI
    obtain ⟨r2, h3, h4⟩ := ih h2
    exact ⟨r2, by rw [forR_cons, h1]; exact h3, h4⟩
theorem for_inv {α : Type} (enc : α → PyData) (f : PyData → Rh → Out Fl) (I : List α → Rh → Prop) (h : ∀ a rest r, I (a :: rest) r → ∃ r', f (enc a) r = .ok .next r' ∧ I rest r') : ∀ {l : List α} {r}, I l r → ∃ r', forR f (l.map enc) r = .ok .next r' ∧ I [] r'
  | [], r, hI => ⟨r, rfl, hI⟩
  | a :: l, r, hI => by
    obtain ⟨r1, h1, h2⟩ := h a l r hI
    obtain ⟨r2, h3, h4⟩ := for_inv enc f I h h2
    exact ⟨r2, by rw [List.map_cons, forR_cons, h1]; exact h3, h4⟩
theorem for_any {α : Type} (enc : α → PyData) (f : PyData → Rh → Out Fl) (I : Rh → Prop) (v : Val) (p : α → Bool) : ∀ {l : List α} {r}, (∀ a ∈ l, ∀ r, I r → ∃ r', f (enc a) r = .ok (if p a = true then .ret v else .next) r' ∧ I r') → I r → ∃ r', forR f (l.map enc) r = .ok (if l.any p = true then .ret v else .next) r' ∧ I r'
  | [], r, _, hI => ⟨r, rfl, hI⟩
  | a :: l, r, h, hI => by
    obtain ⟨r1, h1, h2⟩ := h a (List.mem_cons_self ..) r hI
    rw [List.map_cons, forR_cons, h1, obind_ok]
    by_cases hp : p a = true
    · exact ⟨r1, by rw [if_pos hp, if_pos (by simp [hp])]; rfl, h2⟩
    · obtain ⟨r2, h3, h4⟩ := for_any enc f I v p (fun b hb => h b (List.mem_cons_of_mem _ hb)) h2
      have hp' : p a = false := by simpa using hp
      exact ⟨r2, by rw [if_neg hp, List.any_cons, hp', Bool.false_or]; exact h3, h4⟩
/-! changes of what is owned -/
def apF (i : Nat) (x : PyData) (r1 : Rh) : Option Slot → Out Fl
  | some (.ow (.list xs)) => if xs.length < sizeLine then .ok .next (r1.set i (.ow (.list (xs ++ [x])))) else .stuck
  | _ => .stuck
@[simp] theorem apF_list (i : Nat) (x : PyData) (r1 : Rh) (xs : List PyData) : apF i x r1 (some (.ow (.list xs))) = if xs.length < sizeLine then .ok .next (r1.set i (.ow (.list (xs ++ [x])))) else .stuck := rfl
def apO (i : Nat) (e : IE) (r : Rh) : Option Slot → Out Fl
  | some (.ow (.list _)) => dat (den Φ e r) fun x r1 => apF i x r1 r1[i]?
  | _ => .stuck
@[simp] theorem apO_list (i : Nat) (e : IE) (r : Rh) (xs : List PyData) : apO Φ i e r (some (.ow (.list xs))) = dat (den Φ e r) fun x r1 => apF i x r1 r1[i]? := rfl
@[simp] theorem denS_app (i : Nat) (e : IE) (r : Rh) : denS Φ N (.app i e) r = apO Φ i e r r[i]? := by
  rw [denS]
  rcases r[i]? with _ | s
  · rfl
  · cases s with
    | ow d =>
      cases d with
      | list xs =>
        show dat (den Φ e r) _ = dat (den Φ e r) _
        congr 1
      | _ => rfl
    | _ => rfl
def ptF (i : Nat) (x y : PyData) (r2 : Rh) : Option Slot → Out Fl
  | some (.ow (.dict kvs)) => if (keyFits kvs y && decide (kvs.length < sizeLine)) = true then .ok .next (r2.set i (.ow (.dict (dput kvs y x)))) else .stuck
  | some (.ow (.list xs)) => match y with
    | .int n => match L2.ixN xs.length n with
      | some j => .ok .next (r2.set i (.ow (.list (xs.set j x))))
      | none => .stuck
    | _ => .stuck
  | _ => .stuck
@[simp] theorem ptF_dict (i : Nat) (x y : PyData) (r2 : Rh) (kvs : List (PyData × PyData)) : ptF i x y r2 (some (.ow (.dict kvs))) = if (keyFits kvs y && decide (kvs.length < sizeLine)) = true then .ok .next (r2.set i (.ow (.dict (dput kvs y x)))) else .stuck := rfl
def ptO (i : Nat) (k : IE) (x : PyData) (r1 : Rh) : Option Slot → Out Fl
  | some (.ow _) => dat (den Φ k r1) fun y r2 => ptF i x y r2 r2[i]?
  | _ => .stuck
@[simp] theorem ptO_ow (i : Nat) (k : IE) (x : PyData) (r1 : Rh) (d : PyData) : ptO Φ i k x r1 (some (.ow d)) = dat (den Φ k r1) fun y r2 => ptF i x y r2 r2[i]? := rfl
@[simp] theorem denS_put (i : Nat) (k e : IE) (r : Rh) : denS Φ N (.put i k e) r = dat (den Φ e r) fun x r1 => ptO Φ i k x r1 r1[i]? := by
  rw [denS]
  congr 1
/-! comprehensions -/
def lcS (e : IE) (ifs : IL) (W : Option Rh) : Out (List PyData) := match W with
  | some r3 => (denT Φ ifs r3).bind fun b r4 => if b = true then dat (den Φ e r4) fun y r5 => .ok [y] r5 else .ok [] r4
  | none => .stuck
@[simp] theorem lcS_some (e : IE) (ifs : IL) (r3 : Rh) : lcS Φ e ifs (some r3) = (denT Φ ifs r3).bind fun b r4 => if b = true then dat (den Φ e r4) fun y r5 => .ok [y] r5 else .ok [] r4 := rfl
theorem den_lc (own : List Nat) (e : IE) (t : ITg) (it : II) (ifs : IL) (r : Rh) (hT : (tgOk t it && tgIn own t) = true) : den Φ (.lc own e (.one t it ifs)) r = (denI Φ it r).bind fun xs r1 => (compR (fun x r2 => lcS Φ e ifs (tgD t x (wipeR r2 own))) xs r1).bind fun ds r2 => if ds.length ≤ sizeLine then .ok (.fresh (.list ds)) (backR r1 r2 own) else .stuck := by
  rw [den, if_pos hT]
  rfl
def dcS (k v : IE) (ifs : IL) (W : Option Rh) : Out (List (PyData × PyData)) := match W with
  | some r3 => (denT Φ ifs r3).bind fun b r4 => if b = true then dat (den Φ k r4) fun y r5 => dat (den Φ v r5) fun z r6 => .ok [(y, z)] r6 else .ok [] r4
  | none => .stuck
@[simp] theorem dcS_some (k v : IE) (ifs : IL) (r3 : Rh) : dcS Φ k v ifs (some r3) = (denT Φ ifs r3).bind fun b r4 => if b = true then dat (den Φ k r4) fun y r5 => dat (den Φ v r5) fun z r6 => .ok [(y, z)] r6 else .ok [] r4 := rfl
def dkO (r : Rh) : Option (List (PyData × PyData)) → Out Val
  | some kvs => .ok (.fresh (.dict kvs)) r
  | none => .stuck
theorem den_dc (own : List Nat) (k v : IE) (t : ITg) (it : II) (ifs : IL) (r : Rh) (hT : (tgOk t it && tgIn own t) = true) : den Φ (.dc own k v (.one t it ifs)) r = (denI Φ it r).bind fun xs r1 => (compR (fun x r2 => dcS Φ k v ifs (tgD t x (wipeR r2 own))) xs r1).bind fun ps r2 => dkO (backR r1 r2 own) (dmake [] ps) := by
  rw [den, if_pos hT]
  rfl
@[simp] theorem backR_nil (r0 r : Rh) : backR r0 r [] = r := rfl
@[simp] theorem backR_cons (r0 r : Rh) (v : Nat) (vs : List Nat) : backR r0 r (v :: vs) = (backR r0 r vs).set v (r0.getD v .un) := rfl
@[simp] theorem wipeR_nil (r : Rh) : wipeR r [] = r := rfl
@[simp] theorem wipeR_cons (r : Rh) (v : Nat) (vs : List Nat) : wipeR r (v :: vs) = (wipeR r vs).set v .un := rfl
theorem wipe_len (own : List Nat) (r : Rh) : (wipeR r own).length = r.length := by
  induction own with
  | nil => rfl
  | cons v vs ih => rw [wipeR, List.length_set, ih]
theorem back_len (own : List Nat) (r0 r : Rh) : (backR r0 r own).length = r.length := by
  induction own with
  | nil => rfl
  | cons v vs ih => rw [backR, List.length_set, ih]
theorem wipe_get {own : List Nat} {r : Rh} {i : Nat} (h : i ∉ own) : (wipeR r own)[i]? = r[i]? := by
  induction own with
  | nil => rfl
  | cons v vs ih =>
    rw [wipeR, List.getElem?_set_ne (fun e => h (by rw [e]; exact List.mem_cons_self ..)), ih fun z => h (List.mem_cons_of_mem _ z)]
theorem back_get {own : List Nat} {r0 r : Rh} {i : Nat} (h : i ∉ own) : (backR r0 r own)[i]? = r[i]? := by
  induction own with
  | nil => rfl
  | cons v vs ih =>
    rw [backR, List.getElem?_set_ne (fun e => h (by rw [e]; exact List.mem_cons_self ..)), ih fun z => h (List.mem_cons_of_mem _ z)]
theorem back_own {own : List Nat} {r0 r : Rh} {i : Nat} (hl : r0.length = r.length) (h : i ∈ own) : (backR r0 r own)[i]? = r0[i]? := by
  induction own with
  | nil => cases h
  | cons v vs ih =>
    rw [backR]
    by_cases e : v = i
    · subst e
      by_cases hv : v < r.length
      · rw [List.getElem?_set_self (by rw [back_len]; exact hv), List.getElem?_eq_getElem (by omega)]
        simp [List.getD_eq_getElem?_getD, show v < r0.length by omega]
      · rw [List.getElem?_eq_none (by rw [List.length_set, back_len]; omega), List.getElem?_eq_none (by omega)]
    · rw [List.getElem?_set_ne e]
      exact ih ((List.mem_cons.mp h).resolve_left fun z => e z.symm)
theorem back_wipe {own : List Nat} {r0 r : Rh} (h : wipeR r own = wipeR r0 own) : backR r0 r own = r0 := by
  have hl : r0.length = r.length := by rw [← wipe_len own r0, ← h, wipe_len]
  apply List.ext_getElem?
  intro i
  by_cases hi : i ∈ own
  · exact back_own hl hi
  · rw [back_get hi, ← wipe_get (r := r) hi, h, wipe_get hi]
theorem compR_map {α β : Type} {own : List Nat} {W : Rh} (enc : α → PyData) (g : α → List β) {f : PyData → Rh → Out (List β)} : ∀ {l : List α}, (∀ a ∈ l, ∀ r, wipeR r own = W → ∃ r', f (enc a) r = .ok (g a) r' ∧ wipeR r' own = W) → ∀ {r}, wipeR r own = W → ∃ r', compR f (l.map enc) r = .ok (l.flatMap g) r' ∧ wipeR r' own = W
  | [], _, r, hr => ⟨r, rfl, hr⟩
  | a :: l, h, r, hr => by
    obtain ⟨r1, e1, h1⟩ := h a (List.mem_cons_self ..) r hr
    obtain ⟨r2, e2, h2⟩ := compR_map enc g (fun b hb => h b (List.mem_cons_of_mem _ hb)) h1
    refine ⟨r2, ?_, h2⟩
    show (f (enc a) r).bind _ = _
    rw [e1]
    show (compR f (l.map enc) r1).bind _ = _
    rw [e2]
    rfl
theorem lc_map {α : Type} (l : List α) (enc : α → PyData) (g : α → List PyData) {own : List Nat} {e : IE} {t : ITg} {it : II} {ifs : IL} {r r1 W : Rh} (hI : denI Φ it r = .ok (l.map enc) r1) (hW : wipeR r1 own = W)
    (hb : ∀ a ∈ l, ∃ r', lcS Φ e ifs (tgD t (enc a) W) = .ok (g a) r' ∧ wipeR r' own = W) (hT : (tgOk t it && tgIn own t) = true) (hl : (l.flatMap g).length ≤ sizeLine) : den Φ (.lc own e (.one t it ifs)) r = .ok (.fresh (.list (l.flatMap g))) r1 := by
  rw [den_lc Φ _ _ _ _ _ _ hT, hI]
  obtain ⟨r2, e2, h2⟩ := compR_map (own := own) (W := W) (f := fun x r2 => lcS Φ e ifs (tgD t x (wipeR r2 own))) enc g (l := l) (fun a ha r hr => by
        obtain ⟨r', e1, e2⟩ := hb a ha
        exact ⟨r', by rw [hr]; exact e1, e2⟩) hW
  rw [obind_ok, e2, obind_ok, if_pos hl, back_wipe (by rw [h2, hW])]
theorem flatMap_one {α β : Type} (l : List α) (h : α → β) : (l.flatMap fun a => [h a]) = l.map h := by
  induction l with
  | nil => rfl
  | cons a l ih => rw [List.flatMap_cons, ih]; rfl
theorem flatMap_if {α β : Type} (l : List α) (p : α → Bool) (h : α → β) : (l.flatMap fun a => if p a = true then [h a] else []) = (l.filter p).map h := by
  induction l with
  | nil => rfl
  | cons a l ih =>
    rw [List.flatMap_cons, ih, List.filter_cons]
    cases p a <;> rfl
/-- [h(a) for a in l] -/
theorem lc_each {α : Type} (l : List α) (enc h : α → PyData) {own : List Nat} {e : IE} {t : ITg} {it : II} {r r1 W : Rh} (hI : denI Φ it r = .ok (l.map enc) r1) (hW : wipeR r1 own = W)
    (hb : ∀ a ∈ l, ∃ r', lcS Φ e .nil (tgD t (enc a) W) = .ok [h a] r' ∧ wipeR r' own = W) (hT : (tgOk t it && tgIn own t) = true) (hl : l.length ≤ sizeLine) : den Φ (.lc own e (.one t it .nil)) r = .ok (.fresh (.list (l.map h))) r1 := by
  rw [lc_map Φ l enc (fun a => [h a]) hI hW hb hT (by rw [flatMap_one, List.length_map]; exact hl), flatMap_one]
/-- [h(a) for a in l if p(a)] -/
theorem lc_filt {α : Type} (l : List α) (enc h : α → PyData) (p : α → Bool) {own : List Nat} {e : IE} {t : ITg} {it : II} {ifs : IL} {r r1 W : Rh} (hI : denI Φ it r = .ok (l.map enc) r1) (hW : wipeR r1 own = W)
    (hb : ∀ a ∈ l, ∃ r', lcS Φ e ifs (tgD t (enc a) W) = .ok (if p a = true then [h a] else []) r' ∧ wipeR r' own = W) (hT : (tgOk t it && tgIn own t) = true) (hl : l.length ≤ sizeLine) : den Φ (.lc own e (.one t it ifs)) r = .ok (.fresh (.list ((l.filter p).map h))) r1 := by
  rw [lc_map Φ l enc (fun a => if p a = true then [h a] else []) hI hW hb hT (by rw [flatMap_if, List.length_map]; exact Nat.le_trans (List.length_filter_le ..) hl), flatMap_if]
/-- a list whose items are drawn -/
theorem compR_inv {β : Type} {f : PyData → Rh → Out (List β)} (T : Nat) (I : Nat → Rh → Prop) (Q : β → Prop) : ∀ {xs : List PyData} {n : Nat}, n + xs.length ≤ T → (∀ x ∈ xs, ∀ n r, n < T → I n r → ∃ y r', f x r = .ok [y] r' ∧ I (n + 1) r' ∧ Q y) → ∀ {r}, I n r → ∃ ys r', compR f xs r = .ok ys r' ∧ I (n + xs.length) r' ∧ ys.length = xs.length ∧ ∀ y ∈ ys, Q y
  | [], n, _, _, r, hr => ⟨[], r, rfl, hr, rfl, fun _ h => nomatch h⟩
  | x :: xs, n, hn, h, r, hr => by
    rw [List.length_cons] at hn
    obtain ⟨y, r1, e1, h1, q1⟩ := h x (List.mem_cons_self ..) n r (by omega) hr
    obtain ⟨ys, r2, e2, h2, h3, h4⟩ := compR_inv T I Q (by omega) (fun b hb => h b (List.mem_cons_of_mem _ hb)) h1
    refine ⟨y :: ys, r2, ?_, by rw [List.length_cons, Nat.add_comm xs.length, ← Nat.add_assoc]; exact h2, by rw [List.length_cons, h3]; rfl, fun z hz => ?_⟩
    · show (f x r).bind _ = _
      rw [e1]
      show (compR f xs r1).bind _ = _
      rw [e2]
      rfl
    · rcases List.mem_cons.mp hz with rfl | hz
      · exact q1
      · exact h4 z hz
theorem lc_inv {own : List Nat} {e : IE} {t : ITg} {it : II} {r r1 : Rh} {xs : List PyData} (I : Nat → Rh → Prop) (Q : PyData → Prop) (hI : denI Φ it r = .ok xs r1) (h0 : I 0 r1)
    (hb : ∀ x ∈ xs, ∀ n r2, n < xs.length → I n r2 → ∃ y r', lcS Φ e .nil (tgD t x (wipeR r2 own)) = .ok [y] r' ∧ I (n + 1) r' ∧ Q y) (hT : (tgOk t it && tgIn own t) = true) (hl : xs.length ≤ sizeLine) : ∃ ys r2, den Φ (.lc own e (.one t it .nil)) r = .ok (.fresh (.list ys)) (backR r1 r2 own) ∧ I xs.length r2 ∧ ys.length = xs.length ∧ ∀ y ∈ ys, Q y := by
  obtain ⟨ys, r2, e2, h2, h3, h4⟩ := compR_inv (f := fun x r2 => lcS Φ e .nil (tgD t x (wipeR r2 own))) xs.length I Q (xs := xs) (n := 0) (by omega) (fun x hx n r hn hr => hb x hx n r hn hr) h0
  rw [Nat.zero_add] at h2
  refine ⟨ys, r2, ?_, h2, h3, h4⟩
  rw [den_lc Φ _ _ _ _ _ _ hT, hI, obind_ok, e2, obind_ok, if_pos (by omega)]
/-- {k(a): v(a) for a in l if p(a)} -/
theorem dc_map {α : Type} (l : List α) (enc : α → PyData) (g : α → List (PyData × PyData)) {own : List Nat} {k v : IE} {t : ITg} {it : II} {ifs : IL} {r r1 W : Rh} {kvs : List (PyData × PyData)} (hI : denI Φ it r = .ok (l.map enc) r1) (hW : wipeR r1 own = W)
    (hb : ∀ a ∈ l, ∃ r', dcS Φ k v ifs (tgD t (enc a) W) = .ok (g a) r' ∧ wipeR r' own = W) (hT : (tgOk t it && tgIn own t) = true) (hl : dmake [] (l.flatMap g) = some kvs) : den Φ (.dc own k v (.one t it ifs)) r = .ok (.fresh (.dict kvs)) r1 := by
  rw [den_dc Φ _ _ _ _ _ _ _ hT, hI]
  obtain ⟨r2, e2, h2⟩ := compR_map (own := own) (W := W) (f := fun x r2 => dcS Φ k v ifs (tgD t x (wipeR r2 own))) enc g (l := l) (fun a ha r hr => by
        obtain ⟨r', e1, e2⟩ := hb a ha
        exact ⟨r', by rw [hr]; exact e1, e2⟩) hW
  rw [obind_ok, e2, obind_ok, hl, back_wipe (by rw [h2, hW])]
  rfl
end
/-! the defs of a program -/
theorem fun_eq {P : Prog} {N k : Nat} {f : Str} {as : List Slot} {F : IF} (h : P.lookup f = some F) : fun_ P N (k + 1) f as = runF (fun_ P N k) N F as := by
  show (match P.lookup f with
    | some F => runF (fun_ P N k) N F as
    | none => .stuck) = _
  rw [h]
end FJ

set_option Elab.async false
set_option linter.all false
set_option autoImplicit false
set_option maxRecDepth 100000
/-! K15b: what the defs of k15 compute: the setup's checks. -/
namespace FJ.K15
open PySem FJ
theorem w_inj' {a b : String} (h : w a = w b) : a = b := by
  unfold w at h
  rw [Str.ofString_eq_toList, Str.ofString_eq_toList] at h
  have h1 : a.toList.map Char.toNat = b.toList.map Char.toNat := by
    have := congrArg (fun s => s.cps.toList) h
    simpa using this
  have h2 : a.toList = b.toList := by
    have inj : ∀ (x y : Char), x.toNat = y.toNat → x = y := fun x y e => Char.ext (UInt32.toNat_inj.mp e)
    have go : ∀ (l m : List Char), l.map Char.toNat = m.map Char.toNat → l = m := by
      intro l
      induction l with
      | nil => intro m e; cases m with
        | nil => rfl
        | cons _ _ => simp at e
      | cons x l ih => intro m e; cases m with
        | nil => simp at e
        | cons y m =>
          simp only [List.map_cons, List.cons.injEq] at e
          rw [inj x y e.1, ih m e.2]
    exact go _ _ h1
  exact String.ext h2
@[simp] theorem w_inj (a b : String) : (w a = w b) = (a = b) := propext ⟨w_inj', fun h => by rw [h]⟩
abbrev Fn (k : Nat) := fun_ pg 20000 k
theorem step {k : Nat} {f : Str} {as : List Slot} (F : IF) (h : pg.lookup f = some F) (hl : as.length = F.np) (hp : pinned F.pin 0 as = true) : Fn (k + 1) f as = finR F.np (denSs (Fn k) 20000 F.body (as ++ List.replicate (F.n - F.np) .un)) := by
  show fun_ pg 20000 (k + 1) f as = _
  rw [fun_eq h]
  exact runF_eq hl hp
/-! ### data -/
structure Job where
  kd : Nat
  pl : Nat
  ow : Bool
  st : Str
  no : Str
  he : Bool
  deriving DecidableEq
abbrev Shape := Job × Str
abbrev Lot := Shape × Nat
structure Row where
  wd : Str
  pl : Nat
  fr : Str
  md : Str
  lots : List Lot
structure Setup where
  ks : List (List Str)
  r1 : Str
  r2 : Str
  r3 : Str
  sc : List (List Str)
def jE (j : Job) : PyData := .tuple [.int j.kd, .int j.pl, .bool j.ow, .str j.st, .str j.no, .bool j.he]
def shE (s : Shape) : PyData := .tuple [jE s.1, .str s.2]
def lotE (l : Lot) : PyData := .tuple [shE l.1, .int l.2]
def lotsE (ls : List Lot) : PyData := .tuple (ls.map lotE)
def rowE (r : Row) : PyData := .tuple [.str r.wd, .int r.pl, .str r.fr, .str r.md, lotsE r.lots]
def strsE (xs : List Str) : PyData := .tuple (xs.map .str)
def setE (S : Setup) : PyData := .tuple [.tuple (S.ks.map strsE), .tuple [.str S.r1, .str S.r2, .str S.r3], .tuple (S.sc.map strsE)]
def acts : List Str := [w "group", w "front", w "read", w "write", w "raw", w "plain", w "hold", w "again"]
def steps : List Str := [w "group", w "give", w "go", w "wait", w "listen", w "take", w "plain"]
def scIx (x : Str) : Nat := if x = w "fore" then 0 else if x = w "back" then 1 else if x = w "front" then 2 else 3
def Setup.scr (S : Setup) (x : Str) : List Str := S.sc.getD (scIx x) []
def isScr (x : Str) : Prop := x = w "fore" ∨ x = w "back" ∨ x = w "front" ∨ x = w "behind"
structure SetOk (S : Setup) : Prop where
  k1 : 1 ≤ S.ks.length
  k3 : S.ks.length ≤ 3
  ka : ∀ k ∈ S.ks, 1 ≤ k.length ∧ k.length ≤ 5 ∧ ∀ a ∈ k, a ∈ acts
  r1 : S.r1 = w "stop" ∨ S.r1 = w "fail" ∨ S.r1 = w "wait"
  r2 : S.r2 = w "go" ∨ S.r2 = w "stop"
  r3 : S.r3 = w "go" ∨ S.r3 = w "stop"
  s4 : S.sc.length = 4
  sa : ∀ s ∈ S.sc, s.length ≤ 6 ∧ ∀ a ∈ s, a ∈ steps
/-! ### whole numbers, words -/
theorem is_whole_none (k : Nat) (i lo : Int) : Fn (k + 1) (w "is_whole") [.fz (.int i), .fz (.int lo), .fz .none] = .ok (.fz (.bool (decide (lo ≤ i)))) [.fz (.int i), .fz (.int lo), .fz .none] := by
  rw [step p_is_whole (by kernel_rfl) rfl rfl]
  simp [p_is_whole]
  by_cases h : i < lo
  · simp [h]
  · simp [h]; omega
theorem is_whole_int (k : Nat) (i lo hi : Int) : Fn (k + 1) (w "is_whole") [.fz (.int i), .fz (.int lo), .fz (.int hi)] = .ok (.fz (.bool (decide (lo ≤ i ∧ i ≤ hi)))) [.fz (.int i), .fz (.int lo), .fz (.int hi)] := by
  rw [step p_is_whole (by kernel_rfl) rfl rfl]
  simp [p_is_whole]
  by_cases h : i < lo
  · simp [h]; intros; omega
  · simp [h]; intros; omega
theorem is_word_ok (k : Nat) (x : Str) (ys : List PyData) (h : noDicts ys = true) : Fn (k + 1) (w "is_word") [.fz (.str x), .fz (.tuple ys)] = .ok (.fz (.bool (ys.any fun y => PyData.eqv y (.str x)))) [.fz (.str x), .fz (.tuple ys)] := by
  rw [step p_is_word (by kernel_rfl) rfl rfl]
  simp [p_is_word, h]
theorem are_words_ok (k : Nat) (xs : List Str) (lo hi : Int) (ys : List PyData) (h : noDicts ys = true) (h1 : lo ≤ xs.length) (h2 : xs.length ≤ hi) (h3 : xs.length ≤ 1000) (ha : ∀ x ∈ xs, (ys.any fun y => PyData.eqv y (.str x)) = true) :
    Fn (k + 2) (w "are_words") [.fz (strsE xs), .fz (.int lo), .fz (.int hi), .fz (.tuple ys)] = .ok (.fz (.bool true)) [.fz (strsE xs), .fz (.int lo), .fz (.int hi), .fz (.tuple ys)] := by
  rw [step p_are_words (by kernel_rfl) rfl rfl]
  simp [p_are_words, strsE, h1, h2]
  rw [lc_each (Fn (k + 1)) xs .str (fun x => .bool true) (by simp; rfl) (by rfl) (fun x hx => ⟨_, by simp [is_word_ok k x ys h, ha x hx]; rfl, by rfl⟩) (by rfl) (by simp; omega)]
  simp
theorem any_mem (ws : List Str) (x : Str) : ((ws.map PyData.str).any fun y => PyData.eqv y (.str x)) = decide (x ∈ ws) := by
  induction ws with
  | nil => simp
  | cons a ws ih =>
    rw [List.map_cons, List.any_cons, ih, eqv_str]
    by_cases h : a = x <;> by_cases h' : x ∈ ws <;> simp [h, h', List.mem_cons] <;> exact fun e => h e.symm
@[simp] theorem noDicts_strs (ws : List Str) : noDicts (ws.map PyData.str) = true := noDicts_of fun x hx => by
  obtain ⟨y, _, rfl⟩ := List.mem_map.mp hx
  simp
theorem is_word_yes (k : Nat) (x : Str) (ws : List Str) (h : x ∈ ws) : Fn (k + 1) (w "is_word") [.fz (.str x), .fz (.tuple (ws.map .str))] = .ok (.fz (.bool true)) [.fz (.str x), .fz (.tuple (ws.map .str))] := by
  rw [is_word_ok k x _ (noDicts_strs ws), any_mem]
  simp [h]
theorem is_kind_ok (k : Nat) (xs : List Str) (h1 : 1 ≤ xs.length) (h2 : xs.length ≤ 5) (ha : ∀ x ∈ xs, x ∈ acts) : Fn (k + 3) (w "is_kind") [.fz (strsE xs)] = .ok (.fz (.bool true)) [.fz (strsE xs)] := by
  rw [step p_is_kind (by kernel_rfl) rfl rfl]
  have := are_words_ok k xs 1 5 (acts.map .str) (by simp) (by omega) (by omega) (by omega) (fun x hx => by rw [any_mem]; simp [ha x hx])
  simp only [acts, List.map_cons, List.map_nil] at this
  simp [p_is_kind, this]
theorem is_script_ok (k : Nat) (xs : List Str) (h2 : xs.length ≤ 6) (ha : ∀ x ∈ xs, x ∈ steps) : Fn (k + 3) (w "is_script") [.fz (strsE xs)] = .ok (.fz (.bool true)) [.fz (strsE xs)] := by
  rw [step p_is_script (by kernel_rfl) rfl rfl]
  have := are_words_ok k xs 0 6 (steps.map .str) (by simp) (by omega) (by omega) (by omega) (fun x hx => by rw [any_mem]; simp [ha x hx])
  simp only [steps, List.map_cons, List.map_nil] at this
  simp [p_is_script, this]
theorem are_rules_ok (k : Nat) (a b c : Str) (h1 : a = w "stop" ∨ a = w "fail" ∨ a = w "wait") (h2 : b = w "go" ∨ b = w "stop") (h3 : c = w "go" ∨ c = w "stop") : Fn (k + 2) (w "are_rules") [.fz (.tuple [.str a, .str b, .str c])] = .ok (.fz (.bool true)) [.fz (.tuple [.str a, .str b, .str c])] := by
  rw [step p_are_rules (by kernel_rfl) rfl rfl]
  have e1 : (decide (w "stop" = a) || (decide (w "fail" = a) || decide (w "wait" = a))) = true := by rcases h1 with rfl | rfl | rfl <;> simp
  have e2 : ∀ x ∈ [b, c], (decide (w "go" = x) || decide (w "stop" = x)) = true := by
    intro x hx
    simp only [List.mem_cons, List.not_mem_nil, or_false] at hx
    rcases hx with rfl | rfl
    · rcases h2 with rfl | rfl <;> simp
    · rcases h3 with rfl | rfl <;> simp
  have := e1
  simp at this
  simp [p_are_rules, is_word_ok, this]
  rw [lc_each (Fn (k + 1)) [b, c] .str (fun x => .bool true) (by simp; rfl) (by rfl) (fun x hx => ⟨_, by have := e2 x hx; simp at this; simp [is_word_ok, this]; rfl, by rfl⟩) (by rfl) (by simp)]
  simp
theorem first_other_ok {α : Type} (k : Nat) (f : Str) (l : List α) (enc : α → PyData) (hl : l.length ≤ 1000) (h : ∀ a ∈ l, Fn k f [.fz (enc a)] = .ok (.fz (.bool true)) [.fz (enc a)]) : Fn (k + 1) (w "first_other") [.fz (.tuple (l.map enc)), .fn f] = .ok (.fz .none) [.fz (.tuple (l.map enc)), .fn f] := by
  rw [step p_first_other (by kernel_rfl) rfl rfl]
  simp [p_first_other, enumD_map]
  rw [lc_filt (Fn k) ((l.map enc).zipIdx) (fun p => .tuple [.int p.2, p.1]) (fun p => .int p.2) (fun _ => false) (by simp [enumD_map]; rfl) (by rfl) (fun p hp => by
    have : p.1 ∈ l.map enc := List.mem_of_getElem? (List.mem_zipIdx_iff_getElem?.mp hp)
    obtain ⟨a, ha, e⟩ := List.mem_map.mp this
    exact ⟨_, by simp [← e, h a ha]; rfl, by rfl⟩) (by rfl) (by simp; omega)]
  simp
theorem row_fault_ok {α : Type} (k : Nat) (f : Str) (l : List α) (enc : α → PyData) (lo hi : Int) (x : Str) (h1 : lo ≤ l.length) (h2 : l.length ≤ hi) (hl : l.length ≤ 1000) (h : ∀ a ∈ l, Fn k f [.fz (enc a)] = .ok (.fz (.bool true)) [.fz (enc a)]) :
    Fn (k + 2) (w "row_fault") [.fz (.tuple (l.map enc)), .fz (.int lo), .fz (.int hi), .fn f, .fz (.str x)] = .ok (.fz .none) [.fz (.tuple (l.map enc)), .fz (.int lo), .fz (.int hi), .fn f, .fz (.str x)] := by
  rw [step p_row_fault (by kernel_rfl) rfl rfl]
  simp [p_row_fault, first_other_ok k f l enc hl h, h1, h2]
theorem setup_fault_ok (k : Nat) (S : Setup) (h : SetOk S) : Fn (k + 6) (w "setup_fault") [.fz (setE S)] = .ok (.fz .none) [.fz (setE S)] := by
  rw [step p_setup_fault (by kernel_rfl) rfl rfl]
  have e1 := row_fault_ok (k + 3) (w "is_kind") S.ks strsE 1 3 (w "kinds") (by have := h.k1; omega) (by have := h.k3; omega) (by have := h.k3; omega) fun a ha => is_kind_ok k a (h.ka a ha).1 (h.ka a ha).2.1 (h.ka a ha).2.2
  have e2 := row_fault_ok (k + 3) (w "is_script") S.sc strsE 4 4 (w "shell") (by have := h.s4; omega) (by have := h.s4; omega) (by have := h.s4; omega) fun a ha => is_script_ok k a (h.sa a ha).1 (h.sa a ha).2
  have e3 := are_rules_ok (k + 3) S.r1 S.r2 S.r3 h.r1 h.r2 h.r3
  simp [p_setup_fault, setE, e1, e2, e3]
theorem need_setup_ok (k : Nat) (S : Setup) (h : SetOk S) : Fn (k + 7) (w "need_setup") [.fz (setE S)] = .ok (.fz (setE S)) [.fz (setE S)] := by
  rw [step p_need_setup (by kernel_rfl) rfl rfl]
  simp [p_need_setup, setup_fault_ok k S h]
theorem scr_get {S : Setup} (h : SetOk S) {x : Str} : S.sc[scIx x]? = some (S.scr x) := by
  have : scIx x < S.sc.length := by
    rw [h.s4]
    unfold scIx
    split
    · omega
    · split
      · omega
      · split <;> omega
  unfold Setup.scr
  rw [List.getD_eq_getElem?_getD, List.getElem?_eq_getElem this]
  rfl
theorem script_of_ok (k : Nat) (S : Setup) (h : SetOk S) (x : Str) (hx : isScr x) : Fn (k + 1) (w "script_of") [.fz (setE S), .fz (.str x)] = .ok (.fz (strsE (S.scr x))) [.fz (setE S), .fz (.str x)] := by
  rw [step p_script_of (by kernel_rfl) rfl rfl]
  have e := scr_get h (x := x)
  rcases hx with rfl | rfl | rfl | rfl <;> simp [p_script_of, setE, sameK, indexD, strsD, List.findIdx?_cons, scIx] <;> simp [scIx] at e <;> simp [e]
end FJ.K15

set_option Elab.async false
set_option linter.all false
set_option autoImplicit false
set_option maxRecDepth 100000
/-! K15c: rows. -/
namespace FJ.K15
open PySem FJ
structure JobOk (S : Setup) (j : Job) : Prop where
  kd : j.kd < S.ks.length
  pl : j.pl ≤ (S.ks.getD j.kd []).length
  sn : (j.st = w "ended" ∧ j.no = w "end") ∨ ((j.st = w "runs" ∨ j.st = w "stopped") ∧ (j.no = w "none" ∨ j.no = w "stop"))
def RoleOk (r : Str) : Prop := r = w "none" ∨ r = w "hand" ∨ r = w "front" ∨ r = w "both"
theorem is_job_ok (k : Nat) (S : Setup) (j : Job) (h : JobOk S j) : Fn (k + 2) (w "is_job") [.fz (setE S), .fz (jE j)] = .ok (.fz (.bool true)) [.fz (setE S), .fz (jE j)] := by
  rw [step p_is_job (by kernel_rfl) rfl rfl]
  obtain ⟨kd, pl, ow, st, no, he⟩ := j
  obtain ⟨h1, h2, h3⟩ := h
  simp only at h1 h2 h3
  have hk : S.ks[kd]? = some (S.ks.getD kd []) := by
    rw [List.getD_eq_getElem?_getD, List.getElem?_eq_getElem h1]
    rfl
  have h1' : (0 : Int) ≤ kd ∧ (kd : Int) ≤ S.ks.length - 1 := by omega
  have h2' : (pl : Int) ≤ (S.ks.getD kd []).length := by omega
  generalize S.ks.getD kd [] = kk at hk h2'
  rcases h3 with ⟨rfl, rfl⟩ | ⟨rfl | rfl, rfl | rfl⟩ <;> simp [p_is_job, jE, setE, is_whole_int, is_word_ok, h1'.2, h2', hk, strsE]
theorem law_whole (k : Nat) (i lo hi : Int) : Fn (k + 1) (w "_law_is_whole") [.fz (.int i), .fz (.int lo), .fz (.int hi)] = .ok (.fz (.bool (decide (lo ≤ i) && decide (i ≤ hi)))) [.fz (.int i), .fz (.int lo), .fz (.int hi)] := by
  rw [step p__law_is_whole (by kernel_rfl) rfl rfl]
  by_cases h : lo ≤ i <;> simp [p__law_is_whole, h]
theorem law_word (k : Nat) (x : Str) (ys : List PyData) (h : noDicts ys = true) : Fn (k + 1) (w "_law_is_word") [.fz (.str x), .fz (.tuple ys)] = .ok (.fz (.bool (ys.any fun y => PyData.eqv y (.str x)))) [.fz (.str x), .fz (.tuple ys)] := by
  rw [step p__law_is_word (by kernel_rfl) rfl rfl]
  simp [p__law_is_word, h]
theorem law_job (k : Nat) (S : Setup) (j : Job) (h : JobOk S j) : Fn (k + 2) (w "_law_is_job") [.fz (setE S), .fz (jE j)] = .ok (.fz (.bool true)) [.fz (setE S), .fz (jE j)] := by
  rw [step p__law_is_job (by kernel_rfl) rfl rfl]
  obtain ⟨kd, pl, ow, st, no, he⟩ := j
  obtain ⟨h1, h2, h3⟩ := h
  simp only at h1 h2 h3
  have hk : S.ks[kd]? = some (S.ks.getD kd []) := by
    rw [List.getD_eq_getElem?_getD, List.getElem?_eq_getElem h1]
    rfl
  have h1' : (0 : Int) ≤ kd ∧ (kd : Int) ≤ S.ks.length - 1 := by omega
  have h2' : (pl : Int) ≤ (S.ks.getD kd []).length := by omega
  generalize S.ks.getD kd [] = kk at hk h2'
  rcases h3 with ⟨rfl, rfl⟩ | ⟨rfl | rfl, rfl | rfl⟩ <;> simp [p__law_is_job, jE, setE, law_whole, law_word, h1'.2, h2', hk, strsE]
theorem law_script (k : Nat) (S : Setup) (h : SetOk S) (x : Str) (hx : isScr x) : Fn (k + 1) (w "_law_script") [.fz (setE S), .fz (.str x)] = .ok (.fz (strsE (S.scr x))) [.fz (setE S), .fz (.str x)] := by
  rw [step p__law_script (by kernel_rfl) rfl rfl]
  have e := scr_get h (x := x)
  rcases hx with rfl | rfl | rfl | rfl <;> simp [p__law_script, setE, sameK, indexD, eqOk, List.findIdx?_cons, scIx] <;> simp [scIx] at e <;> simp [e]
theorem is_place_ok (k : Nat) (S : Setup) (h : SetOk S) (x : Str) (p : Nat) (hp : (x = w "none" ∧ p = 0) ∨ (isScr x ∧ p < (S.scr x).length)) : Fn (k + 2) (w "is_place") [.fz (setE S), .fz (.str x), .fz (.int p)] = .ok (.fz (.bool true)) [.fz (setE S), .fz (.str x), .fz (.int p)] := by
  rw [step p_is_place (by kernel_rfl) rfl rfl]
  rcases hp with ⟨rfl, rfl⟩ | ⟨hx, hp⟩
  · have := is_whole_int k 0 0 0
    simp [p_is_place, this]
  · have h1 : ¬ x = w "none" := by rcases hx with rfl | rfl | rfl | rfl <;> simp
    have := script_of_ok k S h x hx
    have e := is_whole_int k p 0 ((S.scr x).length - 1)
    have h2 : (p : Int) ≤ (S.scr x).length - 1 := by omega
    simp [p_is_place, this, strsE, e, h1, h2]
/-! what is asked of shapes and lots -/
@[simp] theorem sh_isT (s : Shape) : isTy .tuple (shE s) = true := rfl
@[simp] theorem sh_len (s : Shape) : b1D .len (shE s) = some (.d (.int 2)) := rfl
@[simp] theorem sh_0 (s : Shape) : itemD (shE s) (.int 0) = some (jE s.1) := rfl
@[simp] theorem sh_1 (s : Shape) : itemD (shE s) (.int 1) = some (.str s.2) := rfl
@[simp] theorem sh_tg (s : Shape) (ts : ITgs) (r : Rh) : tgD (.tp ts) (shE s) r = tgsD ts [jE s.1, .str s.2] r := by unfold shE; rw [tgD_tp]
@[simp] theorem lot_isT (s : Lot) : isTy .tuple (lotE s) = true := rfl
@[simp] theorem lot_len (s : Lot) : b1D .len (lotE s) = some (.d (.int 2)) := rfl
@[simp] theorem lot_0 (s : Lot) : itemD (lotE s) (.int 0) = some (shE s.1) := rfl
@[simp] theorem lot_1 (s : Lot) : itemD (lotE s) (.int 1) = some (.int s.2) := rfl
@[simp] theorem lot_tg (s : Lot) (ts : ITgs) (r : Rh) : tgD (.tp ts) (lotE s) r = tgsD ts [shE s.1, .int s.2] r := by unfold lotE; rw [tgD_tp]
@[simp] theorem j_isT (s : Job) : isTy .tuple (jE s) = true := rfl
@[simp] theorem j_2 (s : Job) : itemD (jE s) (.int 2) = some (.bool s.ow) := rfl
@[simp] theorem j_3 (s : Job) : itemD (jE s) (.int 3) = some (.str s.st) := rfl
@[simp] theorem j_nd (s : Job) : noDict (jE s) = true := by simp [jE]
@[simp] theorem sh_nd (s : Shape) : noDict (shE s) = true := by simp [shE]
@[simp] theorem lot_nd (s : Lot) : noDict (lotE s) = true := by simp [lotE]
@[simp] theorem j_dp (s : Job) : (jE s).depth = 1 := by simp [jE]
@[simp] theorem sh_dp (s : Shape) : (shE s).depth = 2 := by simp [shE]
@[simp] theorem lot_dp (s : Lot) : (lotE s).depth = 3 := by simp [lotE]
@[simp] theorem j_ev (a b : Job) : PyData.eqv (jE a) (jE b) = decide (a = b) := by
  obtain ⟨a1, a2, a3, a4, a5, a6⟩ := a
  obtain ⟨b1, b2, b3, b4, b5, b6⟩ := b
  simp only [jE, eqv_tuple, eqvAll_cc, eqv_int, eqv_bool, eqv_str, eqvAll_nil, Job.mk.injEq, Int.ofNat_inj]
  simp only [Bool.decide_and, decide_true]
  simp
@[simp] theorem sh_ev (a b : Shape) : PyData.eqv (shE a) (shE b) = decide (a = b) := by
  obtain ⟨a1, a2⟩ := a
  obtain ⟨b1, b2⟩ := b
  simp [shE]
@[simp] theorem sh_alike (a b : Shape) : PySem.W.alike (shE a) (shE b) = true := by simp [shE, jE, PySem.W.alike, PySem.W.alikeAll]
@[simp] theorem lot_alike (a b : Lot) : PySem.W.alike (lotE a) (lotE b) = true := by simp [lotE, shE, jE, PySem.W.alike, PySem.W.alikeAll]
def sLt (a b : Shape) : Bool := PySem.W.dataLt (shE a) (shE b)
@[simp] theorem sh_lt (a b : Shape) : cmpD .lt (shE a) (shE b) = some (sLt a b) := by
  have h : ltOk (shE a) (shE b) = true := by
    simp [ltOk, eqOk]
    rfl
  show (if ltOk (shE a) (shE b) = true then some (PySem.W.dataLt (shE a) (shE b)) else none) = _
  rw [if_pos h]
  rfl
def lLt (a b : Lot) : Bool := PySem.W.dataLt (lotE a) (lotE b)
def adj (l : List Shape) : Bool := (l.zip l.tail).all fun p => sLt p.1 p.2
def isFr (r : Str) : Bool := decide (w "front" = r) || decide (w "both" = r)
def isHd (r : Str) : Bool := decide (w "hand" = r) || decide (w "both" = r)
structure RowT (S : Setup) (r : Row) : Prop where
  wd : (r.wd = w "none" ∧ r.pl = 0) ∨ (isScr r.wd ∧ r.pl < (S.scr r.wd).length)
  fr : r.fr = w "shell" ∨ r.fr = w "job" ∨ r.fr = w "nobody"
  md : r.md = w "plain" ∨ r.md = w "raw"
  ll : r.lots.length ≤ 4
  lj : ∀ l ∈ r.lots, JobOk S l.1.1 ∧ RoleOk l.1.2 ∧ l.2 ≤ 14
structure RowOk (S : Setup) (r : Row) : Prop extends RowT S r where
  one : ∀ l ∈ r.lots, l.1.2 = w "none" ∨ l.2 = 1
  so : adj (r.lots.map (·.1)) = true
  fo : ∀ l ∈ r.lots, isFr l.1.2 = true → l.1.1.ow = true ∧ l.1.1.st ≠ w "ended"
  fc : (r.lots.filter fun l => isFr l.1.2).length = if r.fr = w "job" then 1 else 0
  hc : (r.lots.filter fun l => isHd l.1.2).length ≤ if r.wd = w "none" then 0 else 1
@[simp] theorem zip_adj {α : Type} (e : α → PyData) (l : List α) : zipD (l.map e) (l.map e).tail = (l.zip l.tail).map fun p => .tuple [e p.1, e p.2] := by
  rw [← List.map_tail, zipD_map]
@[simp] theorem lots_nd (l : List Lot) : noDicts (l.map lotE) = true := noDicts_of fun x hx => by
  obtain ⟨y, _, rfl⟩ := List.mem_map.mp hx
  simp
@[simp] theorem shs_nd (l : List Shape) : noDicts (l.map shE) = true := noDicts_of fun x hx => by
  obtain ⟨y, _, rfl⟩ := List.mem_map.mp hx
  simp
theorem adj_map (ls : List Lot) : ((ls.zip ls.tail).all fun p => sLt p.1.1 p.2.1) = adj (ls.map (·.1)) := by
  unfold adj
  rw [← List.map_tail, List.zip_map, List.all_map]
  rfl
theorem are_shapes_ok (k : Nat) (S : Setup) (r : Row) (h : RowOk S r) : Fn (k + 3) (w "are_shapes") [.fz (setE S), .fz (lotsE r.lots)] = .ok (.fz (.bool true)) [.fz (setE S), .fz (lotsE r.lots)] := by
  rw [step p_are_shapes (by kernel_rfl) rfl rfl]
  obtain ⟨r', e1, _, a, b, rfl⟩ := for_inv lotE (forB (Fn (k + 2)) 20000 (.nm 2) b_are_shapes) (fun ls r' => (∀ l ∈ ls, l ∈ r.lots) ∧ ∃ a b, r' = [.fz (setE S), .fz (.tuple (r.lots.map lotE)), a, b, .un, .un]) (fun l ls r' hI => by
    obtain ⟨hl, a, b, rfl⟩ := hI
    obtain ⟨hj, hr, hm⟩ := h.lj l (hl l (List.mem_cons_self ..))
    have h1 := h.one l (hl l (List.mem_cons_self ..))
    refine ⟨[.fz (setE S), .fz (.tuple (r.lots.map lotE)), .fz (lotE l), .fz (shE l.1), .un, .un], ?_, fun y hy => hl y (List.mem_cons_of_mem _ hy), _, _, rfl⟩
    obtain ⟨⟨jj, ro⟩, n⟩ := l
    have hm' : (0 : Int) ≤ n := by omega
    simp only at hj hr h1
    rcases hr with rfl | rfl | rfl | rfl <;> simp at h1 <;> simp [forB, b_are_shapes, is_whole_none, is_job_ok k S _ hj, is_word_ok, h1]) (l := r.lots) (r := [.fz (setE S), .fz (.tuple (r.lots.map lotE)), .un, .un, .un, .un]) ⟨fun _ h => h, _, _, rfl⟩
  simp [p_are_shapes, lotsE, e1]
  rw [lc_each (Fn (k + 2)) (r.lots.zip r.lots.tail) (fun p => .tuple [lotE p.1, lotE p.2]) (fun p => .bool (sLt p.1.1 p.2.1)) (by simp; rfl) (by rfl) (fun p hp => ⟨_, by simp; rfl, by rfl⟩) (by rfl) (by simp; have := h.ll; omega)]
  have := adj_map r.lots
  rw [h.so] at this
  simp [this]
theorem fr_any (ro : Str) : (w "front" = ro ∨ w "both" = ro) = (isFr ro = true) := by simp [isFr]
theorem hd_any (ro : Str) : (w "hand" = ro ∨ w "both" = ro) = (isHd ro = true) := by simp [isHd]
theorem have_roles_ok (k : Nat) (S : Setup) (r : Row) (h : RowOk S r) : Fn (k + 1) (w "have_roles") [.fz (.str r.wd), .fz (.str r.fr), .fz (lotsE r.lots)] = .ok (.fz (.bool true)) [.fz (.str r.wd), .fz (.str r.fr), .fz (lotsE r.lots)] := by
  rw [step p_have_roles (by kernel_rfl) rfl rfl]
  have hl : r.lots.length ≤ sizeLine := by have := h.ll; simp; omega
  simp [p_have_roles, lotsE]
  rw [lc_filt (Fn k) r.lots lotE (fun l => jE l.1.1) (fun l => isFr l.1.2) (by simp; rfl) (by rfl) (fun p hp => ⟨_, by simp [isFr]; rfl, by rfl⟩) (by rfl) hl]
  simp
  rw [lc_filt (Fn k) r.lots lotE (fun l => jE l.1.1) (fun l => isHd l.1.2) (by simp; rfl) (by rfl) (fun p hp => ⟨_, by simp [isHd]; rfl, by rfl⟩) (by rfl) hl]
  have fc : ((r.lots.filter fun l => isFr l.1.2).length : Int) = if r.fr = w "job" then 1 else 0 := by
    rw [h.fc]
    split <;> rfl
  have hc : ¬ ((if r.wd = w "none" then (0 : Int) else 1) < (r.lots.filter fun l => isHd l.1.2).length) := by
    have := h.hc
    split at this <;> split <;> first | omega | contradiction
  simp [fc, hc]
  rw [lc_each (Fn k) (r.lots.filter fun l => isFr l.1.2) (fun l => jE l.1.1) (fun l => .bool true) (by simp; rfl) (by rfl) (fun p hp => ⟨_, by
    have := List.mem_filter.mp hp
    have := h.fo p this.1 this.2
    simp [this]; rfl, by rfl⟩) (by rfl) (by have := List.length_filter_le (fun l => isFr l.1.2) r.lots; omega)]
  simp
theorem is_row_in_ok (k : Nat) (S : Setup) (hS : SetOk S) (r : Row) (h : RowOk S r) : Fn (k + 4) (w "is_row_in") [.fz (setE S), .fz (rowE r)] = .ok (.fz (.bool true)) [.fz (setE S), .fz (rowE r)] := by
  rw [step p_is_row_in (by kernel_rfl) rfl rfl]
  have e1 := is_place_ok (k + 1) S hS r.wd r.pl h.wd
  have e2 := are_shapes_ok k S r h
  have e3 := have_roles_ok (k + 2) S r h
  have e4 := is_word_yes (k + 2) r.wd [w "none", w "fore", w "back", w "front", w "behind"] (by rcases h.wd with ⟨e, _⟩ | ⟨e | e | e | e, _⟩ <;> simp [e])
  have e5 := is_word_yes (k + 2) r.fr [w "shell", w "job", w "nobody"] (by rcases h.fr with e | e | e <;> simp [e])
  have e6 := is_word_yes (k + 2) r.md [w "plain", w "raw"] (by rcases h.md with e | e <;> simp [e])
  simp only [List.map_cons, List.map_nil] at e4 e5 e6
  simp [p_is_row_in, rowE, e1, e2, e3, e4, e5, e6]
theorem need_row_ok (k : Nat) (S : Setup) (hS : SetOk S) (r : Row) (h : RowOk S r) : Fn (k + 8) (w "need_row") [.fz (setE S), .fz (rowE r)] = .ok (.fz (rowE r)) [.fz (setE S), .fz (rowE r)] := by
  rw [step p_need_row (by kernel_rfl) rfl rfl]
  have e1 := need_setup_ok k S hS
  have e2 := is_row_in_ok (k + 3) S hS r h
  simp [p_need_row, e1, e2]
/-! ### below -/
def nn (l : Lot) : Bool := !decide (l.1.2 = w "none")
def fe (l : Lot) : Bool := decide (l.1.2 = w "none")
theorem key_of_ok (k : Nat) (r : Row) (hl : r.lots.length ≤ 1000) : Fn (k + 1) (w "key_of") [.fz (rowE r)] = .ok (.fz (.tuple ([.str r.wd, .int r.pl, .str r.fr, .str r.md] ++ (r.lots.filter nn).map fun l => shE l.1))) [.fz (rowE r)] := by
  rw [step p_key_of (by kernel_rfl) rfl rfl]
  simp [p_key_of, rowE, lotsE]
  rw [lc_filt (Fn k) r.lots lotE (fun l => shE l.1) nn (by simp; rfl) (by rfl) (fun p hp => ⟨_, by simp [nn]; rfl, by rfl⟩) (by rfl) (by simp; omega)]
  have := List.length_filter_le nn r.lots
  have h2 : (r.lots.filter nn).length + 4 ≤ 16777216 := by omega
  have h3 : 4 + (r.lots.filter nn).length ≤ 16777216 := by omega
  simp [h2, h3]
end FJ.K15

set_option Elab.async false
set_option linter.all false
set_option autoImplicit false
set_option maxRecDepth 100000
/-! K15d: one row below another. -/
namespace FJ.K15
open PySem FJ
/-! ### dicts of shapes -/
def encD (l : List Lot) : List (PyData × PyData) := l.map fun l => (shE l.1, .int l.2)
def lk (l : List Lot) (s : Shape) : Option Nat := (l.find? fun l => decide (l.1 = s)).map (·.2)
def lput (l : List Lot) (s : Shape) (n : Nat) : List Lot := if (l.any fun l => decide (l.1 = s)) = true then l.map fun l => if l.1 = s then (l.1, n) else l else l ++ [(s, n)]
theorem sh_key (s : Shape) : tupKey (shE s) = true := by simp [tupKey, shE, jE, nksOk, nkOk]
@[simp] theorem keyFits_enc (l : List Lot) (s : Shape) : keyFits (encD l) (shE s) = true := by
  unfold keyFits
  rw [sh_key]
  have : ((encD l).all fun p => tupKey p.1) = true := by
    unfold encD
    rw [List.all_map, List.all_eq_true]
    intro x _
    exact sh_key x.1
  rw [this]
  simp
@[simp] theorem dfind_enc (l : List Lot) (s : Shape) : dfind (encD l) (shE s) = (lk l s).map fun n => .int n := by
  unfold dfind lk encD
  rw [List.find?_map]
  simp only [Option.map_map]
  congr 1
  · congr 1
    funext x
    simp
theorem dput_enc (l : List Lot) (s : Shape) (n : Nat) : dput (encD l) (shE s) (.int n) = encD (lput l s n) := by
  unfold dput lput
  have : ((encD l).any fun p => PyData.eqv p.1 (shE s)) = l.any fun l => decide (l.1 = s) := by
    unfold encD
    rw [List.any_map]
    congr 1
    funext x
    simp
  rw [this]
  split
  · unfold encD
    rw [List.map_map, List.map_map]
    congr 1
    funext x
    by_cases h : x.1 = s <;> simp [h]
  · unfold encD
    rw [List.map_append]
    rfl
@[simp] theorem encD_len (l : List Lot) : (encD l).length = l.length := by simp [encD]
theorem dmake_enc : ∀ (l acc : List Lot), ((acc ++ l).map (·.1)).Nodup → acc.length + l.length < 16777216 → dmake (encD acc) (encD l) = some (encD (acc ++ l))
  | [], acc, _, _ => by simp [encD, dmake]
  | (s, n) :: l, acc, h, hl => by
    have e : encD ((s, n) :: l) = (shE s, .int n) :: encD l := rfl
    have hl' : acc.length < 16777216 := by omega
    rw [e, dmake, keyFits_enc]
    simp only [Bool.true_and, encD_len, sizeLine_le, decide_eq_true_eq, hl', if_true]
    rw [dput_enc]
    have : lput acc s n = acc ++ [(s, n)] := by
      unfold lput
      rw [if_neg]
      intro z
      rw [List.any_eq_true] at z
      obtain ⟨x, hx, e⟩ := z
      rw [decide_eq_true_eq] at e
      rw [List.map_append, List.nodup_append] at h
      exact h.2.2 x.1 (List.mem_map_of_mem hx) s (by simp) e
    rw [this, dmake_enc l (acc ++ [(s, n)]) (by simpa using h) (by simp; simp at hl; omega)]
    simp
theorem free_of_ok (k : Nat) (r : Row) (hl : r.lots.length ≤ 1000) (hn : (r.lots.map (·.1)).Nodup) : Fn (k + 1) (w "free_of") [.fz (rowE r)] = .ok (.ow (.dict (encD (r.lots.filter fe)))) [.fz (rowE r)] := by
  rw [step p_free_of (by kernel_rfl) rfl rfl]
  simp [p_free_of, rowE, lotsE]
  have e := dmake_enc (r.lots.filter fe) [] (by
    rw [List.nil_append]
    exact List.Nodup.sublist ((List.filter_sublist (p := fe) (l := r.lots)).map (·.1)) hn) (by have := List.length_filter_le fe r.lots; simp; omega)
  rw [List.nil_append] at e
  have e2 : (r.lots.flatMap fun l => if fe l = true then [(shE l.1, PyData.int l.2)] else []) = encD (r.lots.filter fe) := flatMap_if ..
  rw [dc_map (Fn k) r.lots lotE (fun l => if fe l = true then [(shE l.1, .int l.2)] else []) (by simp; rfl) (by rfl) (fun p hp => ⟨_, by simp [fe]; rfl, by rfl⟩) (by rfl) (by rw [e2]; exact e)]
  simp
def bad (B : List Lot) (l : Lot) : Bool := match lk B l.1 with
  | none => true
  | some b => !decide (b = 0) && (decide (l.2 = 0) || decide (b < l.2))
theorem enc_items (A : List Lot) : ((encD A).map fun p => PyData.tuple [p.1, p.2]) = A.map lotE := by
  unfold encD
  rw [List.map_map]
  rfl
theorem are_within_ok (k : Nat) (A B : List Lot) : Fn (k + 1) (w "are_within") [.ow (.dict (encD A)), .ow (.dict (encD B))] = .ok (.fz (.bool (!(A.any (bad B))))) [.fz (.dict (encD A)), .ow (.dict (encD B))] := by
  rw [step p_are_within (by kernel_rfl) rfl rfl]
  obtain ⟨r', e1, a, b, c, rfl⟩ := for_any lotE (forB (Fn k) 20000 (.tp (.cons (.nm 2) (.cons (.nm 3) .nil))) b_are_within) (fun r' => ∃ a b c, r' = [.fz (.dict (encD A)), .ow (.dict (encD B)), a, b, c]) (.d (.bool false)) (bad B) (l := A) (r := [.fz (.dict (encD A)), .ow (.dict (encD B)), .un, .un, .un]) (fun l hl r' hI => by
    obtain ⟨a, b, c, rfl⟩ := hI
    cases h : lk B l.1 with
    | none =>
      refine ⟨[.fz (.dict (encD A)), .ow (.dict (encD B)), .fz (shE l.1), .fz (.int l.2), .fz .none], ?_, _, _, _, rfl⟩
      simp [forB, b_are_within, h, bad]
    | some b =>
      refine ⟨[.fz (.dict (encD A)), .ow (.dict (encD B)), .fz (shE l.1), .fz (.int l.2), .fz (.int b)], ?_, _, _, _, rfl⟩
      by_cases h0 : b = 0
      · simp [forB, b_are_within, h, bad, h0]
      · by_cases h1 : l.2 = 0
        · simp [forB, b_are_within, h, bad, h0, h1]
        · by_cases h2 : b < l.2
          · simp [forB, b_are_within, h, bad, h0, h1, h2]
          · simp [forB, b_are_within, h, bad, h0, h1, h2]) ⟨_, _, _, rfl⟩
  simp [p_are_within, enc_items, e1]
  cases h : A.any (bad B) <;> simp
def keys (r : Row) : List Shape := (r.lots.filter nn).map (·.1)
def belowB (a b : Row) : Bool := decide (a.wd = b.wd ∧ a.pl = b.pl ∧ a.fr = b.fr ∧ a.md = b.md ∧ keys a = keys b) && !((a.lots.filter fe).any (bad (b.lots.filter fe)))
theorem shs_ev : ∀ (l m : List Shape), PyData.eqvAll (l.map shE) (m.map shE) = decide (l = m)
  | [], [] => by simp
  | [], _ :: _ => by simp
  | _ :: _, [] => by simp
  | a :: l, b :: m => by simp [shs_ev l m]
theorem shs_dp (l : List Shape) : PyData.depthAll (l.map shE) ≤ 2 := depthAll_of fun x hx => by
  obtain ⟨y, _, rfl⟩ := List.mem_map.mp hx
  simp
theorem is_below_ok (k : Nat) (a b : Row) (hl : a.lots.length ≤ 1000) (hn : (a.lots.map (·.1)).Nodup) (hl' : b.lots.length ≤ 1000) (hn' : (b.lots.map (·.1)).Nodup) : Fn (k + 2) (w "is_below") [.fz (rowE a), .fz (rowE b)] = .ok (.fz (.bool (belowB a b))) [.fz (rowE a), .fz (rowE b)] := by
  rw [step p_is_below (by kernel_rfl) rfl rfl]
  have e1 := key_of_ok k a hl
  have e2 := key_of_ok k b hl'
  have e3 := free_of_ok k a hl hn
  have e4 := free_of_ok k b hl' hn'
  have e5 := are_within_ok k (a.lots.filter fe) (b.lots.filter fe)
  have q : ∀ r : Row, ((r.lots.filter nn).map fun l => shE l.1) = (keys r).map shE := fun r => by unfold keys; rw [List.map_map]; rfl
  rw [q] at e1 e2
  have d : eqD (.tuple ([.str a.wd, .int a.pl, .str a.fr, .str a.md] ++ (keys a).map shE)) (.tuple ([.str b.wd, .int b.pl, .str b.fr, .str b.md] ++ (keys b).map shE)) = some (decide (a.wd = b.wd ∧ a.pl = b.pl ∧ a.fr = b.fr ∧ a.md = b.md ∧ keys a = keys b)) := by
    rw [eqD_of (by simp) (by simp) (by have := shs_dp (keys a); simp; omega)]
    simp only [List.cons_append, List.nil_append, eqv_tuple, eqvAll_cc, eqv_str, eqv_int, shs_ev, Bool.decide_and, Int.ofNat_inj]
  simp [p_is_below, e1, e2, e3, e4, e5] at d ⊢
  rw [d]
  unfold belowB
  by_cases h : a.wd = b.wd ∧ a.pl = b.pl ∧ a.fr = b.fr ∧ a.md = b.md ∧ keys a = keys b
  · simp [h, e3, e4, e5]
  · simp [h]
end FJ.K15

set_option Elab.async false
set_option linter.all false
set_option autoImplicit false
set_option maxRecDepth 100000
/-! K15e: the order of shapes; the law's own look at two rows. -/
namespace FJ.K15
open PySem FJ
theorem nd_map {α : Type} (f : α → PyData) (h : ∀ a, noDict (f a) = true) (l : List α) : noDicts (l.map f) = true := noDicts_of fun x hx => by
  obtain ⟨y, _, rfl⟩ := List.mem_map.mp hx
  exact h y
@[simp] theorem shs_nd2 (l : List Lot) : noDicts (l.map fun l => shE l.1) = true := nd_map _ (fun a => sh_nd a.1) l
theorem sLt_irr (a : Shape) : sLt a a = false := PyProof.Rows.lex_irrefl _
theorem sLt_trans {a b c : Shape} (h : sLt a b = true) (h' : sLt b c = true) : sLt a c = true := PyProof.Rows.lex_trans _ _ _ h h'
theorem lLt_trans {a b c : Lot} (h : lLt a b = true) (h' : lLt b c = true) : lLt a c = true := PyProof.Rows.lex_trans _ _ _ h h'
theorem sLt_total {a b : Shape} (h : sLt a b = false) (h' : sLt b a = false) : a = b := by
  have e : PySem.W.keyToks (shE a) = PySem.W.keyToks (shE b) := PyProof.Rows.lex_total _ _ h h'
  by_cases q : a = b
  · exact q
  · have q' : PyData.eqv (shE a) (shE b) = false := by simp [q]
    have z := (PySem.W.toks_eqv (shE a) (shE b) (sh_alike a b)).2 q' [] [.inl 0]
    rw [e] at z
    have z2 : PyProof.Rows.lexLt PyProof.Rows.itemOrd (PySem.W.keyToks (shE b)) (PySem.W.keyToks (shE b)) = false := PyProof.Rows.lex_irrefl _
    rw [z2, PySem.W.lex_pre] at z
    exact absurd z (by decide)
theorem adj_pair : ∀ {l : List Shape}, adj l = true → l.Pairwise fun a b => sLt a b = true
  | [], _ => .nil
  | [a], _ => .cons (fun _ h => nomatch h) .nil
  | a :: b :: l, h => by
    have h1 : sLt a b = true ∧ adj (b :: l) = true := by
      unfold adj at h ⊢
      simpa using h
    have ih := adj_pair h1.2
    refine .cons (fun c hc => ?_) ih
    rcases List.mem_cons.mp hc with rfl | hc
    · exact h1.1
    · exact sLt_trans h1.1 ((List.pairwise_cons.mp ih).1 c hc)
theorem pair_nodup {l : List Shape} (h : l.Pairwise fun a b => sLt a b = true) : l.Nodup := by
  refine h.imp fun {a b} h e => ?_
  rw [e, sLt_irr] at h
  cases h
/-- two ascending lists of the same shapes are one -/
theorem pair_one : ∀ {l m : List Shape}, (l.Pairwise fun a b => sLt a b = true) → (m.Pairwise fun a b => sLt a b = true) → (∀ x, x ∈ l ↔ x ∈ m) → l = m
  | [], [], _, _, _ => rfl
  | [], b :: m, _, _, h => by have := (h b).mpr (List.mem_cons_self ..); cases this
  | a :: l, [], _, _, h => by have := (h a).mp (List.mem_cons_self ..); cases this
  | a :: l, b :: m, hl, hm, h => by
    obtain ⟨hl1, hl2⟩ := List.pairwise_cons.mp hl
    obtain ⟨hm1, hm2⟩ := List.pairwise_cons.mp hm
    have e : a = b := by
      rcases List.mem_cons.mp ((h a).mp (List.mem_cons_self ..)) with e | ha
      · exact e
      · rcases List.mem_cons.mp ((h b).mpr (List.mem_cons_self ..)) with e | hb
        · exact e.symm
        · have := sLt_trans (hl1 b hb) (hm1 a ha)
          rw [sLt_irr] at this
          cases this
    subst e
    rw [pair_one hl2 hm2 fun x => ?_]
    constructor
    · intro hx
      rcases List.mem_cons.mp ((h x).mp (List.mem_cons_of_mem _ hx)) with e | hx'
      · subst e
        have := hl1 x hx
        rw [sLt_irr] at this
        cases this
      · exact hx'
    · intro hx
      rcases List.mem_cons.mp ((h x).mpr (List.mem_cons_of_mem _ hx)) with e | hx'
      · subst e
        have := hm1 x hx
        rw [sLt_irr] at this
        cases this
      · exact hx'
theorem RowOk.nd {S : Setup} {r : Row} (h : RowOk S r) : (r.lots.map (·.1)).Nodup := pair_nodup (adj_pair h.so)
theorem is_under_ok (k : Nat) (S : Setup) (hS : SetOk S) (a b : Row) (ha : RowOk S a) (hb : RowOk S b) : Fn (k + 9) (w "is_under") [.fz (setE S), .fz (rowE a), .fz (rowE b)] = .ok (.fz (.bool (belowB a b))) [.fz (setE S), .fz (rowE a), .fz (rowE b)] := by
  rw [step p_is_under (by kernel_rfl) rfl rfl]
  have e1 := need_row_ok k S hS a ha
  have e2 := need_row_ok k S hS b hb
  have e3 := is_below_ok (k + 6) a b (by have := ha.ll; omega) ha.nd (by have := hb.ll; omega) hb.nd
  simp [p_is_under, e1, e2, e3]
theorem pairs_lots (l : List Lot) : pairsD (l.map lotE) = some (encD l) := by
  induction l with
  | nil => rfl
  | cons a l ih =>
    show (pairsD (l.map lotE)).map _ = _
    rw [ih]
    rfl
theorem dict_lots (l : List Lot) (hl : l.length ≤ 1000) (hn : (l.map (·.1)).Nodup) : dictD (l.map lotE) = some (.fresh (.dict (encD l))) := by
  unfold dictD
  rw [pairs_lots]
  simp only
  have := dmake_enc l [] (by simpa using hn) (by simp; omega)
  rw [List.nil_append] at this
  have e : encD [] = [] := rfl
  rw [e] at this
  rw [this]
  rfl
theorem lk_self {l : List Lot} (hn : (l.map (·.1)).Nodup) {x : Lot} (hx : x ∈ l) : lk l x.1 = some x.2 := by
  induction l with
  | nil => cases hx
  | cons a l ih =>
    unfold lk
    rw [List.map_cons, List.nodup_cons] at hn
    rcases List.mem_cons.mp hx with rfl | hx
    · simp
    · have : ¬ a.1 = x.1 := fun e => hn.1 (by rw [e]; exact List.mem_map_of_mem hx)
      rw [List.find?_cons_of_neg (by simpa using this)]
      exact ih hn.2 hx
def lawBelow (a b : Row) : Bool := decide (a.wd = b.wd ∧ a.pl = b.pl ∧ a.fr = b.fr ∧ a.md = b.md) && (!(a.lots.any (bad b.lots)) && (b.lots.filter fun l => nn l && (lk a.lots l.1).isNone).isEmpty)
theorem law_below_ok (k : Nat) (a b : Row) (hl : a.lots.length ≤ 1000) (hn : (a.lots.map (·.1)).Nodup) (hl' : b.lots.length ≤ 1000) (hn' : (b.lots.map (·.1)).Nodup) : Fn (k + 1) (w "_law_below") [.fz (rowE a), .fz (rowE b)] = .ok (.fz (.bool (lawBelow a b))) [.fz (rowE a), .fz (rowE b)] := by
  rw [step p__law_below (by kernel_rfl) rfl rfl]
  have d : eqD (.tuple [.str a.wd, .int a.pl, .str a.fr, .str a.md]) (.tuple [.str b.wd, .int b.pl, .str b.fr, .str b.md]) = some (decide (a.wd = b.wd ∧ a.pl = b.pl ∧ a.fr = b.fr ∧ a.md = b.md)) := by
    rw [eqD_of (by simp) (by simp) (by simp)]
    simp only [eqv_tuple, eqvAll_cc, eqvAll_nil, eqv_str, eqv_int, Bool.decide_and, Int.ofNat_inj, Bool.and_true]
  obtain ⟨r', e1, s, rfl⟩ := for_any (fun l => shE l.1) (forB (Fn k) 20000 (.nm 4) b__law_below) (fun r' => ∃ s, r' = [.fz (rowE a), .fz (rowE b), .fz (.dict (encD a.lots)), .fz (.dict (encD b.lots)), s]) (.d (.bool false)) (bad b.lots) (l := a.lots) (r := [.fz (rowE a), .fz (rowE b), .fz (.dict (encD a.lots)), .fz (.dict (encD b.lots)), .un]) (fun l hl r' hI => by
    obtain ⟨s, rfl⟩ := hI
    have h0 := lk_self hn hl
    refine ⟨[.fz (rowE a), .fz (rowE b), .fz (.dict (encD a.lots)), .fz (.dict (encD b.lots)), .fz (shE l.1)], ?_, _, rfl⟩
    cases h : lk b.lots l.1 with
    | none => simp [forB, b__law_below, h, bad]
    | some b =>
      by_cases h1 : b = 0
      · simp [forB, b__law_below, h, bad, h0, h1]
      · by_cases h2 : l.2 = 0
        · simp [forB, b__law_below, h, bad, h0, h1, h2]
        · by_cases h3 : b < l.2
          · simp [forB, b__law_below, h, bad, h0, h1, h2, h3]
          · simp [forB, b__law_below, h, bad, h0, h1, h2, h3]) ⟨_, rfl⟩
  have q : ∀ l : List Lot, (encD l).map (·.1) = l.map fun l => shE l.1 := fun l => by
    unfold encD
    rw [List.map_map]
    rfl
  unfold lawBelow
  generalize hc : decide (a.wd = b.wd ∧ a.pl = b.pl ∧ a.fr = b.fr ∧ a.md = b.md) = c at d
  simp only [rowE, lotsE] at e1
  cases c
  · simp [p__law_below, rowE, lotsE, d]
  · simp [p__law_below, rowE, lotsE, d, dict_lots _ hl hn, dict_lots _ hl' hn', q]
    rw [e1]
    cases a.lots.any (bad b.lots)
    · simp
      rw [lc_filt (Fn k) b.lots (fun l => shE l.1) (fun l => shE l.1) (fun l => nn l && (lk a.lots l.1).isNone) (by simp [q]; rfl) (by rfl) (fun p hp => ⟨_, by cases h : lk a.lots p.1 <;> by_cases h2 : p.1.2 = w "none" <;> simp [nn, h, h2] <;> rfl, by rfl⟩) (by rfl) (by simp; omega)]
      simp
    · simp
end FJ.K15

set_option Elab.async false
set_option linter.all false
set_option autoImplicit false
set_option maxRecDepth 100000
/-! K15f: one row below another, in words without a program. -/
namespace FJ.K15
open PySem FJ
structure RowS (r : Row) : Prop where
  one : ∀ l ∈ r.lots, l.1.2 = w "none" ∨ l.2 = 1
  so : (r.lots.map (·.1)).Pairwise fun a b => sLt a b = true
theorem RowOk.s {S : Setup} {r : Row} (h : RowOk S r) : RowS r := ⟨h.one, adj_pair h.so⟩
theorem RowS.nd {r : Row} (h : RowS r) : (r.lots.map (·.1)).Nodup := pair_nodup h.so
structure Below (a b : Row) : Prop where
  hd : a.wd = b.wd ∧ a.pl = b.pl ∧ a.fr = b.fr ∧ a.md = b.md
  w : ∀ l ∈ a.lots, ∃ m, (l.1, m) ∈ b.lots ∧ (m = 0 ∨ (l.2 ≠ 0 ∧ l.2 ≤ m))
  v : ∀ l ∈ b.lots, l.1.2 ≠ K15.w "none" → l.1 ∈ a.lots.map (·.1)
theorem lk_mem {l : List Lot} {s : Shape} {n : Nat} (h : lk l s = some n) : (s, n) ∈ l := by
  unfold lk at h
  cases q : l.find? fun l => decide (l.1 = s) with
  | none => rw [q] at h; cases h
  | some x =>
    rw [q] at h
    cases h
    have h1 := List.mem_of_find?_eq_some q
    have h2 := List.find?_some q
    rw [decide_eq_true_eq] at h2
    subst h2
    exact h1
theorem lk_none {l : List Lot} {s : Shape} (h : lk l s = none) : s ∉ l.map (·.1) := by
  intro z
  obtain ⟨x, hx, rfl⟩ := List.mem_map.mp z
  unfold lk at h
  rw [Option.map_eq_none_iff, List.find?_eq_none] at h
  exact h x hx (by simp)
theorem bad_iff {B : List Lot} {l : Lot} (hn : (B.map (·.1)).Nodup) : bad B l = false ↔ ∃ m, (l.1, m) ∈ B ∧ (m = 0 ∨ (l.2 ≠ 0 ∧ l.2 ≤ m)) := by
  unfold bad
  cases h : lk B l.1 with
  | none =>
    constructor
    · intro z; cases z
    · rintro ⟨m, hm, _⟩
      exact (lk_none h (List.mem_map_of_mem (f := (·.1)) hm)).elim
  | some b =>
    constructor
    · intro z
      refine ⟨b, lk_mem h, ?_⟩
      by_cases h0 : b = 0
      · exact .inl h0
      · right
        simp [h0] at z
        exact ⟨z.1, by omega⟩
    · rintro ⟨m, hm, z⟩
      have := lk_self hn hm
      simp only at this
      rw [h] at this
      cases this
      rcases z with rfl | ⟨z1, z2⟩
      · simp
      · simp [z1]
        omega
theorem law_iff {a b : Row} (ha : RowS a) (hb : RowS b) : lawBelow a b = true ↔ Below a b := by
  unfold lawBelow
  rw [Bool.and_eq_true, decide_eq_true_eq, Bool.and_eq_true, Bool.not_eq_true', List.any_eq_false, List.isEmpty_iff, List.filter_eq_nil_iff]
  constructor
  · rintro ⟨h1, h2, h3⟩
    refine ⟨h1, fun l hl => (bad_iff hb.nd).mp (by simpa using h2 l hl), fun l hl hn => ?_⟩
    have := h3 l hl
    cases q : lk a.lots l.1 with
    | none => simp [nn, hn, q] at this
    | some m => exact List.mem_map.mpr ⟨_, lk_mem q, rfl⟩
  · rintro ⟨h1, h2, h3⟩
    refine ⟨h1, fun l hl => by simpa using (bad_iff hb.nd).mpr (h2 l hl), fun l hl z => ?_⟩
    simp [nn] at z
    have z2 : lk a.lots l.1 = none := by
      cases q : lk a.lots l.1 with
      | none => rfl
      | some m => rw [q] at z; simp at z
    exact lk_none z2 (h3 l hl z.1)
theorem keys_pair {r : Row} (h : RowS r) : (keys r).Pairwise fun a b => sLt a b = true := by
  unfold keys
  exact h.so.sublist ((List.filter_sublist (p := nn) (l := r.lots)).map (·.1))
theorem mem_keys {r : Row} {s : Shape} : s ∈ keys r ↔ s.2 ≠ w "none" ∧ s ∈ r.lots.map (·.1) := by
  unfold keys
  simp only [List.mem_map, List.mem_filter]
  constructor
  · rintro ⟨l, ⟨h1, h2⟩, rfl⟩
    exact ⟨by simpa [nn] using h2, l, h1, rfl⟩
  · rintro ⟨h1, l, h2, rfl⟩
    exact ⟨l, ⟨h2, by simpa [nn] using h1⟩, rfl⟩
theorem free_nd {r : Row} (h : RowS r) : ((r.lots.filter fe).map (·.1)).Nodup := List.Nodup.sublist ((List.filter_sublist (p := fe) (l := r.lots)).map (·.1)) h.nd
theorem below_iff {a b : Row} (ha : RowS a) (hb : RowS b) : belowB a b = true ↔ Below a b := by
  unfold belowB
  rw [Bool.and_eq_true, decide_eq_true_eq, Bool.not_eq_true', List.any_eq_false]
  have f : ∀ (r : Row) (l : Lot), l ∈ r.lots.filter fe ↔ l ∈ r.lots ∧ l.1.2 = w "none" := fun r l => by
    rw [List.mem_filter]
    simp [fe]
  constructor
  · rintro ⟨⟨h1, h2, h3, h4, h5⟩, h6⟩
    refine ⟨⟨h1, h2, h3, h4⟩, fun l hl => ?_, fun l hl hn => ?_⟩
    · by_cases hn : l.1.2 = w "none"
      · obtain ⟨m, hm, z⟩ := (bad_iff (free_nd hb)).mp (by simpa using h6 l ((f a l).mpr ⟨hl, hn⟩))
        exact ⟨m, ((f b _).mp hm).1, z⟩
      · have : l.1 ∈ keys b := by
          rw [← h5]
          exact mem_keys.mpr ⟨hn, List.mem_map_of_mem hl⟩
        obtain ⟨l', hl', e⟩ := List.mem_map.mp (mem_keys.mp this).2
        have e1 : l.2 = 1 := (ha.one l hl).resolve_left hn
        have e2 : l'.2 = 1 := (hb.one l' hl').resolve_left (by rw [e]; exact hn)
        obtain ⟨s', m'⟩ := l'
        simp only at e e2
        subst e e2
        exact ⟨1, hl', .inr ⟨by omega, by omega⟩⟩
    · have : l.1 ∈ keys a := by
        rw [h5]
        exact mem_keys.mpr ⟨hn, List.mem_map_of_mem hl⟩
      exact (mem_keys.mp this).2
  · rintro ⟨⟨h1, h2, h3, h4⟩, h5, h6⟩
    refine ⟨⟨h1, h2, h3, h4, pair_one (keys_pair ha) (keys_pair hb) fun s => ?_⟩, fun l hl => ?_⟩
    · rw [mem_keys, mem_keys]
      constructor
      · rintro ⟨hn, hs⟩
        obtain ⟨l, hl, rfl⟩ := List.mem_map.mp hs
        obtain ⟨m, hm, _⟩ := h5 l hl
        exact ⟨hn, List.mem_map.mpr ⟨_, hm, rfl⟩⟩
      · rintro ⟨hn, hs⟩
        obtain ⟨l, hl, rfl⟩ := List.mem_map.mp hs
        exact ⟨hn, h6 l hl hn⟩
    · obtain ⟨hl1, hn⟩ := (f a l).mp hl
      obtain ⟨m, hm, z⟩ := h5 l hl1
      have := (bad_iff (free_nd hb)).mpr ⟨m, (f b _).mpr ⟨hm, hn⟩, z⟩
      simpa using this
theorem below_law {a b : Row} (ha : RowS a) (hb : RowS b) : belowB a b = lawBelow a b := by
  rw [Bool.eq_iff_iff, below_iff ha hb, law_iff ha hb]
theorem Below.refl {a : Row} : Below a a := ⟨⟨rfl, rfl, rfl, rfl⟩, fun l hl => ⟨l.2, hl, by omega⟩, fun l hl _ => List.mem_map_of_mem hl⟩
theorem Below.trans {a b c : Row} (h : Below a b) (h' : Below b c) : Below a c := by
  obtain ⟨⟨p1, p2, p3, p4⟩, w1, v1⟩ := h
  obtain ⟨⟨q1, q2, q3, q4⟩, w2, v2⟩ := h'
  refine ⟨⟨p1.trans q1, p2.trans q2, p3.trans q3, p4.trans q4⟩, fun l hl => ?_, fun l hl hn => ?_⟩
  · obtain ⟨m, hm, z⟩ := w1 l hl
    obtain ⟨m', hm', z'⟩ := w2 _ hm
    refine ⟨m', hm', ?_⟩
    simp only at z'
    omega
  · obtain ⟨l', hl', e⟩ := List.mem_map.mp (v2 l hl hn)
    rw [← e]
    exact v1 l' hl' (by rw [e]; exact hn)
/-! ### the row of a standing with all jobs -/
def fullL (ls : List Lot) (e : Nat) : List Lot := ls.filterMap fun l => if 0 < l.2 then some l else if 0 < e then some (l.1, e) else none
def fullRow (r : Row) (e : Nat) : Row := { r with lots := fullL r.lots e }
theorem fullL_mem {ls : List Lot} {e : Nat} {l : Lot} : l ∈ fullL ls e ↔ (l ∈ ls ∧ 0 < l.2) ∨ ((l.1, 0) ∈ ls ∧ l.2 = e ∧ 0 < e) := by
  unfold fullL
  rw [List.mem_filterMap]
  constructor
  · rintro ⟨x, hx, h⟩
    split at h
    · cases h
      exact .inl ⟨hx, by assumption⟩
    · split at h
      · cases h
        have : x.2 = 0 := by omega
        refine .inr ⟨?_, rfl, by assumption⟩
        rw [← this]
        exact hx
      · cases h
  · rintro (⟨h1, h2⟩ | ⟨h1, h2, h3⟩)
    · exact ⟨l, h1, by rw [if_pos h2]⟩
    · refine ⟨_, h1, ?_⟩
      rw [if_neg (by simp), if_pos h3, ← h2]
theorem fullL_sub (ls : List Lot) (e : Nat) : ((fullL ls e).map (·.1)).Sublist (ls.map (·.1)) := by
  induction ls with
  | nil => exact .slnil
  | cons l ls ih =>
    unfold fullL
    rw [List.filterMap_cons]
    split
    · exact ih.cons _
    · rename_i x hx
      have : x.1 = l.1 := by
        split at hx
        · cases hx; rfl
        · split at hx
          · cases hx; rfl
          · cases hx
      rw [List.map_cons, List.map_cons, this]
      exact ih.cons₂ _
theorem fullRow_s {r : Row} (h : RowS r) (e : Nat) : RowS (fullRow r e) where
  one := fun l hl => by
    rcases fullL_mem.mp hl with ⟨h1, _⟩ | ⟨h1, _, _⟩
    · exact h.one l h1
    · rcases h.one _ h1 with z | z
      · exact .inl z
      · cases z
  so := h.so.sublist (fullL_sub r.lots e)
theorem full_below {r : Row} (h : RowS r) (e : Nat) : Below (fullRow r e) r := by
  refine ⟨⟨rfl, rfl, rfl, rfl⟩, fun l hl => ?_, fun l hl hn => ?_⟩
  · rcases fullL_mem.mp hl with ⟨h1, h2⟩ | ⟨h1, _, _⟩
    · exact ⟨l.2, h1, by omega⟩
    · exact ⟨0, h1, .inl rfl⟩
  · have e1 : l.2 = 1 := (h.one l hl).resolve_left hn
    exact List.mem_map_of_mem (fullL_mem.mpr (.inl ⟨hl, by omega⟩))
theorem full_other {r b : Row} {e : Nat} (h : RowS r) (he : 0 < e) (hb : ∀ l ∈ b.lots, l.2 < e) : Below (fullRow r e) b ↔ Below r b := by
  have keep : ∀ l ∈ r.lots, l.1 ∈ (fullL r.lots e).map (·.1) := fun l hl => by
    by_cases h0 : 0 < l.2
    · exact List.mem_map_of_mem (fullL_mem.mpr (.inl ⟨hl, h0⟩))
    · have : l.2 = 0 := by omega
      refine List.mem_map.mpr ⟨(l.1, e), fullL_mem.mpr (.inr ⟨?_, rfl, he⟩), rfl⟩
      rw [← this]
      exact hl
  constructor
  · rintro ⟨h1, h2, h3⟩
    refine ⟨h1, fun l hl => ?_, fun l hl hn => ?_⟩
    · by_cases h0 : 0 < l.2
      · exact h2 l (fullL_mem.mpr (.inl ⟨hl, h0⟩))
      · have h00 : l.2 = 0 := by omega
        obtain ⟨m, hm, z⟩ := h2 (l.1, e) (fullL_mem.mpr (.inr ⟨by rw [← h00]; exact hl, rfl, he⟩))
        have := hb _ hm
        refine ⟨m, hm, ?_⟩
        simp only at z this
        omega
    · obtain ⟨l', hl', e'⟩ := List.mem_map.mp (h3 l hl hn)
      rcases fullL_mem.mp hl' with ⟨z, _⟩ | ⟨z, _, _⟩
      · rw [← e']; exact List.mem_map_of_mem z
      · rw [← e']; exact List.mem_map.mpr ⟨_, z, rfl⟩
  · rintro ⟨h1, h2, h3⟩
    refine ⟨h1, fun l hl => ?_, fun l hl hn => ?_⟩
    · rcases fullL_mem.mp hl with ⟨z, _⟩ | ⟨z, z2, _⟩
      · exact h2 l z
      · obtain ⟨m, hm, q⟩ := h2 _ z
        refine ⟨m, hm, ?_⟩
        simp at q
        exact .inl q
    · obtain ⟨l', hl', e'⟩ := List.mem_map.mp (h3 l hl hn)
      rw [← e']
      exact keep l' hl'
end FJ.K15

set_option Elab.async false
set_option linter.all false
set_option autoImplicit false
set_option maxRecDepth 100000
/-! K15g: a standing with all jobs of a row. -/
namespace FJ.K15
open PySem FJ
def cn (e : Nat) (l : Lot) : Nat := if 0 < l.2 then l.2 else e
def copies (e : Nat) (ls : List Lot) : List Shape := ls.flatMap fun l => List.replicate (cn e l) l.1
def jobsE (cs : List Shape) : List PyData := cs.zipIdx.map fun p => .tuple [.int p.2, jE p.1.1]
theorem jobsE_len (cs : List Shape) : (jobsE cs).length = cs.length := by simp [jobsE]
theorem jobsE_snoc (cs : List Shape) (s : Shape) : jobsE (cs ++ [s]) = jobsE cs ++ [.tuple [.int cs.length, jE s.1]] := by
  unfold jobsE
  rw [List.zipIdx_append, List.map_append]
  simp
def posGo (P : Str → Bool) (e : Nat) : List Lot → Nat → Option Nat → Option Nat
  | [], _, acc => acc
  | l :: ls, n, acc => posGo P e ls (n + cn e l) (if P l.1.2 = true then some n else acc)
def frE (f : Str) : Option Nat → PyData
  | some n => .int n
  | none => .str f
def hdI : Option Nat → Int
  | some n => n
  | none => -1
@[simp] theorem frE_some (f : Str) (n : Nat) : frE f (some n) = .int n := rfl
@[simp] theorem frE_none (f : Str) : frE f none = .str f := rfl
@[simp] theorem hdI_some (n : Nat) : hdI (some n) = n := rfl
@[simp] theorem hdI_none : hdI none = -1 := rfl
def fullE (r : Row) (e : Nat) : PyData := .tuple [.str r.wd, .int r.pl, frE r.fr (posGo isFr e r.lots 0 none), .str r.md, .int (hdI (posGo isHd e r.lots 0 none)), .int (copies e r.lots).length, .tuple (jobsE (copies e r.lots))]
theorem rng_map (n : Nat) : rngD (n : Int) = (List.range n).map fun (k : Nat) => .int k := by simp [rngD]
@[simp] theorem fr_if (P : Prop) [Decidable P] (f : Str) (n : Nat) (a : Option Nat) : (if P then Slot.fz (.int n) else .fz (frE f a)) = .fz (frE f (if P then some n else a)) := by split <;> rfl
@[simp] theorem hd_if (P : Prop) [Decidable P] (n : Nat) (a : Option Nat) : (if P then Slot.fz (.int n) else .fz (.int (hdI a))) = .fz (.int (hdI (if P then some n else a))) := by split <;> rfl
theorem app_loop (k : Nat) (r : Row) (e : Nat) (f h : PyData) (l : Lot) (n : Nat) (cs : List Shape) (c : Slot) (hn : cs.length + n ≤ 1000) : ∃ x, forR (forB (Fn k) 20000 (.nm 7) b__law_full) ((List.range n).map fun (k : Nat) => .int k) [.fz (rowE r), .fz (.int e), .fz f, .fz h, .ow (.list (jobsE cs)), .fz (shE l.1), .fz (.int l.2), c] =
    .ok .next [.fz (rowE r), .fz (.int e), .fz f, .fz h, .ow (.list (jobsE (cs ++ List.replicate n l.1))), .fz (shE l.1), .fz (.int l.2), x] := by
  obtain ⟨r2, e2, cs2, x, q5, rfl⟩ := for_inv (fun (k : Nat) => .int k) (forB (Fn k) 20000 (.nm 7) b__law_full) (fun ks r' => ∃ (cs2 : List Shape) (x : Slot), cs2 ++ List.replicate ks.length l.1 = cs ++ List.replicate n l.1 ∧
        r' = [.fz (rowE r), .fz (.int e), .fz f, .fz h, .ow (.list (jobsE cs2)), .fz (shE l.1), .fz (.int l.2), x]) (fun i ks r' hI => by
      obtain ⟨cs2, x, q5, rfl⟩ := hI
      have hle2 : cs2.length < 16777216 := by
        have := congrArg List.length q5
        simp at this
        omega
      refine ⟨[.fz (rowE r), .fz (.int e), .fz f, .fz h, .ow (.list (jobsE (cs2 ++ [l.1]))), .fz (shE l.1), .fz (.int l.2), .fz (.int i)], ?_, cs2 ++ [l.1], _, by rw [← q5]; simp [List.replicate_succ], rfl⟩
      simp [forB, b__law_full, hle2, jobsE_snoc, jobsE_len]) (l := List.range n) (r := [.fz (rowE r), .fz (.int e), .fz f, .fz h, .ow (.list (jobsE cs)), .fz (shE l.1), .fz (.int l.2), c]) ⟨cs, c, by simp, rfl⟩
  simp at q5
  subst q5
  exact ⟨x, e2⟩
theorem full_step (k : Nat) (r : Row) (e : Nat) (l : Lot) (cs : List Shape) (F Hd : Option Nat) (a b c : Slot) (hn : cs.length + cn e l ≤ 1000) : ∃ x, forB (Fn k) 20000 (.tp (.cons (.nm 5) (.cons (.nm 6) .nil))) b__law_full2 (lotE l) [.fz (rowE r), .fz (.int e), .fz (frE r.fr F), .fz (.int (hdI Hd)), .ow (.list (jobsE cs)), a, b, c] =
    .ok .next [.fz (rowE r), .fz (.int e), .fz (frE r.fr (if isFr l.1.2 = true then some cs.length else F)), .fz (.int (hdI (if isHd l.1.2 = true then some cs.length else Hd))), .ow (.list (jobsE (cs ++ List.replicate (cn e l) l.1))), .fz (shE l.1), .fz (.int l.2), x] := by
  obtain ⟨x, e2⟩ := app_loop k r e (frE r.fr (if isFr l.1.2 = true then some cs.length else F)) (.int (hdI (if isHd l.1.2 = true then some cs.length else Hd))) l (cn e l) cs c hn
  refine ⟨x, ?_⟩
  have gc : (if 0 < l.2 then (l.2 : Int) else (e : Int)) = ((cn e l : Nat) : Int) := by unfold cn; split <;> rfl
  generalize cn e l = n at *
  have g3 := fun r => rgV_small r n (by omega)
  cases h1 : isFr l.1.2 <;> cases h2 : isHd l.1.2 <;> simp [h1, h2] at e2 <;> simp -implicitDefEqProofs [forB, b__law_full2, fr_any, hd_any, h1, h2, jobsE_len, gc, g3, e2]
theorem law_full_ok (k : Nat) (r : Row) (e : Nat) (hb : (copies e r.lots).length ≤ 1000) : Fn (k + 1) (w "_law_full") [.fz (rowE r), .fz (.int e)] = .ok (.fz (fullE r e)) [.fz (rowE r), .fz (.int e)] := by
  rw [step p__law_full (by kernel_rfl) rfl rfl]
  obtain ⟨r', e1, cs, F, Hd, a, b, c, q1, q2, q3, rfl⟩ := for_inv lotE (forB (Fn k) 20000 (.tp (.cons (.nm 5) (.cons (.nm 6) .nil))) b__law_full2) (fun ls r' => ∃ (cs : List Shape) (F Hd : Option Nat) (a b c : Slot), cs ++ copies e ls = copies e r.lots ∧ posGo isFr e ls cs.length F = posGo isFr e r.lots 0 none ∧ posGo isHd e ls cs.length Hd = posGo isHd e r.lots 0 none ∧
      r' = [.fz (rowE r), .fz (.int e), .fz (frE r.fr F), .fz (.int (hdI Hd)), .ow (.list (jobsE cs)), a, b, c]) (fun l ls r' hI => by
    obtain ⟨cs, F, Hd, a, b, c, q1, q2, q3, rfl⟩ := hI
    have hc : copies e (l :: ls) = List.replicate (cn e l) l.1 ++ copies e ls := rfl
    have hle : cs.length + cn e l ≤ 1000 := by
      rw [hc] at q1
      have := congrArg List.length q1
      simp at this
      omega
    obtain ⟨x, e2⟩ := full_step k r e l cs F Hd a b c hle
    refine ⟨_, e2, cs ++ List.replicate (cn e l) l.1, _, _, _, _, _, ?_, ?_, ?_, rfl⟩
    · rw [← q1, hc, List.append_assoc]
    · rw [← q2]; simp [posGo]
    · rw [← q3]; simp [posGo]) (l := r.lots) (r := [.fz (rowE r), .fz (.int e), .fz (frE r.fr none), .fz (.int (hdI none)), .ow (.list (jobsE [])), .un, .un, .un]) ⟨[], none, none, _, _, _, rfl, rfl, rfl, rfl⟩
  have q1 : cs = copies e r.lots := by simpa [copies] using q1
  have q2 : F = posGo isFr e r.lots 0 none := q2
  have q3 : Hd = posGo isHd e r.lots 0 none := q3
  subst q1 q2 q3
  have j0 : jobsE [] = [] := rfl
  simp [p__law_full, rowE, lotsE, j0] at e1 ⊢
  rw [e1]
  simp [jobsE_len, fullE]
end FJ.K15

set_option Elab.async false
set_option linter.all false
set_option autoImplicit false
set_option maxRecDepth 100000
/-! K15i: the standing with all jobs of a row is one. -/
namespace FJ.K15
open PySem FJ
theorem copies_mem {e : Nat} {ls : List Lot} {s : Shape} (h : s ∈ copies e ls) : ∃ l ∈ ls, l.1 = s ∧ 0 < cn e l := by
  obtain ⟨l, hl, hs⟩ := List.mem_flatMap.mp h
  obtain ⟨h1, h2⟩ := List.mem_replicate.mp hs
  exact ⟨l, hl, h2.symm, by omega⟩
theorem pos_spec (P : Str → Bool) (e : Nat) : ∀ (ls : List Lot) (n : Nat) (acc : Option Nat), (ls.filter fun l => P l.1.2).length ≤ 1 → (∀ l ∈ ls, P l.1.2 = true → cn e l = 1) →
    ((ls.filter fun l => P l.1.2).length = 0 ∧ posGo P e ls n acc = acc ∧ ∀ s ∈ copies e ls, P s.2 = false) ∨ (∃ i s, (ls.filter fun l => P l.1.2).length = 1 ∧ posGo P e ls n acc = some (n + i) ∧ (copies e ls)[i]? = some s ∧ P s.2 = true ∧ ∀ j s, (copies e ls)[j]? = some s → (P s.2 = true ↔ j = i))
  | [], n, acc, _, _ => .inl ⟨rfl, rfl, fun _ h => nomatch h⟩
  | l :: ls, n, acc, h1, h2 => by
    have hc : copies e (l :: ls) = List.replicate (cn e l) l.1 ++ copies e ls := rfl
    have h2' : ∀ l ∈ ls, P l.1.2 = true → cn e l = 1 := fun x hx => h2 x (List.mem_cons_of_mem _ hx)
    cases hp : P l.1.2 with
    | true =>
      have fp : (l :: ls).filter (fun l => P l.1.2) = l :: ls.filter fun l => P l.1.2 := List.filter_cons_of_pos (p := fun l : Lot => P l.1.2) hp
      rw [fp, List.length_cons] at h1
      have hz : (ls.filter fun l => P l.1.2).length = 0 := by omega
      have c1 := h2 l (List.mem_cons_self ..) hp
      right
      rcases pos_spec P e ls (n + cn e l) (some n) (by omega) h2' with ⟨_, g2, g3⟩ | ⟨i, s, g1, _⟩
      · refine ⟨0, l.1, by rw [fp, List.length_cons, hz], ?_, ?_, hp, fun j s hj => ?_⟩
        · rw [posGo, hp, if_pos rfl, g2, Nat.add_zero]
        · rw [hc, c1]; rfl
        · rw [hc, c1] at hj
          cases j with
          | zero => cases hj; exact ⟨fun _ => rfl, fun _ => hp⟩
          | succ j =>
            have hj : (copies e ls)[j]? = some s := hj
            have := g3 s (List.mem_of_getElem? hj)
            rw [this]
            exact ⟨(fun z => nomatch z), fun z => by omega⟩
      · omega
    | false =>
      have hp' : ¬ P l.1.2 = true := by rw [hp]; exact Bool.false_ne_true
      have fp : (l :: ls).filter (fun l => P l.1.2) = ls.filter fun l => P l.1.2 := List.filter_cons_of_neg (p := fun l : Lot => P l.1.2) hp'
      rw [fp] at h1
      have go : posGo P e (l :: ls) n acc = posGo P e ls (n + cn e l) acc := by
        rw [posGo, hp]
        rfl
      rw [go, fp]
      rcases pos_spec P e ls (n + cn e l) acc h1 h2' with ⟨g1, g2, g3⟩ | ⟨i, s, g1, g2, g3, g4, g5⟩
      · refine .inl ⟨g1, g2, fun s hs => ?_⟩
        rw [hc] at hs
        rcases List.mem_append.mp hs with z | z
        · rw [(List.mem_replicate.mp z).2]; exact hp
        · exact g3 s z
      · refine .inr ⟨cn e l + i, s, g1, by rw [g2]; congr 1; omega, ?_, g4, fun j s' hj => ?_⟩
        · rw [hc, List.getElem?_append_right (by simp)]
          simpa using g3
        · rw [hc] at hj
          by_cases hlt : j < cn e l
          · rw [List.getElem?_append_left (by simpa using hlt)] at hj
            have := (List.mem_replicate.mp (List.mem_of_getElem? hj)).2
            rw [this, hp]
            exact ⟨(fun z => nomatch z), fun z => by omega⟩
          · rw [List.getElem?_append_right (by simpa using hlt)] at hj
            simp at hj
            rw [g5 _ _ hj]
            constructor <;> intro z <;> omega
/-! ### the standing's parts -/
def pE (p : Shape × Nat) : PyData := .tuple [.int p.2, jE p.1.1]
theorem jobsE_eq (cs : List Shape) : jobsE cs = cs.zipIdx.map pE := rfl
@[simp] theorem p_isT (p : Shape × Nat) : isTy .tuple (pE p) = true := rfl
@[simp] theorem p_len (p : Shape × Nat) : b1D .len (pE p) = some (.d (.int 2)) := rfl
@[simp] theorem p_0 (p : Shape × Nat) : itemD (pE p) (.int 0) = some (.int p.2) := rfl
@[simp] theorem p_1 (p : Shape × Nat) : itemD (pE p) (.int 1) = some (jE p.1.1) := rfl
@[simp] theorem p_tg (p : Shape × Nat) (ts : ITgs) (r : Rh) : tgD (.tp ts) (pE p) r = tgsD ts [.int p.2, jE p.1.1] r := by unfold pE; rw [tgD_tp]
theorem zip_asc : ∀ (cs : List Shape) (n : Nat), ∀ q ∈ (cs.zipIdx n).zip (cs.zipIdx n).tail, q.1.2 < q.2.2
  | [], _, q, h => by simp at h
  | [a], _, q, h => by simp at h
  | a :: b :: cs, n, q, h => by
    rw [List.zipIdx_cons, List.zipIdx_cons, List.tail_cons, List.zip_cons_cons] at h
    rcases List.mem_cons.mp h with rfl | h
    · simp
    · have := zip_asc (b :: cs) (n + 1) q
      rw [List.zipIdx_cons, List.tail_cons] at this
      exact this h
theorem are_jobs_ok (k : Nat) (S : Setup) (cs : List Shape) (hl : cs.length ≤ 1000) (hj : ∀ s ∈ cs, JobOk S s.1) : Fn (k + 3) (w "are_jobs") [.fz (setE S), .fz (.int cs.length), .fz (.tuple (jobsE cs))] = .ok (.fz (.bool true)) [.fz (setE S), .fz (.int cs.length), .fz (.tuple (jobsE cs))] := by
  rw [step p_are_jobs (by kernel_rfl) rfl rfl]
  have hz : cs.zipIdx.length ≤ sizeLine := by simp; omega
  simp -implicitDefEqProofs [p_are_jobs, jobsE_eq]
  rw [lc_each (Fn (k + 2)) cs.zipIdx pE (fun _ => .bool true) (by simp; rfl) (by rfl) (fun p hp => ⟨_, by simp; rfl, by rfl⟩) (by rfl) hz]
  simp -implicitDefEqProofs
  rw [lc_each (Fn (k + 2)) cs.zipIdx pE (fun _ => .bool true) (by simp; rfl) (by rfl) (fun p hp => by
    have h1 := List.mem_zipIdx_iff_getElem?.mp hp
    have h2 := hj p.1 (List.mem_of_getElem? h1)
    have h3 := (List.getElem?_eq_some_iff.mp h1).1
    have h4 := is_whole_int (k + 1) p.2 0 (cs.length - 1)
    have h5 := is_job_ok k S p.1.1 h2
    have h6 : (p.2 : Int) ≤ cs.length - 1 := by omega
    exact ⟨_, by simp [h4, h5, h6]; rfl, by rfl⟩) (by rfl) hz]
  simp -implicitDefEqProofs
  rw [lc_each (Fn (k + 2)) (cs.zipIdx.zip cs.zipIdx.tail) (fun p => .tuple [pE p.1, pE p.2]) (fun p => .bool true) (by simp; rfl) (by rfl) (fun q hq => by
    have := zip_asc cs 0 q hq
    exact ⟨_, by simp [this]; rfl, by rfl⟩) (by rfl) (by simp; omega)]
  simp -implicitDefEqProofs
theorem filter_at : ∀ (cs : List Shape) (n i : Nat), (cs.zipIdx n).filter (fun p => decide (p.2 = n + i)) = match cs[i]? with
    | some s => [(s, n + i)]
    | none => []
  | [], n, i => by simp
  | a :: cs, n, 0 => by
    rw [List.zipIdx_cons, List.filter_cons_of_pos (by simp)]
    have : ∀ p ∈ cs.zipIdx (n + 1), ¬ (decide (p.2 = n + 0) = true) := fun p hp => by
      have := List.le_snd_of_mem_zipIdx hp
      simp
      omega
    rw [List.filter_eq_nil_iff.mpr this]
    rfl
  | a :: cs, n, i + 1 => by
    rw [List.zipIdx_cons, List.filter_cons_of_neg (by simp)]
    have := filter_at cs (n + 1) i
    rw [show n + 1 + i = n + (i + 1) by omega] at this
    rw [this]
    rfl
theorem find_job_ok (k : Nat) (cs : List Shape) (hl : cs.length ≤ 1000) (i : Nat) (s : Shape) (h : cs[i]? = some s) : Fn (k + 1) (w "find_job") [.fz (.tuple (jobsE cs)), .fz (.int i)] = .ok (.fz (jE s.1)) [.fz (.tuple (jobsE cs)), .fz (.int i)] := by
  rw [step p_find_job (by kernel_rfl) rfl rfl]
  have hz : cs.zipIdx.length ≤ sizeLine := by simp; omega
  have f := filter_at cs 0 i
  rw [h, Nat.zero_add] at f
  simp -implicitDefEqProofs [p_find_job, jobsE_eq]
  rw [lc_filt (Fn k) cs.zipIdx pE (fun p => jE p.1.1) (fun p => decide (p.2 = i)) (by simp; rfl) (by rfl) (fun p hp => ⟨_, by simp [Int.ofNat_inj]; rfl, by rfl⟩) (by rfl) hz]
  simp -implicitDefEqProofs [f]
/-! what is asked of the first and the hand -/
theorem is_word_int (k : Nat) (x : Int) (ys : List PyData) : Fn (k + 1) (w "is_word") [.fz (.int x), .fz (.tuple ys)] = .ok (.fz (.bool false)) [.fz (.int x), .fz (.tuple ys)] := by
  rw [step p_is_word (by kernel_rfl) rfl rfl]
  simp [p_is_word]
theorem can_front_word (k : Nat) (D : PyData) (x : Str) (h : x = w "shell" ∨ x = w "nobody") : Fn (k + 2) (w "can_be_front") [.fz D, .fz (.str x)] = .ok (.fz (.bool true)) [.fz D, .fz (.str x)] := by
  rw [step p_can_be_front (by kernel_rfl) rfl rfl]
  rcases h with rfl | rfl <;> simp [p_can_be_front, is_word_ok]
theorem can_front_job (k : Nat) (cs : List Shape) (hl : cs.length ≤ 1000) (i : Nat) (s : Shape) (h : cs[i]? = some s) (h1 : s.1.ow = true) (h2 : s.1.st ≠ w "ended") : Fn (k + 2) (w "can_be_front") [.fz (.tuple (jobsE cs)), .fz (.int i)] = .ok (.fz (.bool true)) [.fz (.tuple (jobsE cs)), .fz (.int i)] := by
  rw [step p_can_be_front (by kernel_rfl) rfl rfl]
  have e1 := find_job_ok k cs hl i s h
  have e2 := is_whole_none k i 0
  have n0 : isNonD (jE s.1) = false := rfl
  simp -implicitDefEqProofs [p_can_be_front, is_word_int, e1, e2, h1, h2, n0]
theorem can_hand_none (k : Nat) (x : Str) (D : PyData) : Fn (k + 2) (w "can_be_hand") [.fz (.str x), .fz D, .fz (.int (-1))] = .ok (.fz (.bool true)) [.fz (.str x), .fz D, .fz (.int (-1))] := by
  rw [step p_can_be_hand (by kernel_rfl) rfl rfl]
  have e2 := is_whole_int k (-1) (-1) (-1)
  simp -implicitDefEqProofs [p_can_be_hand, e2]
theorem can_hand_job (k : Nat) (x : Str) (hx : x ≠ w "none") (cs : List Shape) (hl : cs.length ≤ 1000) (i : Nat) (s : Shape) (h : cs[i]? = some s) : Fn (k + 2) (w "can_be_hand") [.fz (.str x), .fz (.tuple (jobsE cs)), .fz (.int i)] = .ok (.fz (.bool true)) [.fz (.str x), .fz (.tuple (jobsE cs)), .fz (.int i)] := by
  rw [step p_can_be_hand (by kernel_rfl) rfl rfl]
  have e1 := find_job_ok k cs hl i s h
  have e2 := is_whole_none k i 0
  have e3 := is_whole_int k i (-1) (-1)
  have e4 : ¬ ((-1 : Int) ≤ i ∧ (i : Int) ≤ -1) := by omega
  have n0 : isNonD (jE s.1) = false := rfl
  rw [decide_eq_false e4] at e3
  simp -implicitDefEqProofs [p_can_be_hand, e1, e2, e3, hx, n0]
end FJ.K15

set_option Elab.async false
set_option linter.all false
set_option autoImplicit false
set_option maxRecDepth 100000
/-! K15j: the row of the standing with all jobs of a row. -/
namespace FJ.K15
open PySem FJ
section
variable {S : Setup} {r : Row} (h : RowOk S r) (e : Nat)
include h
theorem cn_role {l : Lot} (hl : l ∈ r.lots) (hn : l.1.2 ≠ w "none") : cn e l = 1 := by
  have := (h.one l hl).resolve_left hn
  unfold cn
  rw [this]
  rfl
theorem cn_fr {l : Lot} (hl : l ∈ r.lots) (hp : isFr l.1.2 = true) : cn e l = 1 := cn_role h e hl fun z => by rw [z] at hp; simp [isFr] at hp
theorem cn_hd {l : Lot} (hl : l ∈ r.lots) (hp : isHd l.1.2 = true) : cn e l = 1 := cn_role h e hl fun z => by rw [z] at hp; simp [isHd] at hp
theorem fr_spec : (r.fr ≠ w "job" ∧ posGo isFr e r.lots 0 none = none ∧ ∀ s ∈ copies e r.lots, isFr s.2 = false) ∨ (∃ i s, r.fr = w "job" ∧ posGo isFr e r.lots 0 none = some i ∧ (copies e r.lots)[i]? = some s ∧ isFr s.2 = true ∧ ∀ j s, (copies e r.lots)[j]? = some s → (isFr s.2 = true ↔ j = i)) := by
  have hc := h.fc
  rcases pos_spec isFr e r.lots 0 none (by rw [hc]; split <;> omega) (fun l hl => cn_fr h e hl) with ⟨g1, g2, g3⟩ | ⟨i, s, g1, g2, g3, g4, g5⟩
  · refine .inl ⟨fun z => ?_, g2, g3⟩
    rw [g1, if_pos z] at hc
    omega
  · refine .inr ⟨i, s, ?_, by rw [g2, Nat.zero_add], g3, g4, g5⟩
    by_cases z : r.fr = w "job"
    · exact z
    · rw [g1, if_neg z] at hc
      omega
theorem hd_spec : (posGo isHd e r.lots 0 none = none ∧ ∀ s ∈ copies e r.lots, isHd s.2 = false) ∨ (∃ i s, r.wd ≠ w "none" ∧ posGo isHd e r.lots 0 none = some i ∧ (copies e r.lots)[i]? = some s ∧ isHd s.2 = true ∧ ∀ j s, (copies e r.lots)[j]? = some s → (isHd s.2 = true ↔ j = i)) := by
  have hc := h.hc
  rcases pos_spec isHd e r.lots 0 none (by split at hc <;> omega) (fun l hl => cn_hd h e hl) with ⟨g1, g2, g3⟩ | ⟨i, s, g1, g2, g3, g4, g5⟩
  · exact .inl ⟨g2, g3⟩
  · refine .inr ⟨i, s, fun z => ?_, by rw [g2, Nat.zero_add], g3, g4, g5⟩
    rw [g1, if_pos z] at hc
    omega
theorem cs_lot {s : Shape} (hs : s ∈ copies e r.lots) : ∃ l ∈ r.lots, l.1 = s := by
  obtain ⟨l, hl, z, _⟩ := copies_mem hs
  exact ⟨l, hl, z⟩
theorem cs_job {s : Shape} (hs : s ∈ copies e r.lots) : JobOk S s.1 ∧ RoleOk s.2 := by
  obtain ⟨l, hl, rfl⟩ := cs_lot h e hs
  exact ⟨(h.lj l hl).1, (h.lj l hl).2.1⟩
theorem front_ok (k : Nat) (hb : (copies e r.lots).length ≤ 1000) : Fn (k + 2) (w "can_be_front") [.fz (.tuple (jobsE (copies e r.lots))), .fz (frE r.fr (posGo isFr e r.lots 0 none))] = .ok (.fz (.bool true)) [.fz (.tuple (jobsE (copies e r.lots))), .fz (frE r.fr (posGo isFr e r.lots 0 none))] := by
  rcases fr_spec h e with ⟨g1, g2, g3⟩ | ⟨i, s, g1, g2, g3, g4, g5⟩
  · rw [g2, frE_none]
    exact can_front_word k _ _ (by rcases h.fr with z | z | z; exact .inl z; exact absurd z g1; exact .inr z)
  · rw [g2, frE_some]
    obtain ⟨l, hl, z⟩ := cs_lot h e (List.mem_of_getElem? g3)
    have := h.fo l hl (by rw [z]; exact g4)
    rw [z] at this
    exact can_front_job k _ hb i s g3 this.1 this.2
theorem hand_ok (k : Nat) (hb : (copies e r.lots).length ≤ 1000) : Fn (k + 2) (w "can_be_hand") [.fz (.str r.wd), .fz (.tuple (jobsE (copies e r.lots))), .fz (.int (hdI (posGo isHd e r.lots 0 none)))] = .ok (.fz (.bool true)) [.fz (.str r.wd), .fz (.tuple (jobsE (copies e r.lots))), .fz (.int (hdI (posGo isHd e r.lots 0 none)))] := by
  rcases hd_spec h e with ⟨g2, g3⟩ | ⟨i, s, g1, g2, g3, g4, g5⟩
  · rw [g2, hdI_none]
    exact can_hand_none k _ _
  · rw [g2, hdI_some]
    exact can_hand_job k _ g1 _ hb i s g3
theorem standing_ok (k : Nat) (hS : SetOk S) (hb : (copies e r.lots).length ≤ 1000) : Fn (k + 4) (w "standing_fault") [.fz (setE S), .fz (fullE r e)] = .ok (.fz .none) [.fz (setE S), .fz (fullE r e)] := by
  rw [step p_standing_fault (by kernel_rfl) rfl rfl]
  have e1 := is_word_yes (k + 2) r.wd [w "none", w "fore", w "back", w "front", w "behind"] (by rcases h.wd with ⟨e, _⟩ | ⟨e | e | e | e, _⟩ <;> simp [e])
  have e2 := is_place_ok (k + 1) S hS r.wd r.pl h.wd
  have e3 := is_word_yes (k + 2) r.md [w "plain", w "raw"] (by rcases h.md with e | e <;> simp [e])
  have e4 := is_whole_none (k + 2) (copies e r.lots).length 0
  have e5 := are_jobs_ok k S (copies e r.lots) hb fun s hs => (cs_job h e hs).1
  have e6 := front_ok h e (k + 1) hb
  have e7 := hand_ok h e (k + 1) hb
  simp only [List.map_cons, List.map_nil] at e1 e3
  unfold fullE
  generalize frE r.fr (posGo isFr e r.lots 0 none) = fv at *
  generalize hdI (posGo isHd e r.lots 0 none) = hv at *
  generalize PyData.tuple (jobsE (copies e r.lots)) = jv at *
  simp -implicitDefEqProofs [p_standing_fault, e1, e2, e3, e4, e5, e6, e7]
theorem need_standing_ok (k : Nat) (hS : SetOk S) (hb : (copies e r.lots).length ≤ 1000) : Fn (k + 8) (w "need_standing") [.fz (setE S), .fz (fullE r e)] = .ok (.fz (fullE r e)) [.fz (setE S), .fz (fullE r e)] := by
  rw [step p_need_standing (by kernel_rfl) rfl rfl]
  have e1 := need_setup_ok k S hS
  have e2 := standing_ok h e (k + 3) hS hb
  simp -implicitDefEqProofs [p_need_standing, e1, e2]
theorem fr_at {p : Shape × Nat} (hp : p ∈ (copies e r.lots).zipIdx) : PyData.eqv (frE r.fr (posGo isFr e r.lots 0 none)) (.int p.2) = isFr p.1.2 := by
  have hj := List.mem_zipIdx_iff_getElem?.mp hp
  rcases fr_spec h e with ⟨g1, g2, g3⟩ | ⟨i, s, g1, g2, g3, g4, g5⟩
  · rw [g2, frE_none, eqv_str_int, g3 _ (List.mem_of_getElem? hj)]
  · rw [g2, frE_some, eqv_int, Bool.eq_iff_iff, g5 _ _ hj, decide_eq_true_eq]
    omega
theorem hd_at {p : Shape × Nat} (hp : p ∈ (copies e r.lots).zipIdx) : decide (hdI (posGo isHd e r.lots 0 none) = (p.2 : Int)) = isHd p.1.2 := by
  have hj := List.mem_zipIdx_iff_getElem?.mp hp
  rcases hd_spec h e with ⟨g2, g3⟩ | ⟨i, s, g1, g2, g3, g4, g5⟩
  · rw [g2, hdI_none, g3 _ (List.mem_of_getElem? hj), decide_eq_false_iff_not]
    omega
  · rw [g2, hdI_some, Bool.eq_iff_iff, g5 _ _ hj, decide_eq_true_eq]
    omega
end
@[simp] theorem frE_nd (f : Str) (a : Option Nat) : noDict (frE f a) = true := by cases a <;> simp [frE]
@[simp] theorem pE_nd (p : Shape × Nat) : noDict (pE p) = true := by simp [pE]
theorem role_of_ok {S : Setup} {r : Row} (h : RowOk S r) (e k : Nat) {p : Shape × Nat} (hp : p ∈ (copies e r.lots).zipIdx) : Fn (k + 1) (w "role_of") [.fz (fullE r e), .fz (.int p.2)] = .ok (.fz (.str p.1.2)) [.fz (fullE r e), .fz (.int p.2)] := by
  rw [step p_role_of (by kernel_rfl) rfl rfl]
  have e1 := fr_at h e hp
  have e2 := hd_at h e hp
  have e3 := (cs_job h e (List.mem_of_getElem? (List.mem_zipIdx_iff_getElem?.mp hp))).2
  have n1 := frE_nd r.fr (posGo isFr e r.lots 0 none)
  unfold fullE
  generalize frE r.fr (posGo isFr e r.lots 0 none) = fv at *
  generalize hdI (posGo isHd e r.lots 0 none) = hv at *
  generalize PyData.tuple (jobsE (copies e r.lots)) = jv at *
  obtain ⟨⟨j, ro⟩, i⟩ := p
  simp only at e1 e2 e3 ⊢
  rcases e3 with rfl | rfl | rfl | rfl <;> simp [isFr, isHd] at e1 e2 <;> simp -implicitDefEqProofs [p_role_of, n1, e1, e2]
end FJ.K15

set_option Elab.async false
set_option linter.all false
set_option autoImplicit false
set_option maxRecDepth 100000
/-! K15k: parted, told again: the row of a standing; covers. -/
namespace FJ.K15
open PySem FJ
/-! ### sorting -/
theorem le_total_s : PySem.W.TotalLe fun a b : Shape => !sLt b a where
  trans := fun a b c h1 h2 => by
    simp only [Bool.not_eq_true'] at h1 h2 ⊢
    cases q : sLt c a with
    | false => rfl
    | true =>
      rcases PyProof.Rows.lex_negTrans (O := PyProof.Rows.itemOrd) _ (PySem.W.keyToks (shE b)) _ q with z | z
      · exact absurd h2 (by rw [show sLt c b = true from z]; exact Bool.noConfusion)
      · exact absurd h1 (by rw [show sLt b a = true from z]; exact Bool.noConfusion)
  total := fun a b => by
    simp only [Bool.not_eq_true']
    cases q : sLt b a with
    | false => exact .inl rfl
    | true =>
      right
      cases q2 : sLt a b with
      | false => rfl
      | true =>
        have := sLt_trans q q2
        rw [sLt_irr] at this
        cases this
theorem le_total_l : PySem.W.TotalLe fun a b : Lot => !lLt b a where
  trans := fun a b c h1 h2 => by
    simp only [Bool.not_eq_true'] at h1 h2 ⊢
    cases q : lLt c a with
    | false => rfl
    | true =>
      rcases PyProof.Rows.lex_negTrans (O := PyProof.Rows.itemOrd) _ (PySem.W.keyToks (lotE b)) _ q with z | z
      · exact absurd h2 (by rw [show lLt c b = true from z]; exact Bool.noConfusion)
      · exact absurd h1 (by rw [show lLt b a = true from z]; exact Bool.noConfusion)
  total := fun a b => by
    simp only [Bool.not_eq_true']
    cases q : lLt b a with
    | false => exact .inl rfl
    | true =>
      right
      cases q2 : lLt a b with
      | false => rfl
      | true =>
        have := lLt_trans q q2
        have z : lLt b b = false := PyProof.Rows.lex_irrefl _
        rw [z] at this
        cases this
theorem sortD_sh (l : List Shape) : sortD (l.map shE) = (l.mergeSort fun a b => !sLt b a).map shE := by
  exact (PySem.W.sort_maps (r := fun a b : Shape => !sLt b a) (s := fun x y => !PySem.W.dataLt y x) shE fun a _ b _ => rfl).symm
theorem sortD_lot (l : List Lot) : sortD (l.map lotE) = (l.mergeSort fun a b => !lLt b a).map lotE := by
  exact (PySem.W.sort_maps (r := fun a b : Lot => !lLt b a) (s := fun x y => !PySem.W.dataLt y x) lotE fun a _ b _ => rfl).symm
theorem sortOk_sh (l : List Shape) : sortOk (l.map shE) = true := by
  unfold sortOk
  simp only [shs_nd, List.all_map, Bool.and_eq_true, List.all_eq_true, Function.comp, sh_alike, sh_dp, Bool.or_eq_true]
  refine ⟨⟨⟨trivial, fun _ _ _ _ => trivial⟩, fun _ _ => rfl⟩, .inl fun x _ => rfl⟩
theorem sortOk_lot (l : List Lot) : sortOk (l.map lotE) = true := by
  unfold sortOk
  simp only [lots_nd, List.all_map, Bool.and_eq_true, List.all_eq_true, Function.comp, lot_alike, lot_dp, Bool.or_eq_true]
  refine ⟨⟨⟨trivial, fun _ _ _ _ => trivial⟩, fun _ _ => rfl⟩, .inl fun x _ => rfl⟩
theorem sort_strict {l : List Shape} (hn : l.Nodup) : (l.mergeSort fun a b => !sLt b a).Pairwise fun a b => sLt a b = true := by
  have p1 := PySem.W.sort_pairwise le_total_s l
  have p2 : (l.mergeSort fun a b => !sLt b a).Nodup := (List.mergeSort_perm l _).nodup_iff.mpr hn
  refine (p1.and p2).imp fun {a b} z => ?_
  obtain ⟨z1, z2⟩ := z
  cases q : sLt a b with
  | true => rfl
  | false => exact absurd (sLt_total q (by simpa using z1)) z2
theorem sort_keys {r : Row} (h : RowS r) : (keys r).mergeSort (fun a b => !sLt b a) = keys r := by
  refine pair_one (sort_strict (pair_nodup (keys_pair h))) (keys_pair h) fun x => ?_
  exact List.mem_mergeSort
theorem lLt_ne {a b : Lot} (hn : a.1 ≠ b.1) : lLt a b = sLt a.1 b.1 := by
  unfold lLt lotE
  rw [PySem.W.dataLt_pair (sh_alike _ _) (by simp [PySem.W.alike]), if_neg (by simpa using hn)]
  rfl
theorem lots_one : ∀ {l m : List Lot}, (l.Pairwise fun a b => sLt a.1 b.1 = true) → (m.Pairwise fun a b => sLt a.1 b.1 = true) → (∀ x, x ∈ l ↔ x ∈ m) → l = m
  | [], [], _, _, _ => rfl
  | [], b :: m, _, _, h => by have := (h b).mpr (List.mem_cons_self ..); cases this
  | a :: l, [], _, _, h => by have := (h a).mp (List.mem_cons_self ..); cases this
  | a :: l, b :: m, hl, hm, h => by
    obtain ⟨hl1, hl2⟩ := List.pairwise_cons.mp hl
    obtain ⟨hm1, hm2⟩ := List.pairwise_cons.mp hm
    have e : a = b := by
      rcases List.mem_cons.mp ((h a).mp (List.mem_cons_self ..)) with e | ha
      · exact e
      · rcases List.mem_cons.mp ((h b).mpr (List.mem_cons_self ..)) with e | hb
        · exact e.symm
        · have := sLt_trans (hl1 b hb) (hm1 a ha)
          rw [sLt_irr] at this
          cases this
    subst e
    rw [lots_one hl2 hm2 fun x => ?_]
    constructor
    · intro hx
      rcases List.mem_cons.mp ((h x).mp (List.mem_cons_of_mem _ hx)) with e | hx'
      · subst e
        have := hl1 x hx
        rw [sLt_irr] at this
        cases this
      · exact hx'
    · intro hx
      rcases List.mem_cons.mp ((h x).mpr (List.mem_cons_of_mem _ hx)) with e | hx'
      · subst e
        have := hm1 x hx
        rw [sLt_irr] at this
        cases this
      · exact hx'
/-- what is told of a key and counts, sorted, is the full row -/
theorem sort_full {r : Row} (h : RowS r) (e : Nat) : (((keys r).map fun s => (s, 1)) ++ fullL (r.lots.filter fe) e).mergeSort (fun a b => !lLt b a) = fullL r.lots e := by
  have hf : RowS (fullRow r e) := fullRow_s h e
  have mem : ∀ x, x ∈ ((keys r).map fun s => (s, 1)) ++ fullL (r.lots.filter fe) e ↔ x ∈ fullL r.lots e := fun x => by
    rw [List.mem_append, List.mem_map, fullL_mem, fullL_mem]
    constructor
    · rintro (⟨s, hs, rfl⟩ | ⟨h1, h2⟩ | ⟨h1, h2, h3⟩)
      · obtain ⟨hn, hm⟩ := mem_keys.mp hs
        obtain ⟨l, hl, rfl⟩ := List.mem_map.mp hm
        have e1 := (h.one l hl).resolve_left hn
        exact .inl ⟨by rw [← e1]; exact hl, by simp⟩
      · exact .inl ⟨(List.mem_filter.mp h1).1, h2⟩
      · exact .inr ⟨(List.mem_filter.mp h1).1, h2, h3⟩
    · rintro (⟨h1, h2⟩ | ⟨h1, h2, h3⟩)
      · by_cases hn : x.1.2 = w "none"
        · exact .inr (.inl ⟨List.mem_filter.mpr ⟨h1, by simp [fe, hn]⟩, h2⟩)
        · have e1 := (h.one x h1).resolve_left hn
          exact .inl ⟨x.1, mem_keys.mpr ⟨hn, List.mem_map_of_mem h1⟩, by rw [← e1]⟩
      · have hn : x.1.2 = w "none" := (h.one _ h1).resolve_right (by simp)
        exact .inr (.inr ⟨List.mem_filter.mpr ⟨h1, by simp [fe, hn]⟩, h2, h3⟩)
  have nd : (((keys r).map fun s => ((s, 1) : Lot)) ++ fullL (r.lots.filter fe) e).Pairwise fun (a b : Lot) => a.1 ≠ b.1 := by
    have : ((((keys r).map fun s => ((s, 1) : Lot)) ++ fullL (r.lots.filter fe) e).map (·.1)).Nodup := by
      rw [List.map_append, List.map_map, List.nodup_append]
      refine ⟨?_, ?_, ?_⟩
      · show ((keys r).map fun s => s).Nodup
        rw [List.map_id']
        exact pair_nodup (keys_pair h)
      · exact List.Nodup.sublist (fullL_sub _ _) (free_nd h)
      · intro a ha b hb z
        subst z
        have ha : a ∈ keys r := by
          obtain ⟨s, hs, rfl⟩ := List.mem_map.mp ha
          exact hs
        have hb := (fullL_sub _ _).subset hb
        obtain ⟨l, hl, rfl⟩ := List.mem_map.mp hb
        have := (List.mem_filter.mp hl).2
        exact (mem_keys.mp ha).1 (by simpa [fe] using this)
    exact List.pairwise_map.mp this
  have p1 := PySem.W.sort_pairwise le_total_l (((keys r).map fun s => ((s, 1) : Lot)) ++ fullL (r.lots.filter fe) e)
  have p2 := (List.mergeSort_perm (((keys r).map fun s => ((s, 1) : Lot)) ++ fullL (r.lots.filter fe) e) (fun a b => !lLt b a)).symm.pairwise nd fun {a b} z => z.symm
  refine lots_one ?_ (List.pairwise_map.mp hf.so) fun x => List.mem_mergeSort.trans (mem x)
  refine (p1.and p2).imp fun {a b} z => ?_
  obtain ⟨z1, z2⟩ := z
  rw [lLt_ne z2.symm] at z1
  cases q : sLt a.1 b.1 with
  | true => rfl
  | false => exact absurd (sLt_total q (by simpa using z1)) z2
/-! ### parted -/
theorem copies_nn {r : Row} (h : RowS r) (e : Nat) : (copies e r.lots).filter (fun s => !decide (s.2 = w "none")) = keys r := by
  have : ∀ ls : List Lot, (∀ l ∈ ls, l.1.2 = w "none" ∨ l.2 = 1) → (copies e ls).filter (fun s => !decide (s.2 = w "none")) = (ls.filter nn).map (·.1) := by
    intro ls
    induction ls with
    | nil => intro _; rfl
    | cons l ls ih =>
      intro hl
      have hc : copies e (l :: ls) = List.replicate (cn e l) l.1 ++ copies e ls := rfl
      rw [hc, List.filter_append, ih fun x hx => hl x (List.mem_cons_of_mem _ hx)]
      by_cases hn : l.1.2 = w "none"
      · rw [List.filter_cons_of_neg (by simp [nn, hn]), List.filter_eq_nil_iff.mpr fun a ha => by rw [(List.mem_replicate.mp ha).2]; simp [hn]]
        rfl
      · have := (hl l (List.mem_cons_self ..)).resolve_left hn
        rw [List.filter_cons_of_pos (by simp [nn, hn])]
        unfold cn
        rw [this]
        simp [hn]
  exact this r.lots h.one
def freeC (e : Nat) (r : Row) : List Shape := (copies e r.lots).filter fun s => decide (s.2 = w "none")
theorem parted_ok {S : Setup} {r : Row} (h : RowOk S r) (e k : Nat) (hb : (copies e r.lots).length ≤ 1000) : Fn (k + 2) (w "parted") [.fz (fullE r e)] = .ok (.fz (.tuple [.tuple ([.str r.wd, .int r.pl, .str r.fr, .str r.md] ++ (keys r).map shE), .tuple ((freeC e r).map shE)])) [.fz (fullE r e)] := by
  rw [step p_parted (by kernel_rfl) rfl rfl]
  have hz : (copies e r.lots).zipIdx.length ≤ sizeLine := by simp; omega
  have hz2 : (copies e r.lots).length ≤ sizeLine := by simp; omega
  have i6 : itemD (fullE r e) (.int 6) = some (.tuple (jobsE (copies e r.lots))) := rfl
  have i2 : itemD (fullE r e) (.int 2) = some (frE r.fr (posGo isFr e r.lots 0 none)) := rfl
  have i3 : itemD (fullE r e) (.int 3) = some (.str r.md) := rfl
  have s2 : slcD (fullE r e) none (some 2) = some (.d (.tuple [.str r.wd, .int r.pl])) := by
    unfold fullE
    simp
  have ro := fun (p : Shape × Nat) (hp : p ∈ (copies e r.lots).zipIdx) => role_of_ok h e k hp
  have fr : (memD (frE r.fr (posGo isFr e r.lots 0 none)) [.str (w "shell"), .str (w "nobody")] = some true ∧ frE r.fr (posGo isFr e r.lots 0 none) = .str r.fr) ∨ (memD (frE r.fr (posGo isFr e r.lots 0 none)) [.str (w "shell"), .str (w "nobody")] = some false ∧ r.fr = w "job") := by
    rcases fr_spec h e with ⟨g1, g2, g3⟩ | ⟨i, s, g1, g2, g3, g4, g5⟩
    · left
      rw [g2, frE_none]
      refine ⟨?_, rfl⟩
      rcases h.fr with z | z | z
      · simp [z]
      · exact absurd z g1
      · simp [z]
    · right
      rw [g2, frE_some]
      exact ⟨by simp, g1⟩
  simp only [p_parted, jobsE_eq] at i6 ⊢
  generalize fullE r e = D at *
  simp -implicitDefEqProofs [i6]
  rw [lc_each (Fn (k + 1)) (copies e r.lots).zipIdx pE (fun p => shE p.1) (by simp [i6]; rfl) (by rfl) (fun p hp => ⟨_, by simp [ro p hp, shE]; rfl, by rfl⟩) (by rfl) hz]
  have z1 : ((copies e r.lots).zipIdx.map fun p => shE p.1) = (copies e r.lots).map shE := by
    show (copies e r.lots).zipIdx.map (shE ∘ Prod.fst) = _
    rw [← List.map_map, List.zipIdx_map_fst]
  rw [z1]
  have lk := sort_keys h.s
  have l1 := copies_nn h.s e
  have lenk : (keys r).length ≤ 1000 := by
    rw [← l1]
    exact Nat.le_trans (List.length_filter_le ..) hb
  have lk1 : (keys r).length + 2 ≤ 16777216 := by omega
  have lk2 : 2 + ((keys r).length + 1 + 1) ≤ 16777216 := by omega
  have fc : (freeC e r).map shE = ((copies e r.lots).filter fun s => decide (s.2 = w "none")).map shE := rfl
  rcases fr with ⟨f1, f2⟩ | ⟨f1, f2⟩
  · simp -implicitDefEqProofs [i2, i3, s2, f1]
    rw [lc_filt (Fn (k + 1)) (copies e r.lots) shE shE (fun s => !decide (s.2 = w "none")) (by simp; rfl) (by rfl) (fun p hp => ⟨_, by simp; rfl, by rfl⟩) (by rfl) hz2]
    simp -implicitDefEqProofs [l1, sortOk_sh, sortD_sh, lk, f2, i3, s2, lk1, lk2]
    rw [lc_filt (Fn (k + 1)) (copies e r.lots) shE shE (fun s => decide (s.2 = w "none")) (by simp; rfl) (by rfl) (fun p hp => ⟨_, by simp; rfl, by rfl⟩) (by rfl) hz2]
    simp -implicitDefEqProofs [fc]
  · simp -implicitDefEqProofs [i2, i3, s2, f1]
    rw [lc_filt (Fn (k + 1)) (copies e r.lots) shE shE (fun s => !decide (s.2 = w "none")) (by simp; rfl) (by rfl) (fun p hp => ⟨_, by simp; rfl, by rfl⟩) (by rfl) hz2]
    simp -implicitDefEqProofs [l1, sortOk_sh, sortD_sh, lk, f2, i3, s2, lk1, lk2]
    rw [lc_filt (Fn (k + 1)) (copies e r.lots) shE shE (fun s => decide (s.2 = w "none")) (by simp; rfl) (by rfl) (fun p hp => ⟨_, by simp; rfl, by rfl⟩) (by rfl) hz2]
    simp -implicitDefEqProofs [fc, f2]
end FJ.K15

set_option Elab.async false
set_option linter.all false
set_option autoImplicit false
set_option maxRecDepth 100000
/-! K15l: counts, the row told, covers. -/
namespace FJ.K15
open PySem FJ
def cnt (acc : List Lot) (s : Shape) : List Lot := lput acc s ((lk acc s).getD 0 + 1)
theorem lput_new {acc : List Lot} {s : Shape} {n : Nat} (h : s ∉ acc.map (·.1)) : lput acc s n = acc ++ [(s, n)] := by
  unfold lput
  rw [if_neg]
  intro z
  rw [List.any_eq_true] at z
  obtain ⟨x, hx, e⟩ := z
  rw [decide_eq_true_eq] at e
  exact h (by rw [← e]; exact List.mem_map_of_mem hx)
theorem lput_old {acc : List Lot} {s : Shape} {m n : Nat} (h : s ∉ acc.map (·.1)) : lput (acc ++ [(s, m)]) s n = acc ++ [(s, n)] := by
  unfold lput
  rw [if_pos (by simp), List.map_append]
  congr 1
  · conv => rhs; rw [← List.map_id acc]
    apply List.map_congr_left
    intro x hx
    rw [if_neg]
    · rfl
    · intro e
      exact h (by rw [← e]; exact List.mem_map_of_mem hx)
  · simp
theorem lk_no {acc : List Lot} {s : Shape} (h : s ∉ acc.map (·.1)) : lk acc s = none := by
  cases q : lk acc s with
  | none => rfl
  | some n => exact absurd (List.mem_map_of_mem (f := (·.1)) (lk_mem q)) h
theorem lk_last {acc : List Lot} {s : Shape} {m : Nat} (h : s ∉ acc.map (·.1)) : lk (acc ++ [(s, m)]) s = some m := by
  have := lk_no h
  unfold lk at this ⊢
  rw [Option.map_eq_none_iff] at this
  rw [List.find?_append, this]
  simp
theorem fold_old {acc : List Lot} {s : Shape} (h : s ∉ acc.map (·.1)) : ∀ n m : Nat, (List.replicate n s).foldl cnt (acc ++ [(s, m)]) = acc ++ [(s, m + n)]
  | 0, m => rfl
  | n + 1, m => by
    rw [List.replicate_succ, List.foldl_cons]
    unfold cnt
    rw [lk_last h]
    simp only [Option.getD_some]
    rw [lput_old h]
    show (List.replicate n s).foldl cnt _ = _
    rw [fold_old h n (m + 1)]
    congr 3
    omega
theorem fold_rep {acc : List Lot} {s : Shape} (h : s ∉ acc.map (·.1)) (n : Nat) : (List.replicate n s).foldl cnt acc = if 0 < n then acc ++ [(s, n)] else acc := by
  cases n with
  | zero => rfl
  | succ n =>
    rw [List.replicate_succ, List.foldl_cons, if_pos (by omega)]
    unfold cnt
    rw [lk_no h]
    simp only [Option.getD_none]
    rw [lput_new h]
    show (List.replicate n s).foldl cnt _ = _
    rw [fold_old h n (0 + 1)]
    congr 3
    omega
theorem fold_copies (e : Nat) : ∀ (ls acc : List Lot), ((acc ++ ls).map (·.1)).Nodup → (copies e ls).foldl cnt acc = acc ++ fullL ls e
  | [], acc, _ => by simp [copies, fullL]
  | l :: ls, acc, h => by
    have hc : copies e (l :: ls) = List.replicate (cn e l) l.1 ++ copies e ls := rfl
    have hno : l.1 ∉ acc.map (·.1) := fun z => by
      rw [List.map_append, List.nodup_append] at h
      exact h.2.2 _ z l.1 (by simp) rfl
    have hd : ((acc ++ ls).map (·.1)).Nodup := List.Nodup.sublist (((List.sublist_cons_self l ls).append_left acc).map (·.1)) h
    rw [hc, List.foldl_append, fold_rep hno]
    have fl : fullL (l :: ls) e = (if 0 < cn e l then [(l.1, cn e l)] else []) ++ fullL ls e := by
      unfold fullL
      rw [List.filterMap_cons]
      unfold cn
      by_cases h0 : 0 < l.2
      · simp only [h0, if_true]
        rfl
      · simp only [h0, if_false]
        by_cases h1 : 0 < e <;> simp [h1]
    rw [fl]
    by_cases h0 : 0 < cn e l
    · rw [if_pos h0, if_pos h0, fold_copies e ls (acc ++ [(l.1, cn e l)]) (by simpa using h), List.append_assoc]
    · rw [if_neg h0, if_neg h0, fold_copies e ls acc hd]
      rfl
theorem free_copies (e : Nat) (r : Row) : freeC e r = copies e (r.lots.filter fe) := by
  unfold freeC
  generalize r.lots = ls
  induction ls with
  | nil => rfl
  | cons l ls ih =>
    have hc : copies e (l :: ls) = List.replicate (cn e l) l.1 ++ copies e ls := rfl
    rw [hc, List.filter_append, ih]
    by_cases h : l.1.2 = w "none"
    · rw [List.filter_cons_of_pos (by simp [fe, h]), List.filter_eq_self.mpr fun a ha => by rw [(List.mem_replicate.mp ha).2]; simp [h]]
      rfl
    · rw [List.filter_cons_of_neg (by simp [fe, h]), List.filter_eq_nil_iff.mpr fun a ha => by rw [(List.mem_replicate.mp ha).2]; simp [h]]
      rfl
theorem lput_len (acc : List Lot) (s : Shape) (n : Nat) : (lput acc s n).length ≤ acc.length + 1 := by
  unfold lput
  split <;> simp
theorem lput_pos {acc : List Lot} {s : Shape} {n : Nat} (h : ∀ l ∈ acc, 0 < l.2) (hn : 0 < n) : ∀ l ∈ lput acc s n, 0 < l.2 := by
  intro l hl
  unfold lput at hl
  split at hl
  · obtain ⟨x, hx, rfl⟩ := List.mem_map.mp hl
    split
    · exact hn
    · exact h x hx
  · rcases List.mem_append.mp hl with z | z
    · exact h l z
    · simp at z
      rw [z]
      exact hn
theorem dput_one (l : List Lot) (s : Shape) : dput (encD l) (shE s) (.int 1) = encD (lput l s 1) := dput_enc l s 1
theorem dput_succ (l : List Lot) (s : Shape) (n : Nat) : dput (encD l) (shE s) (.int ((n : Int) + 1)) = encD (lput l s (n + 1)) := dput_enc l s (n + 1)
theorem with_more_ok (k : Nat) (cs : List Shape) (hl : cs.length ≤ 1000) : Fn (k + 1) (w "with_more") [.ow (.dict []), .fz (.tuple (cs.map shE))] = .ok (.ow (.dict (encD (cs.foldl cnt [])))) [.ow (.dict []), .fz (.tuple (cs.map shE))] := by
  rw [step p_with_more (by kernel_rfl) rfl rfl]
  obtain ⟨r', e1, acc, x, q1, _, _, rfl⟩ := for_inv shE (forB (Fn k) 20000 (.nm 3) b_with_more) (fun rest r' => ∃ (acc : List Lot) (x : Slot), rest.foldl cnt acc = cs.foldl cnt [] ∧ (∀ l ∈ acc, 0 < l.2) ∧ acc.length + rest.length ≤ 1000 ∧ r' = [.ow (.dict []), .fz (.tuple (cs.map shE)), .ow (.dict (encD acc)), x]) (fun s rest r' hI => by
    obtain ⟨acc, x, q1, q2, q3, rfl⟩ := hI
    have hlen : acc.length < 16777216 := by omega
    refine ⟨[.ow (.dict []), .fz (.tuple (cs.map shE)), .ow (.dict (encD (cnt acc s))), .fz (shE s)], ?_, cnt acc s, _, q1, lput_pos q2 (by omega), by have := lput_len acc s ((lk acc s).getD 0 + 1); unfold cnt; simp at q3; omega, rfl⟩
    unfold cnt
    cases q : lk acc s with
    | none => simp -implicitDefEqProofs [forB, b_with_more, q, dput_one, hlen]
    | some n =>
      have := q2 _ (lk_mem q)
      have h0 : ¬ n = 0 := by simp only at this; omega
      simp -implicitDefEqProofs [forB, b_with_more, q, dput_succ, hlen, h0]) (l := cs) (r := [.ow (.dict []), .fz (.tuple (cs.map shE)), .ow (.dict (encD [])), .un]) ⟨[], _, rfl, (fun _ h => nomatch h), by simpa using hl, rfl⟩
  have q1 : acc = cs.foldl cnt [] := q1
  subst q1
  have e0 : encD [] = [] := rfl
  rw [e0] at e1
  simp -implicitDefEqProofs [p_with_more, e1]
theorem told_row_ok {r : Row} (h : RowS r) (e k : Nat) (hl : r.lots.length ≤ 1000) : Fn (k + 1) (w "told_row") [.fz (.tuple ([.str r.wd, .int r.pl, .str r.fr, .str r.md] ++ (keys r).map shE)), .ow (.dict (encD (fullL (r.lots.filter fe) e)))] =
    .ok (.fz (rowE (fullRow r e))) [.fz (.tuple ([.str r.wd, .int r.pl, .str r.fr, .str r.md] ++ (keys r).map shE)), .fz (.dict (encD (fullL (r.lots.filter fe) e)))] := by
  rw [step p_told_row (by kernel_rfl) rfl rfl]
  have sf := sort_full h e
  have hk : (keys r).length ≤ 1000 := by
    unfold keys
    rw [List.length_map]
    exact Nat.le_trans (List.length_filter_le ..) hl
  have nd : ((fullL (r.lots.filter fe) e).map (·.1)).Nodup := List.Nodup.sublist (fullL_sub _ _) (free_nd h)
  have hF : (fullL (r.lots.filter fe) e).length ≤ 1000 := by
    have := (fullL_sub (r.lots.filter fe) e).length_le
    simp at this
    have := List.length_filter_le fe r.lots
    omega
  have q : ∀ l : List Lot, (encD l).map (·.1) = l.map fun l => shE l.1 := fun l => by
    unfold encD
    rw [List.map_map]
    rfl
  have sd := sortD_lot (((keys r).map fun s => (s, 1)) ++ fullL (r.lots.filter fe) e)
  rw [sf] at sd
  have so := sortOk_lot (((keys r).map fun s => (s, 1)) ++ fullL (r.lots.filter fe) e)
  rw [List.map_append, List.map_map] at sd so
  generalize fullL (r.lots.filter fe) e = F at *
  have l2 : (keys r).length + F.length ≤ 16777216 := by omega
  simp -implicitDefEqProofs [p_told_row]
  rw [lc_each (Fn k) (keys r) shE (lotE ∘ fun s => (s, 1)) (by simp; rfl) (by rfl) (fun p hp => ⟨_, by simp [lotE]; rfl, by rfl⟩) (by rfl) (by simp; omega)]
  simp -implicitDefEqProofs
  rw [lc_each (Fn k) F (fun l => shE l.1) lotE (by simp [q]; rfl) (by rfl) (fun p hp => ⟨_, by simp [lk_self nd hp, lotE]; rfl, by rfl⟩) (by rfl) (by simp; omega)]
  simp -implicitDefEqProofs [l2, so, sd, rowE, fullRow, lotsE]
theorem row_in_ok {S : Setup} {r : Row} (h : RowOk S r) (e k : Nat) (hb : (copies e r.lots).length ≤ 1000) : Fn (k + 3) (w "row_in") [.fz (fullE r e)] = .ok (.fz (rowE (fullRow r e))) [.fz (fullE r e)] := by
  rw [step p_row_in (by kernel_rfl) rfl rfl]
  have e1 := parted_ok h e k hb
  have hfc : (freeC e r).length ≤ 1000 := Nat.le_trans (List.length_filter_le ..) hb
  have e2 := with_more_ok (k + 1) (freeC e r) hfc
  have e3 := told_row_ok h.s e (k + 1) (by have := h.ll; omega)
  have e4 := fold_copies e (r.lots.filter fe) [] (by simpa using free_nd h.s)
  rw [free_copies, e4, List.nil_append, ← free_copies] at e2
  generalize PyData.tuple ([.str r.wd, .int r.pl, .str r.fr, .str r.md] ++ (keys r).map shE) = K at *
  generalize PyData.tuple ((freeC e r).map shE) = C at *
  simp -implicitDefEqProofs [p_row_in, e1, e2, e3]
theorem covers_ok {S : Setup} (hS : SetOk S) {r x : Row} (h : RowOk S r) (hx : RowOk S x) (e k : Nat) (hb : (copies e r.lots).length ≤ 1000) : Fn (k + 10) (w "covers") [.fz (setE S), .fz (rowE x), .fz (fullE r e)] = .ok (.fz (.bool (belowB (fullRow r e) x))) [.fz (setE S), .fz (rowE x), .fz (fullE r e)] := by
  have e0 : Fn (k + 9) (w "row_of") [.fz (setE S), .fz (fullE r e)] = .ok (.fz (rowE (fullRow r e))) [.fz (setE S), .fz (fullE r e)] := by
    rw [step p_row_of (by kernel_rfl) rfl rfl]
    have e1 := need_standing_ok h e k hS hb
    have e2 := row_in_ok h e (k + 5) hb
    simp -implicitDefEqProofs [p_row_of, e1, e2]
  rw [step p_covers (by kernel_rfl) rfl rfl]
  have hf := fullRow_s h.s e
  have e1 := need_row_ok (k + 1) S hS x hx
  have hl : (fullRow r e).lots.length ≤ 1000 := by
    have := (fullL_sub r.lots e).length_le
    have := h.ll
    simp at *
    show (fullL r.lots e).length ≤ 1000
    omega
  have e2 := is_below_ok (k + 7) (fullRow r e) x hl hf.nd (by have := hx.ll; omega) hx.nd
  simp -implicitDefEqProofs [p_covers, e0, e1, e2]
end FJ.K15

set_option Elab.async false
set_option linter.all false
set_option autoImplicit false
set_option maxRecDepth 100000
/-! K15m: the law's look at a pair of rows; which rows are rows. -/
namespace FJ.K15
open PySem FJ
def mxN : Nat → List Nat → Nat
  | m, [] => m
  | m, i :: r => mxN (if m < i then i else m) r
theorem maxI_nat : ∀ (l : List Nat) (m : Nat), maxI (m : Int) (l.map fun (n : Nat) => (n : Int)) = (mxN m l : Nat)
  | [], m => rfl
  | i :: l, m => by
    show maxI (if (i : Int) > m then (i : Int) else m) _ = _
    rw [mxN]
    by_cases h : m < i
    · rw [if_pos (by omega), if_pos h, maxI_nat l i]
    · rw [if_neg (by omega), if_neg h, maxI_nat l m]
theorem mxN_le : ∀ (l : List Nat) (m : Nat), m ≤ mxN m l ∧ ∀ x ∈ l, x ≤ mxN m l
  | [], m => ⟨Nat.le_refl _, fun _ h => nomatch h⟩
  | i :: l, m => by
    rw [mxN]
    obtain ⟨h1, h2⟩ := mxN_le l (if m < i then i else m)
    constructor
    · split at h1 <;> split <;> omega
    · intro x hx
      rcases List.mem_cons.mp hx with rfl | hx
      · split at h1 <;> split <;> omega
      · exact h2 x hx
theorem mxN_max : ∀ (l : List Nat) (m B : Nat), m ≤ B → (∀ x ∈ l, x ≤ B) → mxN m l ≤ B
  | [], m, B, h, _ => h
  | i :: l, m, B, h, h' => by
    rw [mxN]
    refine mxN_max l _ B ?_ fun x hx => h' x (List.mem_cons_of_mem _ hx)
    have := h' i (List.mem_cons_self ..)
    split <;> omega
theorem ints_map (l : List Lot) : intsD (l.map fun l => PyData.int l.2) = some (l.map fun l => (l.2 : Int)) := by
  induction l with
  | nil => rfl
  | cons a l ih =>
    show (intsD (l.map _)).map _ = _
    rw [ih]
    rfl
def most (r : Row) : Nat := mxN 1 (r.lots.map (·.2)) + 1
theorem max_lots (r : Row) : b1D .max (.list (.int 1 :: r.lots.map fun l => .int l.2)) = some (.d (.int (mxN 1 (r.lots.map (·.2)) : Nat))) := by
  have e : intsD (.int 1 :: r.lots.map fun l => .int l.2) = some (1 :: r.lots.map fun l => (l.2 : Int)) := by
    show (intsD (r.lots.map fun l => PyData.int l.2)).map _ = _
    rw [ints_map]
    rfl
  show (match intsD (.int 1 :: r.lots.map fun l => .int l.2) with
    | some (i :: r) => some (Val.d (.int (maxI i r)))
    | _ => none) = _
  rw [e]
  have := maxI_nat (r.lots.map (·.2)) 1
  rw [List.map_map] at this
  exact congrArg (fun i => some (Val.d (.int i))) this
theorem copies_le : ∀ (ls : List Lot) (e : Nat), (∀ l ∈ ls, l.2 ≤ 20) → e ≤ 20 → (copies e ls).length ≤ 20 * ls.length
  | [], e, _, _ => by simp [copies]
  | l :: ls, e, h, he => by
    have hc : copies e (l :: ls) = List.replicate (cn e l) l.1 ++ copies e ls := rfl
    have := copies_le ls e (fun x hx => h x (List.mem_cons_of_mem _ hx)) he
    have h1 := h l (List.mem_cons_self ..)
    have : cn e l ≤ 20 := by unfold cn; split <;> omega
    rw [hc, List.length_append, List.length_replicate, List.length_cons]
    omega
theorem law_right_ok {S : Setup} (hS : SetOk S) {a b : Row} (ha : RowOk S a) (hb : RowOk S b) (k : Nat) : Fn (k + 11) (w "_law_right") [.fz (setE S), .fz (rowE a), .fz (rowE b)] = .ok (.fz (.bool true)) [.fz (setE S), .fz (rowE a), .fz (rowE b)] := by
  rw [step p__law_right (by kernel_rfl) rfl rfl]
  have mb : most b ≤ 20 := by
    have := mxN_max (b.lots.map (·.2)) 1 14 (by omega) fun x hx => by
      obtain ⟨l, hl, rfl⟩ := List.mem_map.mp hx
      exact (hb.lj l hl).2.2
    unfold most
    omega
  have ml : ∀ l ∈ b.lots, l.2 < most b := fun l hl => by
    have := (mxN_le (b.lots.map (·.2)) 1).2 l.2 (List.mem_map_of_mem hl)
    unfold most
    omega
  have hc : ∀ e, e ≤ 20 → (copies e a.lots).length ≤ 1000 := fun e he => by
    have := copies_le a.lots e (fun l hl => by have := (ha.lj l hl).2.2; omega) he
    have := ha.ll
    omega
  have e1 := law_below_ok (k + 9) a b (by have := ha.ll; omega) ha.nd (by have := hb.ll; omega) hb.nd
  have e2 := is_under_ok (k + 1) S hS a b ha hb
  have e3 := law_full_ok (k + 9) a (most b) (hc _ mb)
  have e4 : Fn (k + 10) (w "_law_full") [.fz (rowE a), .fz (.int 0)] = .ok (.fz (fullE a 0)) [.fz (rowE a), .fz (.int 0)] := law_full_ok (k + 9) a 0 (hc _ (by omega))
  have e5 := covers_ok hS ha ha (most b) k (hc _ mb)
  have e6 := covers_ok hS ha ha 0 k (hc _ (by omega))
  have e7 := covers_ok hS ha hb (most b) k (hc _ mb)
  rw [(below_iff (fullRow_s ha.s _) ha.s).mpr (full_below ha.s _)] at e5 e6
  have z : belowB (fullRow a (most b)) b = lawBelow a b := by
    rw [Bool.eq_iff_iff, below_iff (fullRow_s ha.s _) hb.s, law_iff ha.s hb.s]
    exact full_other ha.s (by unfold most; omega) ml
  rw [z] at e7
  rw [below_law ha.s hb.s] at e2
  have hm := max_lots b
  have mc : ((mxN 1 (b.lots.map (·.2)) : Nat) : Int) + 1 = ((most b : Nat) : Int) := rfl
  have r4 : itemD (rowE b) (.int 4) = some (.tuple (b.lots.map lotE)) := rfl
  have hl : b.lots.length ≤ 1000 := by have := hb.ll; omega
  have hl2 : b.lots.length + 1 ≤ 16777216 := by omega
  have hl3 : 1 + b.lots.length ≤ 16777216 := by omega
  generalize lawBelow a b = D at *
  simp only [p__law_right]
  generalize rowE a = A at *
  generalize rowE b = B at *
  generalize setE S = T at *
  cases D
  · simp -implicitDefEqProofs [e1, e2]
    rw [lc_each (Fn (k + 10)) b.lots lotE (fun l => .int l.2) (by simp [r4]; rfl) (by rfl) (fun p hp => ⟨_, by simp; rfl, by rfl⟩) (by rfl) (by simp; omega)]
    simp -implicitDefEqProofs [hl2, hl3, hm, mc, e3, e4, e5, e6, e7]
  · simp -implicitDefEqProofs [e1, e2]
    rw [lc_each (Fn (k + 10)) b.lots lotE (fun l => .int l.2) (by simp [r4]; rfl) (by rfl) (fun p hp => ⟨_, by simp; rfl, by rfl⟩) (by rfl) (by simp; omega)]
    simp -implicitDefEqProofs [hl2, hl3, hm, mc, e3, e4, e5, e6, e7]
/-! ### which rows are rows -/
def lotB (l : Lot) : Bool := decide (l.1.2 = w "none") || decide (l.2 = 1)
theorem law_word_yes (k : Nat) (x : Str) (ws : List Str) (h : x ∈ ws) : Fn (k + 1) (w "_law_is_word") [.fz (.str x), .fz (.tuple (ws.map .str))] = .ok (.fz (.bool true)) [.fz (.str x), .fz (.tuple (ws.map .str))] := by
  rw [law_word k x _ (noDicts_strs ws), any_mem]
  simp [h]
theorem law_lot {S : Setup} {l : Lot} (hj : JobOk S l.1.1) (hr : RoleOk l.1.2) (hm : l.2 ≤ 14) (k : Nat) : Fn (k + 3) (w "_law_is_lot") [.fz (setE S), .fz (lotE l)] = .ok (.fz (.bool (lotB l))) [.fz (setE S), .fz (lotE l)] := by
  rw [step p__law_is_lot (by kernel_rfl) rfl rfl]
  have e1 := law_whole (k + 1) l.2 0 10000000000000000000000000000000000000000
  have e2 := law_job k S l.1.1 hj
  have e3 := law_word_yes (k + 1) l.1.2 [w "none", w "hand", w "front", w "both"] (by rcases hr with e | e | e | e <;> simp [e])
  have h1 : (0 : Int) ≤ l.2 := by omega
  have h2 : (l.2 : Int) ≤ 10000000000000000000000000000000000000000 := by omega
  rw [decide_eq_true h1, decide_eq_true h2] at e1
  simp only [List.map_cons, List.map_nil] at e3
  have pw : (10 : Int) ^ (Int.toNat 40) = 10000000000000000000000000000000000000000 := by decide
  have pd : binD .pow (.int 10) (.int 40) = some (.d (.int 10000000000000000000000000000000000000000)) := by
    rw [binD_pow, pw]
    rfl
  generalize (10000000000000000000000000000000000000000 : Int) = big at *
  have lo : ((l.2 : Int) = 1) = (l.2 = 1) := by apply propext; omega
  simp only [Bool.and_self] at e1
  simp -implicitDefEqProofs [-binD_pow, p__law_is_lot, pd, e1, e2, e3, lotB, lo]
end FJ.K15
namespace FJ.K15
open PySem FJ
def frOk (l : Lot) : Bool := l.1.1.ow && !decide (l.1.1.st = w "ended")
def rowB (r : Row) : Bool := r.lots.all lotB && (adj (r.lots.map (·.1)) && ((r.lots.filter fun l => isFr l.1.2).all frOk && (decide (((r.lots.filter fun l => isFr l.1.2).length : Int) = if r.fr = w "job" then 1 else 0) && decide (((r.lots.filter fun l => isHd l.1.2).length : Int) ≤ if r.wd = w "none" then 0 else 1))))
theorem rowB_iff {S : Setup} {r : Row} (h : RowT S r) (hb : rowB r = true) : RowOk S r := by
  unfold rowB at hb
  simp only [Bool.and_eq_true, decide_eq_true_eq, List.all_eq_true] at hb
  obtain ⟨h1, h2, h3, h4, h5⟩ := hb
  refine ⟨h, fun l hl => ?_, h2, fun l hl hf => ?_, ?_, ?_⟩
  · have := h1 l hl
    simpa [lotB] using this
  · have := h3 l (List.mem_filter.mpr ⟨hl, hf⟩)
    simpa [frOk] using this
  · split at h4 <;> split <;> first | omega | contradiction
  · split at h5 <;> split <;> first | omega | contradiction
theorem filt_empty {α : Type} (l : List α) (p : α → Bool) : (l.filter fun a => !p a).isEmpty = l.all p := by
  induction l with
  | nil => rfl
  | cons a l ih =>
    rw [List.filter_cons, List.all_cons]
    cases p a
    · rfl
    · simpa using ih
theorem zip_list (ls : List Lot) : zipD (ls.map fun l => shE l.1) (ls.map fun l => shE l.1).tail = (ls.zip ls.tail).map fun p => .tuple [shE p.1.1, shE p.2.1] := by
  rw [← List.map_tail, zipD_map (fun l : Lot => shE l.1) (fun l : Lot => shE l.1)]
theorem law_is_row_ok {S : Setup} (hS : SetOk S) {r : Row} (h : RowT S r) (k : Nat) : Fn (k + 4) (w "_law_is_row") [.fz (setE S), .fz (rowE r)] = .ok (.fz (.bool (rowB r))) [.fz (setE S), .fz (rowE r)] := by
  rw [step p__law_is_row (by kernel_rfl) rfl rfl]
  have e1 := law_word_yes (k + 2) r.wd [w "none", w "fore", w "back", w "front", w "behind"] (by rcases h.wd with ⟨e, _⟩ | ⟨e | e | e | e, _⟩ <;> simp [e])
  have e5 := law_word_yes (k + 2) r.fr [w "shell", w "job", w "nobody"] (by rcases h.fr with e | e | e <;> simp [e])
  have e6 := law_word_yes (k + 2) r.md [w "plain", w "raw"] (by rcases h.md with e | e <;> simp [e])
  have e7 := fun (l : Lot) (hl : l ∈ r.lots) => law_lot (S := S) (h.lj l hl).1 (h.lj l hl).2.1 (h.lj l hl).2.2 k
  have hl : r.lots.length ≤ sizeLine := by have := h.ll; simp; omega
  have hz : (r.lots.zip r.lots.tail).length ≤ sizeLine := by have := h.ll; simp; omega
  simp only [List.map_cons, List.map_nil] at e1 e5 e6
  have z1 := filt_empty r.lots lotB
  have z2 := filt_empty (r.lots.zip r.lots.tail) fun p => sLt p.1.1 p.2.1
  have z3 := filt_empty (r.lots.filter fun l => isFr l.1.2) frOk
  rw [adj_map] at z2
  have pl : ∃ hi : Int, (∀ st : Rh, st[2]? = some (.fz (.str r.wd)) → st[0]? = some (.fz (setE S)) → den (Fn (k + 3)) (.ife (.cmp .eq (.pk 2) (.cst (.str (w "none")))) (.cst (.int 0)) (.bin .sub (.b1 .len (.call (w "_law_script") (.cons (.pk 0) (.cons (.pk 2) .nil)))) (.cst (.int 1)))) st = .ok (.d (.int hi)) st) ∧ (r.pl : Int) ≤ hi := by
    rcases h.wd with ⟨hw, hp⟩ | ⟨hw, hp⟩
    · refine ⟨0, fun st h2 h0 => ?_, by omega⟩
      simp -implicitDefEqProofs [h2, hw]
    · have hn : ¬ r.wd = w "none" := by rcases hw with z | z | z | z <;> simp [z]
      have es := law_script (k + 2) S hS r.wd hw
      refine ⟨(S.scr r.wd).length - 1, fun st h2 h0 => ?_, by omega⟩
      simp -implicitDefEqProofs [h2, h0, hn, es]
      simp -implicitDefEqProofs [strsE]
  obtain ⟨hi, pl1, pl2⟩ := pl
  have e8 := law_whole (k + 2) r.pl 0 hi
  rw [decide_eq_true pl2, decide_eq_true (by omega : (0 : Int) ≤ r.pl)] at e8
  simp only [Bool.and_self] at e8
  have hl2 : r.lots.length ≤ 16777216 := hl
  have ll := lots_nd
  have c1 : (rowE r) = .tuple [.str r.wd, .int r.pl, .str r.fr, .str r.md, lotsE r.lots] := rfl
  have c2 : lotsE r.lots = .tuple (r.lots.map lotE) := rfl
  have e9 : eqD (.list ((r.lots.filter fun l => !lotB l).map lotE)) (.list []) = some (r.lots.all lotB) := by
    rw [eqD_nilL _ (by simp), eqv_list, eqvAll_emp, List.isEmpty_map, z1]
  have e10 : eqD (.list (((r.lots.zip r.lots.tail).filter fun p => !sLt p.1.1 p.2.1).map fun _ => .int 1)) (.list []) = some (adj (r.lots.map (·.1))) := by
    rw [eqD_nilL _ (by rw [noDict_list]; exact nd_map _ (fun _ => rfl) _), eqv_list, eqvAll_emp, List.isEmpty_map, z2]
  have e11 : eqD (.list (((r.lots.filter fun l => isFr l.1.2).filter fun l => !frOk l).map fun l => jE l.1.1)) (.list []) = some ((r.lots.filter fun l => isFr l.1.2).all frOk) := by
    rw [eqD_nilL _ (by rw [noDict_list]; exact nd_map _ (fun l : Lot => j_nd l.1.1) _), eqv_list, eqvAll_emp, List.isEmpty_map, z3]
  unfold rowB
  rw [c1, c2]
  generalize setE S = T at *
  generalize r.lots.all lotB = X1 at e9 ⊢
  generalize adj (r.lots.map (·.1)) = X2 at e10 ⊢
  generalize (r.lots.filter fun l => isFr l.1.2).all frOk = X3 at e11 ⊢
  generalize hX4 : decide (((r.lots.filter fun l => isFr l.1.2).length : Int) = if r.fr = w "job" then 1 else 0) = X4
  generalize hX5 : decide (((r.lots.filter fun l => isHd l.1.2).length : Int) ≤ if r.wd = w "none" then 0 else 1) = X5
  have hlF : (r.lots.filter fun l => isFr l.1.2).length ≤ sizeLine := Nat.le_trans (List.length_filter_le ..) hl
  clear z1 z2 z3 c1 c2
  simp -implicitDefEqProofs [p__law_is_row, -den_ife, pl1, e1, e5, e6, e8]
  rw [lc_filt (Fn (k + 3)) r.lots lotE lotE (fun l => !lotB l) (by simp; rfl) (by rfl) (fun l hl => ⟨_, by simp [e7 l hl]; rfl, by rfl⟩) (by rfl) hl]
  simp -implicitDefEqProofs only [obind_ok, pk2_def, peek_fresh, pkO2_some, cmpD_ne, e9, Option.map_some, ofO_d, boo_ok]
  cases X1
  · simp -implicitDefEqProofs
  · simp -implicitDefEqProofs
    rw [lc_each (Fn (k + 3)) r.lots lotE (fun l => shE l.1) (by simp; rfl) (by rfl) (fun l hl => ⟨_, by simp; rfl, by rfl⟩) (by rfl) hl]
    simp -implicitDefEqProofs
    rw [lc_filt (Fn (k + 3)) (r.lots.zip r.lots.tail) (fun p => .tuple [shE p.1.1, shE p.2.1]) (fun _ => .int 1) (fun p => !sLt p.1.1 p.2.1) (by simp [zip_list]; rfl) (by rfl) (fun l hl => ⟨_, by simp; rfl, by rfl⟩) (by rfl) hz]
    simp -implicitDefEqProofs only [obind_ok, pk2_def, peek_fresh, pkO2_some, cmpD_ne, e10, Option.map_some, ofO_d, boo_ok]
    cases X2
    · simp -implicitDefEqProofs
    · simp -implicitDefEqProofs
      rw [lc_filt (Fn (k + 3)) r.lots (fun l => shE l.1) (fun l => jE l.1.1) (fun l => isFr l.1.2) (by simp; rfl) (by rfl) (fun l hl => ⟨_, by simp [isFr]; rfl, by rfl⟩) (by rfl) hl]
      simp -implicitDefEqProofs
      rw [lc_filt (Fn (k + 3)) r.lots (fun l => shE l.1) (fun l => jE l.1.1) (fun l => isHd l.1.2) (by simp; rfl) (by rfl) (fun l hl => ⟨_, by simp [isHd]; rfl, by rfl⟩) (by rfl) hl]
      simp -implicitDefEqProofs
      rw [lc_filt (Fn (k + 3)) (r.lots.filter fun l => isFr l.1.2) (fun l => jE l.1.1) (fun l => jE l.1.1) (fun l => !frOk l) (by simp; rfl) (by rfl) (fun l hl => ⟨_, by cases h1 : l.1.1.ow <;> simp [frOk, h1] <;> rfl, by rfl⟩) (by rfl) hlF]
      simp -implicitDefEqProofs only [obind_ok, pk2_def, peek_fresh, pkO2_some, cmpD_ne, e11, Option.map_some, ofO_d, boo_ok]
      cases X3
      · simp -implicitDefEqProofs
      · cases X4
        · have h4 := of_decide_eq_false hX4
          simp -implicitDefEqProofs [h4]
        · have h4 := of_decide_eq_true hX4
          simp -implicitDefEqProofs [h4]
          exact hX5
end FJ.K15

set_option Elab.async false
set_option linter.all false
set_option autoImplicit false
set_option maxRecDepth 100000
/-! K15n: draws. -/
namespace FJ.K15
open PySem FJ
def mD (gs : List Int) (s t : Int) : PyData := .dict [(.str (w "great"), .list (gs.map .int)), (.str (w "seed"), .int s), (.str (w "turns"), .int t)]
structure MOk (b : Nat) (D : PyData) : Prop where
  ex : ∃ (gs : List Int) (s : Int) (t : Nat), D = mD gs s t ∧ gs.length ≤ 64 ∧ t ≤ b
theorem MOk.mono {b c : Nat} {D : PyData} (h : MOk b D) (hbc : b ≤ c) : MOk c D := by
  obtain ⟨gs, s, t, h1, h2, h3⟩ := h.ex
  exact ⟨gs, s, t, h1, h2, by omega⟩
@[simp] theorem mD_great (gs : List Int) (s t : Int) : itemD (mD gs s t) (.str (w "great")) = some (.list (gs.map .int)) := by simp [mD, keyFits, flatKey, dfind]
@[simp] theorem mD_seed (gs : List Int) (s t : Int) : itemD (mD gs s t) (.str (w "seed")) = some (.int s) := by simp [mD, keyFits, flatKey, dfind]
@[simp] theorem mD_turns (gs : List Int) (s t : Int) : itemD (mD gs s t) (.str (w "turns")) = some (.int t) := by simp [mD, keyFits, flatKey, dfind]
@[simp] theorem pt_great (i : Nat) (gs : List Int) (xs : List PyData) (s t : Int) (r : Rh) : ptF i (.list xs) (.str (w "great")) r (some (.ow (mD gs s t))) = .ok .next (r.set i (.ow (.dict [(.str (w "great"), .list xs), (.str (w "seed"), .int s), (.str (w "turns"), .int t)]))) := by
  unfold mD
  simp [keyFits, flatKey, dput]
@[simp] theorem pt_turns (i : Nat) (gs : List Int) (t' : Int) (s t : Int) (r : Rh) : ptF i (.int t') (.str (w "turns")) r (some (.ow (mD gs s t))) = .ok .next (r.set i (.ow (mD gs s t'))) := by
  unfold mD
  simp [keyFits, flatKey, dput]
theorem mul_r {i j : Int} (h : -(2 ^ 64) < j) (h' : j < 2 ^ 64) : mulOk i j = true := by
  unfold mulOk
  rw [decide_eq_true h, decide_eq_true h']
  simp
@[simp] theorem mul_a (i : Int) : mulOk i 48271 = true := mul_r (by decide) (by decide)
@[simp] theorem mul_b (i : Int) : mulOk i 16807 = true := mul_r (by decide) (by decide)
@[simp] theorem mul_c (i : Int) : mulOk i 69621 = true := mul_r (by decide) (by decide)
@[simp] theorem mul_d (i : Int) : mulOk i 40014 = true := mul_r (by decide) (by decide)
theorem mul_e (i : Int) (t : Nat) (h : t ≤ 1000000) : mulOk i ((t : Int) + 1) = true := by
  have h1 : (1000001 : Int) < 2 ^ 64 := by decide
  have h2 : -(2 ^ 64) < (0 : Int) := by decide
  exact mul_r (by omega) (by omega)
@[simp] theorem ints_nd (gs : List Int) : noDicts (gs.map .int) = true := nd_map _ (fun _ => noDict_int _) gs
theorem while_draw (k : Nat) (n : PyData) (s t : Int) : ∀ (gs : List Int) (N : Nat), gs.length < N → ∃ gs' : List Int, gs'.length ≤ gs.length ∧ (∀ g l, gs' = g :: l → g ≠ 0) ∧
    whileR (fun r0 => boo (den (Fn k) wc__law_draw r0) fun t r1 => .ok t r1) (fun r0 => denSs (Fn k) 20000 b__law_draw r0) N [.ow (mD gs s t), .fz n, .un, .un] = .ok .next [.ow (mD gs' s t), .fz n, .un, .un]
  | [], 0, h => by simp at h
  | _ :: _, 0, h => by simp at h
  | [], N + 1, _ => ⟨[], Nat.le_refl _, (fun _ _ h => nomatch h), by
    have c0 : den (Fn k) wc__law_draw [.ow (mD [] s t), .fz n, .un, .un] = .ok (.d (.bool false)) [.ow (mD [] s t), .fz n, .un, .un] := by
      simp -implicitDefEqProofs [wc__law_draw]
    rw [whileR, c0]
    rfl⟩
  | g :: gs, N + 1, h => by
    by_cases h0 : g = 0
    · obtain ⟨gs', h1, h2, h3⟩ := while_draw k n s t gs N (by simp at h; omega)
      refine ⟨gs', by simp; omega, h2, ?_⟩
      have c0 : den (Fn k) wc__law_draw [.ow (mD (g :: gs) s t), .fz n, .un, .un] = .ok (.d (.bool true)) [.ow (mD (g :: gs) s t), .fz n, .un, .un] := by
        simp -implicitDefEqProofs [wc__law_draw, h0]
      have e2 : PyData.dict [(.str (w "great"), .list (gs.map .int)), (.str (w "seed"), .int s), (.str (w "turns"), .int t)] = mD gs s t := rfl
      have bd : denSs (Fn k) 20000 b__law_draw [.ow (mD (g :: gs) s t), .fz n, .un, .un] = .ok .next [.ow (mD gs s t), .fz n, .un, .un] := by
        simp -implicitDefEqProofs [b__law_draw, e2]
      rw [whileR, c0]
      simp only [boo_ok, obind_ok, if_true, bd]
      exact h3
    · refine ⟨g :: gs, Nat.le_refl _, fun g' l e => by cases e; exact h0, ?_⟩
      have c0 : den (Fn k) wc__law_draw [.ow (mD (g :: gs) s t), .fz n, .un, .un] = .ok (.d (.bool false)) [.ow (mD (g :: gs) s t), .fz n, .un, .un] := by
        simp -implicitDefEqProofs [wc__law_draw, h0]
      rw [whileR, c0]
      rfl
theorem denS_while (Φ : Str → List Slot → Res) (N : Nat) (c : IE) (b : ISs) (r : Rh) : denS Φ N (.while c b) r = whileR (fun r0 => boo (den Φ c r0) fun t r1 => .ok t r1) (fun r0 => denSs Φ N b r0) N r := by rw [denS]
theorem draw_ok (k : Nat) {D : PyData} {b : Nat} (hb : b ≤ 1000000) (hD : MOk b D) (n : Nat) (h0 : 0 < n) (h1 : n < 1000000) : ∃ d < n, ∃ D', Fn (k + 1) (w "_law_draw") [.ow D, .fz (.int n)] = .ok (.fz (.int d)) [.ow D', .fz (.int n)] ∧ MOk (b + 1) D' := by
  obtain ⟨gs, s, t, rfl, hl, ht⟩ := hD.ex
  obtain ⟨gs', g1, g2, g3⟩ := while_draw k (.int n) s t gs 20000 (by omega)
  have n1 : (0 : Int) < n := by omega
  have n2 : (n : Int) < 1073741824 := by omega
  cases gs' with
  | nil =>
    have m1 := mul_e ((t : Int) + 1) t (by omega)
    generalize hx : ((((s * 48271 + ((t : Int) + 1) * ((t : Int) + 1) * 16807 + ((t : Int) + 1)) % 2147483647 * 69621 + 12345) % 2147483629 * 40014 + ((t : Int) + 1)) % 2147483563 / 64 : Int) = x
    refine ⟨(x % n).toNat, by have := Int.emod_lt_of_pos x n1; have := Int.emod_nonneg x (by omega : (n : Int) ≠ 0); omega, mD [] s ((t + 1 : Nat) : Int), ?_, ⟨[], s, t + 1, rfl, by simp, by omega⟩⟩
    have hn := Int.emod_nonneg x (by omega : (n : Int) ≠ 0)
    have hc : (((x % n).toNat : Nat) : Int) = x % n := Int.toNat_of_nonneg hn
    rw [step p__law_draw (by kernel_rfl) rfl rfl, hc]
    simp -implicitDefEqProofs [p__law_draw, denS_while, g3, m1, n1, n2, h0, hx]
  | cons g l =>
    have g0 : g ≠ 0 := g2 g l rfl
    refine ⟨(g % n).toNat, by have := Int.emod_lt_of_pos g n1; have := Int.emod_nonneg g (by omega : (n : Int) ≠ 0); omega, mD (g / n :: l) s t, ?_, ⟨g / n :: l, s, t, rfl, by simp at g1 ⊢; omega, by omega⟩⟩
    have hn := Int.emod_nonneg g (by omega : (n : Int) ≠ 0)
    have hc : (((g % n).toNat : Nat) : Int) = g % n := Int.toNat_of_nonneg hn
    rw [step p__law_draw (by kernel_rfl) rfl rfl, hc]
    have l1 : l.length + 1 ≤ 16777216 := by simp at g1; omega
    have l2 : 1 + l.length ≤ 16777216 := by simp at g1; omega
    have e2 : PyData.dict [(.str (w "great"), .list (.int (g / n) :: l.map .int)), (.str (w "seed"), .int s), (.str (w "turns"), .int t)] = mD (g / n :: l) s t := rfl
    simp -implicitDefEqProofs [p__law_draw, denS_while, g3, n1, n2, h0, l1, l2, e2]
end FJ.K15
namespace FJ.K15
open PySem FJ
theorem law_of_ok (k : Nat) {D : PyData} {b : Nat} (hb : b ≤ 1000000) (hD : MOk b D) (xs : List PyData) (h0 : 0 < xs.length) (h1 : xs.length < 1000000) : ∃ x ∈ xs, ∃ D', Fn (k + 2) (w "_law_of") [.ow D, .ow (.list xs)] = .ok (.fz x) [.ow D', .ow (.list xs)] ∧ MOk (b + 1) D' := by
  obtain ⟨d, hd, D', e1, m1⟩ := draw_ok k hb hD xs.length h0 h1
  refine ⟨xs[d], List.getElem_mem _, D', ?_, m1⟩
  rw [step p__law_of (by kernel_rfl) rfl rfl]
  have e2 : xs[d]? = some xs[d] := List.getElem?_eq_getElem hd
  simp -implicitDefEqProofs [p__law_of, e1, e2]
/-- a text drawn -/
theorem law_of_str (k : Nat) {D : PyData} {b : Nat} (hb : b ≤ 1000000) (hD : MOk b D) (ws : List Str) (h0 : 0 < ws.length) (h1 : ws.length < 1000000) : ∃ x ∈ ws, ∃ D', Fn (k + 2) (w "_law_of") [.ow D, .ow (.list (ws.map .str))] = .ok (.fz (.str x)) [.ow D', .ow (.list (ws.map .str))] ∧ MOk (b + 1) D' := by
  obtain ⟨x, hx, D', e, m⟩ := law_of_ok k hb hD (ws.map .str) (by simpa using h0) (by simpa using h1)
  obtain ⟨y, hy, rfl⟩ := List.mem_map.mp hx
  exact ⟨y, hy, D', e, m⟩
theorem unmap {α : Type} (enc : α → PyData) (P : α → Prop) : ∀ (ys : List PyData), (∀ y ∈ ys, ∃ x, P x ∧ y = enc x) → ∃ xs : List α, ys = xs.map enc ∧ ∀ x ∈ xs, P x
  | [], _ => ⟨[], rfl, fun _ h => nomatch h⟩
  | y :: ys, h => by
    obtain ⟨x, hx, rfl⟩ := h y (List.mem_cons_self ..)
    obtain ⟨xs, rfl, hxs⟩ := unmap enc P ys fun z hz => h z (List.mem_cons_of_mem _ hz)
    refine ⟨x :: xs, rfl, fun z hz => ?_⟩
    rcases List.mem_cons.mp hz with rfl | hz
    · exact hx
    · exact hxs z hz
theorem rgV_i (r : Rh) (i : Int) (n : Nat) (hi : i = n) (h : n ≤ 100000) : rgV r (.int i) = .ok ((List.range n).map fun (k : Nat) => .int k) r := by
  rw [hi]
  exact rgV_small r n h
theorem law_some_ok (k : Nat) {D : PyData} {b : Nat} (hb : b ≤ 100000) (hD : MOk b D) (ws : List Str) (h0 : 0 < ws.length) (h1 : ws.length < 1000) (lo hi : Nat) (hlo : lo ≤ hi) (hh : hi ≤ 100) : ∃ xs : List Str, lo ≤ xs.length ∧ xs.length ≤ hi ∧ (∀ x ∈ xs, x ∈ ws) ∧ ∃ D', Fn (k + 3) (w "_law_some") [.ow D, .ow (.list (ws.map .str)), .fz (.int lo), .fz (.int hi)] = .ok (.fz (strsE xs)) [.ow D', .ow (.list (ws.map .str)), .fz (.int lo), .fz (.int hi)] ∧ MOk (b + 200) D' := by
  obtain ⟨d, hd, D1, e1, m1⟩ := draw_ok (k + 1) (by omega) hD (hi - lo + 1) (by omega) (by omega)
  have hc : (hi : Int) - lo + 1 = ((hi - lo + 1 : Nat) : Int) := by omega
  have hr : (lo : Int) + d = ((lo + d : Nat) : Int) := by omega
  obtain ⟨ys, r2, e2, ⟨D2, x, hr2, m2⟩, l2, q2⟩ := lc_inv (Fn (k + 2)) (own := [4]) (e := .fz (.call (w "_law_of") (.cons (.pk 0) (.cons (.pk 1) .nil)))) (t := .nm 4) (it := .rng (.fz (.bin .add (.pk 2) (.call (w "_law_draw") (.cons (.pk 0) (.cons (.bin .add (.bin .sub (.pk 3) (.pk 2)) (.cst (.int 1))) .nil))))))
    (r := [.ow D, .ow (.list (ws.map .str)), .fz (.int lo), .fz (.int hi), .un]) (r1 := [.ow D1, .ow (.list (ws.map .str)), .fz (.int lo), .fz (.int hi), .un]) (xs := (List.range (lo + d)).map fun (k : Nat) => .int k)
    (fun n r => ∃ D x, r = [.ow D, .ow (.list (ws.map .str)), .fz (.int lo), .fz (.int hi), x] ∧ MOk (b + 1 + n) D) (fun y => ∃ x, x ∈ ws ∧ y = .str x)
    (by
      rw [← hc] at e1
      simp -implicitDefEqProofs [e1, rgV_i _ _ _ hr (by omega)])
    ⟨D1, _, rfl, m1⟩
    (fun x hx n r2 hn hI => by
      obtain ⟨D2, z, rfl, m2⟩ := hI
      simp at hn
      obtain ⟨y, hy, D3, e3, m3⟩ := law_of_str k (by omega) m2 ws h0 (by omega)
      refine ⟨.str y, [.ow D3, .ow (.list (ws.map .str)), .fz (.int lo), .fz (.int hi), .fz x], ?_, ⟨D3, _, rfl, m3⟩, y, hy, rfl⟩
      simp -implicitDefEqProofs [e3]) rfl (by simp; omega)
  subst hr2
  obtain ⟨xs, rfl, hxs⟩ := unmap .str (· ∈ ws) ys q2
  simp at l2 m2 e2
  refine ⟨xs, by omega, by omega, hxs, D2, ?_, m2.mono (by omega)⟩
  rw [step p__law_some (by kernel_rfl) rfl rfl]
  simp -implicitDefEqProofs [p__law_some, c__law_some, e2, strsE]
end FJ.K15

set_option Elab.async false
set_option linter.all false
set_option autoImplicit false
set_option maxRecDepth 100000
/-! K15o: setups drawn. -/
namespace FJ.K15
open PySem FJ
theorem law_some_int (k : Nat) {D : PyData} {b : Nat} (hb : b ≤ 100000) (hD : MOk b D) (ws : List Str) (h0 : 0 < ws.length) (h1 : ws.length < 1000) (lo hi : Nat) (hlo : lo ≤ hi) (hh : hi ≤ 100) {lo' hi' : Int} (el : lo' = lo) (eh : hi' = hi) : ∃ xs : List Str, lo ≤ xs.length ∧ xs.length ≤ hi ∧ (∀ x ∈ xs, x ∈ ws) ∧ ∃ D', Fn (k + 3) (w "_law_some") [.ow D, .ow (.list (ws.map .str)), .fz (.int lo'), .fz (.int hi')] = .ok (.fz (strsE xs)) [.ow D', .ow (.list (ws.map .str)), .fz (.int lo'), .fz (.int hi')] ∧ MOk (b + 200) D' := by
  subst el eh
  exact law_some_ok k hb hD ws h0 h1 lo hi hlo hh
theorem law_of_lit (k : Nat) {D : PyData} {b : Nat} (hb : b ≤ 1000000) (hD : MOk b D) (ws : List Str) (h0 : 0 < ws.length) (h1 : ws.length < 1000000) {l : List PyData} (el : l = ws.map .str) : ∃ x ∈ ws, ∃ D', Fn (k + 2) (w "_law_of") [.ow D, .ow (.list l)] = .ok (.fz (.str x)) [.ow D', .ow (.list l)] ∧ MOk (b + 1) D' := by
  subst el
  exact law_of_str k hb hD ws h0 h1
theorem draw_int (k : Nat) {D : PyData} {b : Nat} (hb : b ≤ 1000000) (hD : MOk b D) (n : Nat) (h0 : 0 < n) (h1 : n < 1000000) {n' : Int} (e : n' = n) : ∃ d < n, ∃ D', Fn (k + 1) (w "_law_draw") [.ow D, .fz (.int n')] = .ok (.fz (.int d)) [.ow D', .fz (.int n')] ∧ MOk (b + 1) D' := by
  subst e
  exact draw_ok k hb hD n h0 h1
def doing2 : List Str := [w "group", w "give", w "go", w "wait", w "listen", w "take", w "plain", w "give", w "take"]
theorem doing2_in {x : Str} (h : x ∈ doing2) : x ∈ steps := by
  simp [doing2] at h
  simp [steps]
  rcases h with h | h | h | h | h | h | h | h | h <;> simp [h]
theorem law_setup_ok (k : Nat) {D : PyData} {b : Nat} (hb : b ≤ 50000) (hD : MOk b D) : ∃ S, SetOk S ∧ ∃ D', Fn (k + 4) (w "_law_setup") [.ow D, .fz (.int 2), .fz (.int 4), .fz (.int 4)] = .ok (.fz (setE S)) [.ow D', .fz (.int 2), .fz (.int 4), .fz (.int 4)] ∧ MOk (b + 2000) D' := by
  obtain ⟨d, hd, D1, e1, m1⟩ := draw_int (k + 2) (by omega) hD 2 (by omega) (by omega) (n' := 2) rfl
  have hr : (1 : Int) + d = ((1 + d : Nat) : Int) := by omega
  obtain ⟨ys, r2, e2, ⟨D2, x2, rfl, m2⟩, l2, q2⟩ := lc_inv (Fn (k + 3)) (own := [6]) (e := .fz (.call (w "_law_some") (.cons (.pk 0) (.cons (.pk 4) (.cons (.cst (.int 1)) (.cons (.pk 2) .nil)))))) (t := .nm 6) (it := .rng (.fz (.bin .add (.cst (.int 1)) (.call (w "_law_draw") (.cons (.pk 0) (.cons (.pk 1) .nil))))))
    (r := [.ow D, .fz (.int 2), .fz (.int 4), .fz (.int 4), .ow (.list (acts.map .str)), .un, .un, .un]) (r1 := [.ow D1, .fz (.int 2), .fz (.int 4), .fz (.int 4), .ow (.list (acts.map .str)), .un, .un, .un]) (xs := (List.range (1 + d)).map fun (k : Nat) => .int k)
    (fun n r => ∃ D x, r = [.ow D, .fz (.int 2), .fz (.int 4), .fz (.int 4), .ow (.list (acts.map .str)), .un, x, .un] ∧ MOk (b + 1 + 200 * n) D) (fun y => ∃ xs : List Str, (1 ≤ xs.length ∧ xs.length ≤ 5 ∧ ∀ a ∈ xs, a ∈ acts) ∧ y = strsE xs)
    (by simp -implicitDefEqProofs [e1, rgV_i _ _ _ hr (by omega)])
    ⟨D1, _, rfl, m1⟩
    (fun x hx n r2 hn hI => by
      obtain ⟨D2, z, rfl, m2⟩ := hI
      simp at hn
      obtain ⟨xs, h1, h2, h3, D3, e3, m3⟩ := law_some_int k (by omega) m2 acts (by simp [acts]) (by simp [acts]) 1 4 (by omega) (by omega) (lo' := 1) (hi' := 4) rfl rfl
      refine ⟨strsE xs, [.ow D3, .fz (.int 2), .fz (.int 4), .fz (.int 4), .ow (.list (acts.map .str)), .un, .fz x, .un], ?_, ⟨D3, _, rfl, m3.mono (by omega)⟩, xs, ⟨h1, by omega, h3⟩, rfl⟩
      simp -implicitDefEqProofs [e3]) rfl (by simp; omega)
  obtain ⟨ks, rfl, hks⟩ := unmap strsE (fun xs => 1 ≤ xs.length ∧ xs.length ≤ 5 ∧ ∀ a ∈ xs, a ∈ acts) ys q2
  simp at l2 m2 e2
  obtain ⟨r1, hr1, D3, e3, m3⟩ := law_of_lit (k + 1) (by omega) m2 [w "stop", w "fail", w "wait"] (by simp) (by simp) (l := [.str (w "stop"), .str (w "fail"), .str (w "wait")]) rfl
  obtain ⟨r2, hr2, D4, e4, m4⟩ := law_of_lit (k + 1) (by omega) m3 [w "go", w "stop"] (by simp) (by simp) (l := [.str (w "go"), .str (w "stop")]) rfl
  obtain ⟨r3, hr3, D5, e5, m5⟩ := law_of_lit (k + 1) (by omega) m4 [w "go", w "stop"] (by simp) (by simp) (l := [.str (w "go"), .str (w "stop")]) rfl
  obtain ⟨zs, r6, e6, ⟨D6, x6, rfl, m6⟩, l6, q6⟩ := lc_inv (Fn (k + 3)) (own := [6]) (e := .fz (.call (w "_law_some") (.cons (.pk 0) (.cons (.pk 4) (.cons (.cst (.int 0)) (.cons (.pk 3) .nil)))))) (t := .nm 6) (it := .rng (.cst (.int 4)))
    (r := [.ow D5, .fz (.int 2), .fz (.int 4), .fz (.int 4), .ow (.list (doing2.map .str)), .fz (.tuple (ks.map strsE)), .un, .fz (.tuple [.str r1, .str r2, .str r3])]) (r1 := [.ow D5, .fz (.int 2), .fz (.int 4), .fz (.int 4), .ow (.list (doing2.map .str)), .fz (.tuple (ks.map strsE)), .un, .fz (.tuple [.str r1, .str r2, .str r3])]) (xs := (List.range 4).map fun (k : Nat) => .int k)
    (fun n r => ∃ D x, r = [.ow D, .fz (.int 2), .fz (.int 4), .fz (.int 4), .ow (.list (doing2.map .str)), .fz (.tuple (ks.map strsE)), x, .fz (.tuple [.str r1, .str r2, .str r3])] ∧ MOk (b + 404 + 200 * n) D) (fun y => ∃ xs : List Str, (xs.length ≤ 6 ∧ ∀ a ∈ xs, a ∈ steps) ∧ y = strsE xs)
    (by simp -implicitDefEqProofs only [denI_rng, den_cst, datE_ok, rgV_i _ 4 4 rfl (by omega)])
    ⟨D5, _, rfl, m5.mono (by omega)⟩
    (fun x hx n r2 hn hI => by
      obtain ⟨D2, z, rfl, m2⟩ := hI
      simp at hn
      obtain ⟨xs, h1, h2, h3, D3, e3, m3⟩ := law_some_int k (by omega) m2 doing2 (by simp [doing2]) (by simp [doing2]) 0 4 (by omega) (by omega) (lo' := 0) (hi' := 4) rfl rfl
      refine ⟨strsE xs, [.ow D3, .fz (.int 2), .fz (.int 4), .fz (.int 4), .ow (.list (doing2.map .str)), .fz (.tuple (ks.map strsE)), .fz x, .fz (.tuple [.str _, .str _, .str _])], ?_, ⟨D3, _, rfl, m3.mono (by omega)⟩, xs, ⟨by omega, fun a ha => doing2_in (h3 a ha)⟩, rfl⟩
      simp -implicitDefEqProofs [e3]) rfl (by simp)
  obtain ⟨sc, rfl, hsc⟩ := unmap strsE (fun xs => xs.length ≤ 6 ∧ ∀ a ∈ xs, a ∈ steps) zs q6
  simp at l6 m6 e6
  refine ⟨⟨ks, r1, r2, r3, sc⟩, ⟨by simp only; omega, by simp only; omega, hks, by simpa using hr1, by simpa using hr2, by simpa using hr3, l6, hsc⟩, D6, ?_, m6.mono (by omega)⟩
  rw [step p__law_setup (by kernel_rfl) rfl rfl]
  simp only [acts, doing2, List.map_cons, List.map_nil] at e2 e6
  have ks4 : ks.length ≤ 16777216 := by omega
  simp -implicitDefEqProofs [p__law_setup, c__law_setup, c__law_setup2, e2, e3, e4, e5, e6, setE]
end FJ.K15

set_option Elab.async false
set_option linter.all false
set_option autoImplicit false
set_option maxRecDepth 100000
/-! K15p: standings drawn. -/
namespace FJ.K15
open PySem FJ
def jpE (p : Nat × Job) : PyData := .tuple [.int p.1, jE p.2]
@[simp] theorem jp_tg (p : Nat × Job) (ts : ITgs) (r : Rh) : tgD (.tp ts) (jpE p) r = tgsD ts [.int p.1, jE p.2] r := by unfold jpE; rw [tgD_tp]
theorem repd_bool {α : Type} (x : α) (c : Bool) : repd [x] (Int.toNat (if c = true then 1 else 0)) = if c = true then [x] else [] := by cases c <;> rfl
theorem mul1 (x : PyData) : binD .mul (.list [x]) (.int 1) = some (.fresh (.list [x])) := by
  have h1 : -((2 : Int) ^ 63) ≤ 1 := by decide
  have h2 : (1 : Int) < 2 ^ 63 := by decide
  rw [binD_mul_list, decide_eq_true h1, decide_eq_true h2]
  simp [repd]
theorem mul0 (x : PyData) : binD .mul (.list [x]) (.int 0) = some (.fresh (.list [])) := by
  have h1 : -((2 : Int) ^ 63) ≤ 0 := by decide
  have h2 : (0 : Int) < 2 ^ 63 := by decide
  rw [binD_mul_list, decide_eq_true h1, decide_eq_true h2]
  simp [repd]
theorem state_step (k : Nat) {S : Setup} (hS : SetOk S) {D : PyData} {b : Nat} (hb : b ≤ 500000) (hD : MOk b D) (js : List (Nat × Job)) (made : PyData) (j : Nat) (hl : js.length ≤ 100) (a4 a5 a6 a7 a8 a9 a10 : Slot) : ∃ (job : Job) (c : Bool) (D' : PyData) (b4 b5 b6 b7 b8 b9 b10 : Slot), JobOk S job ∧ MOk (b + 10) D' ∧
    forB (Fn (k + 2)) 20000 (.nm 4) b__law_state (.int j) [.ow D, .fz (setE S), .ow (.list (js.map jpE)), .fz made, a4, a5, a6, a7, a8, a9, a10, .un, .un, .un, .un, .un] =
      .ok .next [.ow D', .fz (setE S), .ow (.list ((js ++ (if c = true then [(j, job)] else [])).map jpE)), .fz made, b4, b5, b6, b7, b8, b9, b10, .un, .un, .un, .un, .un] := by
  obtain ⟨kd, hkd, D1, e1, m1⟩ := draw_int (k + 1) (by omega) hD S.ks.length (by have := hS.k1; omega) (by have := hS.k3; omega) (n' := S.ks.length) rfl
  obtain ⟨st, hst, D2, e2, m2⟩ := law_of_lit k (by omega) m1 [w "runs", w "runs", w "stopped", w "ended"] (by simp) (by simp) (l := [.str (w "runs"), .str (w "runs"), .str (w "stopped"), .str (w "ended")]) rfl
  have hk : S.ks[kd]? = some (S.ks.getD kd []) := by
    rw [List.getD_eq_getElem?_getD, List.getElem?_eq_getElem hkd]
    rfl
  have hkl : (S.ks.getD kd []).length ≤ 5 := (hS.ka _ (List.mem_of_getElem? hk)).2.1
  generalize hkk : S.ks.getD kd [] = kk at hk hkl
  -- the notice
  have notice : ∃ no D3, ((st = w "ended" ∧ no = w "end") ∨ ((st = w "runs" ∨ st = w "stopped") ∧ (no = w "none" ∨ no = w "stop"))) ∧ MOk (b + 1 + 1 + 1) D3 ∧ ∀ x4 x5 : Slot, ∀ a7 a8 a9 a10 : Slot, den (Fn (k + 2)) (.ife (.cmp .eq (.pk 6) (.cst (.str (w "ended")))) (.cst (.str (w "end"))) (.call (w "_law_of") (.cons (.pk 0) (.cons (.lst (.cons (.cst (.str (w "none"))) (.cons (.cst (.str (w "stop"))) .nil))) .nil)))) [.ow D2, .fz (setE S), .ow (.list (js.map jpE)), .fz made, x4, x5, .fz (.str st), a7, a8, a9, a10, .un, .un, .un, .un, .un] = .ok (.d (.str no)) [.ow D3, .fz (setE S), .ow (.list (js.map jpE)), .fz made, x4, x5, .fz (.str st), a7, a8, a9, a10, .un, .un, .un, .un, .un] := by
    by_cases he : st = w "ended"
    · refine ⟨w "end", D2, .inl ⟨he, rfl⟩, m2.mono (by omega), fun x4 x5 a7 a8 a9 a10 => ?_⟩
      subst he
      simp -implicitDefEqProofs
    · obtain ⟨no, hno, D3, e3, m3⟩ := law_of_lit k (by omega) m2 [w "none", w "stop"] (by simp) (by simp) (l := [.str (w "none"), .str (w "stop")]) rfl
      refine ⟨no, D3, .inr ⟨?_, by simpa using hno⟩, m3, fun x4 x5 a7 a8 a9 a10 => ?_⟩
      · simp at hst
        rcases hst with h | h | h
        · exact .inl h
        · exact .inr h
        · exact absurd h he
      · simp -implicitDefEqProofs [he, e3]
  obtain ⟨no, D3, hno, m3, e3⟩ := notice
  obtain ⟨d4, h4, D4, e4, m4⟩ := draw_int (k + 1) (by omega) m3 2 (by omega) (by omega) (n' := 2) rfl
  obtain ⟨d5, h5, D5, e5, m5⟩ := draw_int (k + 1) (by omega) m4 3 (by omega) (by omega) (n' := 3) rfl
  obtain ⟨pl, hpl, D6, e6, m6⟩ := draw_int (k + 1) (by omega) m5 (kk.length + 1) (by omega) (by omega) (n' := (kk.length : Int) + 1) rfl
  obtain ⟨d7, h7, D7, e7, m7⟩ := draw_int (k + 1) (by omega) m6 4 (by omega) (by omega) (n' := 4) rfl
  have s0 : itemD (setE S) (.int 0) = some (.tuple (S.ks.map strsE)) := rfl
  have ls : b1D .len (strsE kk) = some (.d (.int kk.length)) := by simp [strsE]
  generalize hc : decide (0 < d7) = c
  refine ⟨⟨kd, pl, decide (d4 = 0), st, no, decide (d5 = 0)⟩, c, D7, .fz (.int j), .fz (.int kd), .fz (.str st), .fz (.str no), .fz (jE ⟨kd, pl, decide (d4 = 0), st, no, decide (d5 = 0)⟩), .fz (.bool (decide (d4 = 0))), .fz (.bool (decide (d5 = 0))), ⟨hkd, by simp only; rw [hkk]; omega, hno⟩, m7.mono (by omega), ?_⟩
  have jj : PyData.tuple [.int kd, .int pl, .bool (decide (d4 = 0)), .str st, .str no, .bool (decide (d5 = 0))] = jE ⟨kd, pl, decide (d4 = 0), st, no, decide (d5 = 0)⟩ := rfl
  have hl2 : js.length + 1 ≤ 16777216 := by omega
  have hl3 : js.length ≤ 16777216 := by omega
  generalize setE S = T at *
  have jp : ∀ J : Job, PyData.tuple [.int (j : Int), jE J] = jpE (j, J) := fun _ => rfl
  have sz : ∀ x : PyData, (0 : Nat) ≤ 16777216 := fun _ => by omega
  cases c
  · have hc' := of_decide_eq_false hc
    simp -implicitDefEqProofs [-den_ife, -binD_mul_list, forB, b__law_state, s0, hk, ls, e1, e2, e3, e4, e5, e6, e7, jj, jp, mul0, hc', hl3]
  · have hc' := of_decide_eq_true hc
    simp -implicitDefEqProofs [-den_ife, -binD_mul_list, forB, b__law_state, s0, hk, ls, e1, e2, e3, e4, e5, e6, e7, jj, jp, mul1, hc', hl2]
structure Std where
  wd : Str
  pl : Nat
  f : PyData
  md : Str
  h : Int
  mk_ : Int
  js : List (Nat × Job)
def stE (X : Std) : PyData := .tuple [.str X.wd, .int X.pl, X.f, .str X.md, .int X.h, .int X.mk_, .tuple (X.js.map jpE)]
structure StOk (S : Setup) (X : Std) : Prop where
  wd : (X.wd = w "none" ∧ X.pl = 0) ∨ (isScr X.wd ∧ X.pl < (S.scr X.wd).length)
  f : (X.f = .str (w "shell") ∨ X.f = .str (w "nobody")) ∨ ∃ n : Int, X.f = .int n
  md : X.md = w "plain" ∨ X.md = w "raw"
  js : X.js.length ≤ 4
  jo : ∀ p ∈ X.js, JobOk S p.2
theorem mul2 (xs : List PyData) (h : xs.length ≤ 1000) : binD .mul (.list xs) (.int 2) = some (.fresh (.list (xs ++ xs))) := by
  have h1 : -((2 : Int) ^ 63) ≤ 2 := by decide
  have h2 : (2 : Int) < 2 ^ 63 := by decide
  have h3 : xs.length * Int.toNat 2 ≤ sizeLine := by
    show xs.length * 2 ≤ 16777216
    omega
  rw [binD_mul_list, decide_eq_true h1, decide_eq_true h2, decide_eq_true h3]
  have : Int.toNat 2 = 2 := rfl
  simp [repd, this]
def ws4 : List Str := [w "fore", w "back", w "front", w "behind"]
theorem state_loop (k : Nat) {S : Setup} (hS : SetOk S) {D : PyData} {b : Nat} (hb : b ≤ 400000) (hD : MOk b D) (d0 : Nat) (hd : d0 ≤ 4) : ∃ (js : List (Nat × Job)) (D' : PyData) (b4 b5 b6 b7 b8 b9 b10 : Slot), js.length ≤ 4 ∧ (∀ p ∈ js, JobOk S p.2) ∧ MOk (b + 41) D' ∧
    forR (forB (Fn (k + 2)) 20000 (.nm 4) b__law_state) ((List.range d0).map fun (k : Nat) => .int k) [.ow D, .fz (setE S), .ow (.list []), .fz (.int d0), .un, .un, .un, .un, .un, .un, .un, .un, .un, .un, .un, .un] =
      .ok .next [.ow D', .fz (setE S), .ow (.list (js.map jpE)), .fz (.int d0), b4, b5, b6, b7, b8, b9, b10, .un, .un, .un, .un, .un] := by
  obtain ⟨r', e1, js, D', b4, b5, b6, b7, b8, b9, b10, h1, h2, h3, rfl⟩ := for_inv (fun (k : Nat) => .int k) (forB (Fn (k + 2)) 20000 (.nm 4) b__law_state) (fun rest r' => ∃ (js : List (Nat × Job)) (D' : PyData) (b4 b5 b6 b7 b8 b9 b10 : Slot), js.length + rest.length ≤ 4 ∧ (∀ p ∈ js, JobOk S p.2) ∧ MOk (b + 41 - 10 * rest.length) D' ∧ r' = [.ow D', .fz (setE S), .ow (.list (js.map jpE)), .fz (.int d0), b4, b5, b6, b7, b8, b9, b10, .un, .un, .un, .un, .un]) (fun j rest r' hI => by
    obtain ⟨js, D', b4, b5, b6, b7, b8, b9, b10, h1, h2, h3, rfl⟩ := hI
    simp only [List.length_cons] at h1 h3
    obtain ⟨job, c, D2, c4, c5, c6, c7, c8, c9, c10, q1, q2, q3⟩ := state_step k hS (by omega) h3 js (.int d0) j (by omega) b4 b5 b6 b7 b8 b9 b10
    refine ⟨_, q3, js ++ (if c = true then [(j, job)] else []), D2, c4, c5, c6, c7, c8, c9, c10, ?_, fun p hp => ?_, q2.mono (by omega), rfl⟩
    · cases c <;> simp <;> omega
    · rcases List.mem_append.mp hp with z | z
      · exact h2 p z
      · cases c
        · simp at z
        · simp at z
          rw [z]
          exact q1) (l := List.range d0) (r := [.ow D, .fz (setE S), .ow (.list []), .fz (.int d0), .un, .un, .un, .un, .un, .un, .un, .un, .un, .un, .un, .un]) ⟨[], D, _, _, _, _, _, _, _, by simpa using hd, (fun _ h => nomatch h), hD.mono (by simp; omega), rfl⟩
  exact ⟨js, D', b4, b5, b6, b7, b8, b9, b10, by simpa using h1, h2, by simpa using h3, e1⟩
theorem law_state_ok (k : Nat) {S : Setup} (hS : SetOk S) {D : PyData} {b : Nat} (hb : b ≤ 300000) (hD : MOk b D) : ∃ X, StOk S X ∧ ∃ D', Fn (k + 3) (w "_law_state") [.ow D, .fz (setE S)] = .ok (.fz (stE X)) [.ow D', .fz (setE S)] ∧ MOk (b + 100) D' := by
  obtain ⟨d0, hd0, D0, e0, m0⟩ := draw_int (k + 1) (by omega) hD 5 (by omega) (by omega) (n' := 5) rfl
  obtain ⟨js, D1, b4, b5, b6, b7, b8, b9, b10, j1, j2, m1, e1⟩ := state_loop k hS (by omega) m0 d0 (by omega)
  obtain ⟨wd, hwd, D2, e2, m2⟩ := law_of_lit k (by omega) m1 (w "none" :: ws4.filter fun x => !(S.scr x).isEmpty) (by simp) (by have := List.length_filter_le (fun x => !(S.scr x).isEmpty) ws4; simp [ws4] at this ⊢; omega) (l := .str (w "none") :: (ws4.filter fun x => !(S.scr x).isEmpty).map .str) rfl
  have hrg : ∀ r, rgV r (.int (d0 : Int)) = .ok ((List.range d0).map fun (k : Nat) => .int k) r := fun r => rgV_small r d0 (by omega)
  have s4 : ∀ x ∈ ws4, isScr x := fun x hx => by simpa [ws4, isScr] using hx
  have hlw : (ws4.filter fun x => !(S.scr x).isEmpty).length + 1 ≤ 16777216 := by
    have := List.length_filter_le (fun x => !(S.scr x).isEmpty) ws4
    simp [ws4] at this ⊢
    omega
  -- the front
  have hfl := List.length_filter_le (fun p : Nat × Job => p.2.ow && !decide (p.2.st = w "ended")) js
  have key : ∀ {D3 : PyData} {b3 : Nat}, b3 ≤ 1000 + b → MOk b3 D3 → ∃ f md d5, (f = .str (w "shell") ∨ f = .str (w "nobody") ∨ ∃ n : Int, f = .int n) ∧ (md = w "plain" ∨ md = w "raw") ∧ ∃ D4 D5 D6, Fn (k + 2) (w "_law_of") [.ow D3, .ow (.list (.str (w "shell") :: .str (w "nobody") :: (js.filter fun p => p.2.ow && !decide (p.2.st = w "ended")).map fun p => .int p.1))] = .ok (.fz f) [.ow D4, .ow (.list (.str (w "shell") :: .str (w "nobody") :: (js.filter fun p => p.2.ow && !decide (p.2.st = w "ended")).map fun p => .int p.1))] ∧
      Fn (k + 2) (w "_law_of") [.ow D4, .ow (.list [.str (w "plain"), .str (w "raw")])] = .ok (.fz (.str md)) [.ow D5, .ow (.list [.str (w "plain"), .str (w "raw")])] ∧ Fn (k + 2) (w "_law_draw") [.ow D5, .fz (.int 2)] = .ok (.fz (.int d5)) [.ow D6, .fz (.int 2)] ∧ MOk (b3 + 3) D6 := by
    intro D3 b3 hb3 m3
    obtain ⟨f, hf, D4, e4, m4⟩ := law_of_ok k (by omega) m3 (.str (w "shell") :: .str (w "nobody") :: (js.filter fun p => p.2.ow && !decide (p.2.st = w "ended")).map fun p => .int p.1) (by simp) (by simp; omega)
    obtain ⟨md, hmd, D5, e5, m5⟩ := law_of_lit k (by omega) m4 [w "plain", w "raw"] (by simp) (by simp) (l := [.str (w "plain"), .str (w "raw")]) rfl
    obtain ⟨d5, _, D6, e6, m6⟩ := draw_int (k + 1) (by omega) m5 2 (by omega) (by omega) (n' := 2) rfl
    refine ⟨f, md, d5, ?_, by simpa using hmd, D4, D5, D6, e4, e5, e6, m6⟩
    rcases List.mem_cons.mp hf with h | h
    · exact .inl h
    · rcases List.mem_cons.mp h with h | h
      · exact .inr (.inl h)
      · obtain ⟨p, _, rfl⟩ := List.mem_map.mp h
        exact .inr (.inr ⟨_, rfl⟩)
  have hz4 : (4 : Nat) ≤ sizeLine := by simp
  have hjs : js.length ≤ sizeLine := by simp; omega
  have hj1 : (js.filter fun p => p.2.ow && !decide (p.2.st = w "ended")).length + 1 + 1 ≤ 16777216 := by omega
  have hj2 : 2 + (js.filter fun p => p.2.ow && !decide (p.2.st = w "ended")).length ≤ 16777216 := by omega
  have hw1 : 1 + (ws4.filter fun x => !(S.scr x).isEmpty).length ≤ 16777216 := by omega
  have sE : ∀ x, eqD (strsE x) (.tuple []) = some x.isEmpty := fun x => by
    rw [eqD_nilT _ (by simp [strsE])]
    simp [strsE]
  have it4 : ∀ p : Nat × Job, jpE p = jpE p := fun _ => rfl
  simp only [List.mem_cons] at hwd
  by_cases hn : wd = w "none"
  · obtain ⟨f, md, d5, hf, hmd, D4, D5, D6, e4, e5, e6, m6⟩ := key (by omega) m2
    refine ⟨⟨wd, 0, f, md, -1, d0 + d5, js⟩, ⟨.inl ⟨hn, rfl⟩, by rcases hf with h | h | h; exact .inl (.inl h); exact .inl (.inr h); exact .inr h, hmd, j1, j2⟩, D6, ?_, m6.mono (by omega)⟩
    rw [step p__law_state (by kernel_rfl) rfl rfl]
    generalize hT : setE S = T at *
    simp -implicitDefEqProofs [p__law_state, e0, hrg, e1]
    rw [lc_filt (Fn (k + 2)) ws4 .str .str (fun x => !(S.scr x).isEmpty) (by simp [ws4]; rfl) (by rfl) (fun x hx => ⟨_, by
      have es := law_script (k + 1) S hS x (s4 x hx)
      rw [hT] at es
      simp [es, sE]; rfl, by rfl⟩) (by rfl) hz4]
    simp -implicitDefEqProofs [e2, hn, hw1, hlw]
    rw [lc_filt (Fn (k + 2)) js jpE (fun p => .int p.1) (fun p => p.2.ow && !decide (p.2.st = w "ended")) (by simp; rfl) (by rfl) (fun p hp => ⟨_, by cases h1 : p.2.ow <;> simp [h1] <;> rfl, by rfl⟩) (by rfl) hjs]
    simp -implicitDefEqProofs [hj1, hj2, e4, e5, e6, stE]
  · have hin : wd ∈ ws4 ∧ (S.scr wd).isEmpty = false := by
      have := List.mem_filter.mp (hwd.resolve_left hn)
      exact ⟨this.1, by simpa using this.2⟩
    have hls : 0 < (S.scr wd).length := by
      cases q : S.scr wd with
      | nil => rw [q] at hin; simp at hin
      | cons _ _ => simp
    have hls2 : (S.scr wd).length ≤ 6 := (hS.sa _ (List.mem_of_getElem? (scr_get hS))).1
    obtain ⟨pl, hpl, D7, e7, m7⟩ := draw_int (k + 1) (by omega) m2 (S.scr wd).length hls (by omega) (n' := (S.scr wd).length) rfl
    obtain ⟨hh, hhh, D8, e8, m8⟩ := law_of_ok k (by omega) m7 (.int (-1) :: ((js.map fun p => .int p.1) ++ (js.map fun p => .int p.1))) (by simp) (by simp; omega)
    have hi : ∃ h : Int, hh = .int h := by
      rcases List.mem_cons.mp hhh with h | h
      · exact ⟨_, h⟩
      · rcases List.mem_append.mp h with h | h <;> obtain ⟨p, _, rfl⟩ := List.mem_map.mp h <;> exact ⟨_, rfl⟩
    obtain ⟨hv, rfl⟩ := hi
    obtain ⟨f, md, d5, hf, hmd, D4, D5, D6, e4, e5, e6, m6⟩ := key (by omega) m8
    refine ⟨⟨wd, pl, f, md, hv, d0 + d5, js⟩, ⟨.inr ⟨s4 _ hin.1, hpl⟩, by rcases hf with h | h | h; exact .inl (.inl h); exact .inl (.inr h); exact .inr h, hmd, j1, j2⟩, D6, ?_, m6.mono (by omega)⟩
    rw [step p__law_state (by kernel_rfl) rfl rfl]
    have esw := law_script (k + 1) S hS wd (s4 _ hin.1)
    have lsw : b1D .len (strsE (S.scr wd)) = some (.d (.int (S.scr wd).length)) := by simp [strsE]
    have m2l := mul2 (js.map fun p => .int p.1) (by simp; omega)
    have hj3 : js.length + js.length + 1 ≤ 16777216 := by omega
    have hj4 : 1 + (js.length + js.length) ≤ 16777216 := by omega
    generalize hT : setE S = T at *
    simp -implicitDefEqProofs [p__law_state, e0, hrg, e1]
    rw [lc_filt (Fn (k + 2)) ws4 .str .str (fun x => !(S.scr x).isEmpty) (by simp [ws4]; rfl) (by rfl) (fun x hx => ⟨_, by
      have es := law_script (k + 1) S hS x (s4 x hx)
      rw [hT] at es
      simp [es, sE]; rfl, by rfl⟩) (by rfl) hz4]
    simp -implicitDefEqProofs [e2, hn, hw1, hlw, esw, lsw, e7]
    rw [lc_filt (Fn (k + 2)) js jpE (fun p => .int p.1) (fun p => p.2.ow && !decide (p.2.st = w "ended")) (by simp; rfl) (by rfl) (fun p hp => ⟨_, by cases h1 : p.2.ow <;> simp [h1] <;> rfl, by rfl⟩) (by rfl) hjs]
    simp -implicitDefEqProofs [hn, hj1, hj2]
    rw [lc_each (Fn (k + 2)) js jpE (fun p => .int p.1) (by simp; rfl) (by rfl) (fun p hp => ⟨_, by simp; rfl, by rfl⟩) (by rfl) hjs]
    simp -implicitDefEqProofs [hn, -binD_mul_list, m2l, hj3, hj4, e8, e4, e5, e6, stE]
end FJ.K15

set_option Elab.async false
set_option linter.all false
set_option autoImplicit false
set_option maxRecDepth 100000
/-! K15q: rows drawn. -/
namespace FJ.K15
open PySem FJ
theorem lput_nd {acc : List Lot} (s : Shape) (n : Nat) (h : (acc.map (·.1)).Nodup) : ((lput acc s n).map (·.1)).Nodup := by
  unfold lput
  by_cases q : (acc.any fun l => decide (l.1 = s)) = true
  · rw [if_pos q, List.map_map]
    have : (acc.map ((·.1) ∘ fun l => if l.1 = s then (l.1, n) else l)) = acc.map (·.1) := by
      apply List.map_congr_left
      intro l _
      simp only [Function.comp]
      split <;> rfl
    rw [this]
    exact h
  · rw [if_neg q, List.map_append, List.nodup_append]
    refine ⟨h, by simp, fun a ha b hb e => ?_⟩
    simp at hb
    subst hb e
    obtain ⟨l, hl, e⟩ := List.mem_map.mp ha
    exact q (List.any_eq_true.mpr ⟨l, hl, by simpa using e⟩)
theorem lput_mem {acc : List Lot} {s : Shape} {n : Nat} {l : Lot} (h : l ∈ lput acc s n) : l ∈ acc ∨ l = (s, n) := by
  unfold lput at h
  split at h
  · obtain ⟨x, hx, rfl⟩ := List.mem_map.mp h
    split
    · rename_i e
      exact .inr (by rw [e])
    · exact .inl hx
  · rcases List.mem_append.mp h with z | z
    · exact .inl z
    · exact .inr (by simpa using z)
theorem law_role_ok (k : Nat) {X : Std} {S : Setup} (hX : StOk S X) (j : Nat) : ∃ ro, RoleOk ro ∧ Fn (k + 1) (w "_law_role") [.fz (stE X), .fz (.int j)] = .ok (.fz (.str ro)) [.fz (stE X), .fz (.int j)] := by
  have nd : noDict X.f = true := by rcases hX.f with (h | h) | ⟨n, h⟩ <;> rw [h] <;> rfl
  have e1 := eqD_int X.f j nd
  rw [step p__law_role (by kernel_rfl) rfl rfl]
  generalize PyData.eqv X.f (.int j) = c at e1
  by_cases h : X.h = (j : Int)
  · cases c
    · exact ⟨w "hand", .inr (.inl rfl), by simp -implicitDefEqProofs [p__law_role, stE, h, e1]⟩
    · exact ⟨w "both", .inr (.inr (.inr rfl)), by simp -implicitDefEqProofs [p__law_role, stE, h, e1]⟩
  · cases c
    · exact ⟨w "none", .inl rfl, by simp -implicitDefEqProofs [p__law_role, stE, h, e1]⟩
    · exact ⟨w "front", .inr (.inr (.inl rfl)), by simp -implicitDefEqProofs [p__law_role, stE, h, e1]⟩
theorem law_row_ok (k : Nat) {S : Setup} {X : Std} (hX : StOk S X) : ∃ r : Row, RowT S r ∧ (∀ l ∈ r.lots, l.2 ≤ 4) ∧ Fn (k + 2) (w "_law_row") [.fz (stE X), .ow (.dict [])] = .ok (.fz (rowE r)) [.fz (stE X), .fz (.dict [])] := by
  obtain ⟨r', e1, acc, a3, a4, a5, q1, q2, q3, q4, rfl⟩ := for_inv jpE (forB (Fn (k + 1)) 20000 (.tp (.cons (.nm 4) (.cons (.nm 5) .nil))) b__law_row) (fun rest r' => ∃ (acc : List Lot) (a3 a4 a5 : Slot), (∀ p ∈ rest, JobOk S p.2) ∧ (∀ l ∈ acc, JobOk S l.1.1 ∧ RoleOk l.1.2 ∧ 0 < l.2 ∧ l.2 + rest.length ≤ 4) ∧ (acc.map (·.1)).Nodup ∧ acc.length + rest.length ≤ 4 ∧
      r' = [.fz (stE X), .fz (.dict []), .ow (.dict (encD acc)), a3, a4, a5, .un, .un]) (fun p rest r' hI => by
    obtain ⟨acc, a3, a4, a5, q1, q2, q3, q4, rfl⟩ := hI
    obtain ⟨ro, hro, er⟩ := law_role_ok k hX p.1
    have sh : PyData.tuple [jE p.2, .str ro] = shE (p.2, ro) := rfl
    have hlen : acc.length < 16777216 := by omega
    simp only [List.length_cons] at q2 q4
    refine ⟨[.fz (stE X), .fz (.dict []), .ow (.dict (encD (cnt acc (p.2, ro)))), .fz (shE (p.2, ro)), .fz (.int p.1), .fz (jE p.2), .un, .un], ?_, cnt acc (p.2, ro), _, _, _, fun x hx => q1 x (List.mem_cons_of_mem _ hx), fun l hl => ?_, lput_nd _ _ q3, by have := lput_len acc (p.2, ro) ((lk acc (p.2, ro)).getD 0 + 1); unfold cnt; omega, rfl⟩
    · unfold cnt
      cases q : lk acc (p.2, ro) with
      | none => simp -implicitDefEqProofs [forB, b__law_row, er, sh, q, dput_one, hlen]
      | some n =>
        have h0 : ¬ n = 0 := by have := (q2 _ (lk_mem q)).2.2.1; simp only at this; omega
        simp -implicitDefEqProofs [forB, b__law_row, er, sh, q, dput_succ, hlen, h0]
    · unfold cnt at hl
      rcases lput_mem hl with z | rfl
      · obtain ⟨z1, z2, z3, z4⟩ := q2 l z
        exact ⟨z1, z2, z3, by omega⟩
      · refine ⟨q1 p (List.mem_cons_self ..), hro, by simp only; omega, ?_⟩
        simp only
        cases q : lk acc (p.2, ro) with
        | none => simp; omega
        | some n =>
          have := (q2 _ (lk_mem q)).2.2.2
          simp only [Option.getD_some] at this ⊢
          omega) (l := X.js) (r := [.fz (stE X), .fz (.dict []), .ow (.dict (encD [])), .un, .un, .un, .un, .un]) ⟨[], _, _, _, hX.jo, (fun _ h => nomatch h), .nil, by simpa using hX.js, rfl⟩
  have hacc : acc.length ≤ 4 := by simpa using q4
  have hl : acc.length ≤ sizeLine := by simp; omega
  have q : ∀ l : List Lot, (encD l).map (·.1) = l.map fun l => shE l.1 := fun l => by
    unfold encD
    rw [List.map_map]
    rfl
  have fr : ∃ fr : Str, (fr = w "shell" ∨ fr = w "job" ∨ fr = w "nobody") ∧ ((memD X.f [.str (w "shell"), .str (w "nobody")] = some true ∧ X.f = .str fr) ∨ (memD X.f [.str (w "shell"), .str (w "nobody")] = some false ∧ fr = w "job")) := by
    rcases hX.f with (h | h) | ⟨n, h⟩
    · exact ⟨w "shell", .inl rfl, .inl ⟨by rw [h]; simp, h⟩⟩
    · exact ⟨w "nobody", .inr (.inr rfl), .inl ⟨by rw [h]; simp, h⟩⟩
    · exact ⟨w "job", .inr (.inl rfl), .inr ⟨by rw [h]; simp, rfl⟩⟩
  obtain ⟨fr, hfr, hm⟩ := fr
  have sd := sortD_lot acc
  have so := sortOk_lot acc
  refine ⟨⟨X.wd, X.pl, fr, X.md, acc.mergeSort fun a b => !lLt b a⟩, ⟨hX.wd, hfr, hX.md, by simpa using hacc, fun l hl => ?_⟩, fun l hl => ?_, ?_⟩
  · obtain ⟨z1, z2, z3, z4⟩ := q2 l (List.mem_mergeSort.mp hl)
    exact ⟨z1, z2, by omega⟩
  · obtain ⟨z1, z2, z3, z4⟩ := q2 l (List.mem_mergeSort.mp hl)
    omega
  · rw [step p__law_row (by kernel_rfl) rfl rfl]
    have i6 : itemD (stE X) (.int 6) = some (.tuple (X.js.map jpE)) := rfl
    have i2 : itemD (stE X) (.int 2) = some X.f := rfl
    have i3 : itemD (stE X) (.int 3) = some (.str X.md) := rfl
    have s2 : slcD (stE X) none (some 2) = some (.d (.tuple [.str X.wd, .int X.pl])) := by
      unfold stE
      simp
    have dd : dictD [] = some (.fresh (.dict (encD []))) := rfl
    generalize stE X = T at *
    simp -implicitDefEqProofs [p__law_row]
    rw [lc_each (Fn (k + 1)) ([] : List Nat) (fun n => .int n) (fun n => .int n) (by simp; rfl) (by rfl) (fun p hp => nomatch hp) (by rfl) (by simp)]
    simp -implicitDefEqProofs [dd, i6, e1, i2]
    rcases hm with ⟨f1, f2⟩ | ⟨f1, f2⟩
    · simp -implicitDefEqProofs [f1, i2]
      rw [lc_each (Fn (k + 1)) acc (fun l => shE l.1) lotE (by simp [q]; rfl) (by rfl) (fun p hp => ⟨_, by simp [lk_self q3 hp, lotE]; rfl, by rfl⟩) (by rfl) hl]
      simp -implicitDefEqProofs [so, sd, i3, s2, f2, rowE, lotsE]
    · simp -implicitDefEqProofs [f1, i2]
      rw [lc_each (Fn (k + 1)) acc (fun l => shE l.1) lotE (by simp [q]; rfl) (by rfl) (fun p hp => ⟨_, by simp [lk_self q3 hp, lotE]; rfl, by rfl⟩) (by rfl) hl]
      simp -implicitDefEqProofs [so, sd, i3, s2, f2, rowE, lotsE]
end FJ.K15

set_option Elab.async false
set_option linter.all false
set_option autoImplicit false
set_option maxRecDepth 100000
/-! K15r: rows drawn, and others near them. -/
namespace FJ.K15
open PySem FJ
theorem law_of_nat (k : Nat) {D : PyData} {b : Nat} (hb : b ≤ 1000000) (hD : MOk b D) (ns : List Nat) (h0 : 0 < ns.length) (h1 : ns.length < 1000000) {l : List PyData} (el : l = ns.map fun (n : Nat) => .int n) : ∃ n ∈ ns, ∃ D', Fn (k + 2) (w "_law_of") [.ow D, .ow (.list l)] = .ok (.fz (.int (n : Nat))) [.ow D', .ow (.list l)] ∧ MOk (b + 1) D' := by
  subst el
  obtain ⟨x, hx, D', e, m⟩ := law_of_ok k hb hD (ns.map fun (n : Nat) => .int n) (by simpa using h0) (by simpa using h1)
  obtain ⟨n, hn, rfl⟩ := List.mem_map.mp hx
  exact ⟨n, hn, D', e, m⟩
theorem row_take4 (r : Row) : slcD (rowE r) none (some 4) = some (.d (.tuple [.str r.wd, .int r.pl, .str r.fr, .str r.md])) := by
  unfold rowE
  simp
theorem row_take3 (r : Row) : slcD (rowE r) none (some 3) = some (.d (.tuple [.str r.wd, .int r.pl, .str r.fr])) := by
  unfold rowE
  simp
theorem law_some_row_ok (k : Nat) {S : Setup} (hS : SetOk S) {D : PyData} {b : Nat} (hb : b ≤ 200000) (hD : MOk b D) : ∃ r, RowT S r ∧ (∀ l ∈ r.lots, l.2 ≤ 12) ∧ ∃ D', Fn (k + 4) (w "_law_some_row") [.ow D, .fz (setE S)] = .ok (.fz (rowE r)) [.ow D', .fz (setE S)] ∧ MOk (b + 200) D' := by
  obtain ⟨X, hX, D1, e1, m1⟩ := law_state_ok k hS (by omega) hD
  obtain ⟨r0, hr0, hm0, e2⟩ := law_row_ok (k + 1) hX
  obtain ⟨r', e3, ls, D2, a4, a5, q1, q2, q3, q4, rfl⟩ := for_inv lotE (forB (Fn (k + 3)) 20000 (.tp (.cons (.nm 4) (.cons (.nm 5) .nil))) b__law_some_row) (fun rest r' => ∃ (ls : List Lot) (D' : PyData) (a4 a5 : Slot), (∀ l ∈ rest, l ∈ r0.lots) ∧ (∀ l ∈ ls, JobOk S l.1.1 ∧ RoleOk l.1.2 ∧ l.2 ≤ 12) ∧ ls.length + rest.length ≤ 4 ∧ MOk (b + 104 - rest.length) D' ∧
      r' = [.ow D', .fz (setE S), .fz (rowE r0), .ow (.list (ls.map lotE)), a4, a5]) (fun l rest r' hI => by
    obtain ⟨ls, D', a4, a5, q1, q2, q3, q4, rfl⟩ := hI
    simp only [List.length_cons] at q3 q4
    have hl := q1 l (List.mem_cons_self ..)
    obtain ⟨hj, hr, _⟩ := hr0.lj l hl
    have hm := hm0 l hl
    have hlen : ls.length < 16777216 := by omega
    have q1' : ∀ x ∈ rest, x ∈ r0.lots := fun x hx => q1 x (List.mem_cons_of_mem _ hx)
    by_cases hn : l.1.2 = w "none"
    · obtain ⟨n, hnn, D2, e4, m4⟩ := law_of_nat (k + 1) (by omega) q4 [0, 0, 1, 2, 12, l.2] (by simp) (by simp) (l := [.int 0, .int 0, .int 1, .int 2, .int 12, .int l.2]) rfl
      have hn12 : n ≤ 12 := by simp at hnn; omega
      have lo : PyData.tuple [shE l.1, .int n] = lotE (l.1, n) := rfl
      refine ⟨[.ow D2, .fz (setE S), .fz (rowE r0), .ow (.list ((ls ++ [(l.1, n)]).map lotE)), .fz (shE l.1), .fz (.int l.2)], ?_, ls ++ [(l.1, n)], D2, _, _, q1', fun x hx => ?_, by simp; omega, m4.mono (by omega), rfl⟩
      · simp -implicitDefEqProofs [forB, b__law_some_row, hn, e4, lo, hlen]
      · rcases List.mem_append.mp hx with z | z
        · exact q2 x z
        · simp at z
          rw [z]
          exact ⟨hj, hr, hn12⟩
    · have lo : PyData.tuple [shE l.1, .int l.2] = lotE l := rfl
      refine ⟨[.ow D', .fz (setE S), .fz (rowE r0), .ow (.list ((ls ++ [l]).map lotE)), .fz (shE l.1), .fz (.int l.2)], ?_, ls ++ [l], D', _, _, q1', fun x hx => ?_, by simp; omega, q4.mono (by omega), rfl⟩
      · simp -implicitDefEqProofs [forB, b__law_some_row, hn, lo, hlen]
      · rcases List.mem_append.mp hx with z | z
        · exact q2 x z
        · simp at z
          rw [z]
          exact ⟨hj, hr, by omega⟩) (l := r0.lots) (r := [.ow D1, .fz (setE S), .fz (rowE r0), .ow (.list []), .un, .un]) ⟨[], D1, _, _, fun _ h => h, (fun _ h => nomatch h), by simpa using hr0.ll, m1.mono (by have := hr0.ll; omega), rfl⟩
  refine ⟨⟨r0.wd, r0.pl, r0.fr, r0.md, ls⟩, ⟨hr0.wd, hr0.fr, hr0.md, by simpa using q3, fun l hl => ⟨(q2 l hl).1, (q2 l hl).2.1, by have := (q2 l hl).2.2; omega⟩⟩, fun l hl => (q2 l hl).2.2, D2, ?_, q4.mono (by simp)⟩
  rw [step p__law_some_row (by kernel_rfl) rfl rfl]
  have t4 := row_take4 r0
  have i4 : itemD (rowE r0) (.int 4) = some (.tuple (r0.lots.map lotE)) := rfl
  generalize hR : rowE r0 = R at *
  generalize setE S = T at *
  generalize stE X = Y at *
  simp -implicitDefEqProofs [p__law_some_row, e1, e2, i4, e3, t4, rowE, lotsE]
theorem law_other_ok (k : Nat) {S : Setup} (hS : SetOk S) {D : PyData} {b : Nat} (hb : b ≤ 150000) (hD : MOk b D) {r0 : Row} (hr0 : RowT S r0) (hm0 : ∀ l ∈ r0.lots, l.2 ≤ 12) : ∃ r, RowT S r ∧ ∃ D', Fn (k + 5) (w "_law_other") [.ow D, .fz (setE S), .fz (rowE r0)] = .ok (.fz (rowE r)) [.ow D', .fz (setE S), .fz (rowE r0)] ∧ MOk (b + 300) D' := by
  obtain ⟨way, hway, D1, e1, m1⟩ := draw_int (k + 3) (by omega) hD 6 (by omega) (by omega) (n' := 6) rfl
  by_cases h0 : way = 0
  · obtain ⟨r, hr, _, D2, e2, m2⟩ := law_some_row_ok k hS (by omega) m1
    refine ⟨r, hr, D2, ?_, m2.mono (by omega)⟩
    rw [step p__law_other (by kernel_rfl) rfl rfl]
    generalize rowE r0 = R at *
    generalize setE S = T at *
    simp -implicitDefEqProofs [p__law_other, e1, h0]
    rw [h0] at e1
    simp -implicitDefEqProofs [e2]
  obtain ⟨r', e3, ls, D2, a5, a6, q1, q2, q3, q4, rfl⟩ := for_inv lotE (forB (Fn (k + 4)) 20000 (.tp (.cons (.nm 5) (.cons (.nm 6) .nil))) b__law_other) (fun rest r' => ∃ (ls : List Lot) (D' : PyData) (a5 a6 : Slot), (∀ l ∈ rest, l ∈ r0.lots) ∧ (∀ l ∈ ls, JobOk S l.1.1 ∧ RoleOk l.1.2 ∧ l.2 ≤ 14) ∧ ls.length + rest.length ≤ 4 ∧ MOk (b + 9 - 2 * rest.length) D' ∧
      r' = [.ow D', .fz (setE S), .fz (rowE r0), .fz (.int way), .ow (.list (ls.map lotE)), a5, a6]) (fun l rest r' hI => by
    obtain ⟨ls, D', a5, a6, q1, q2, q3, q4, rfl⟩ := hI
    simp only [List.length_cons] at q3 q4
    have hl := q1 l (List.mem_cons_self ..)
    obtain ⟨hj, hr, _⟩ := hr0.lj l hl
    have hm := hm0 l hl
    have hlen : ls.length < 16777216 := by omega
    have q1' : ∀ x ∈ rest, x ∈ r0.lots := fun x hx => q1 x (List.mem_cons_of_mem _ hx)
    have app : ∀ n, n ≤ 14 → ∀ x ∈ ls ++ [(l.1, n)], JobOk S x.1.1 ∧ RoleOk x.1.2 ∧ x.2 ≤ 14 := fun n hn x hx => by
      rcases List.mem_append.mp hx with z | z
      · exact q2 x z
      · simp at z
        rw [z]
        exact ⟨hj, hr, hn⟩
    by_cases hn : l.1.2 = w "none"
    · have mx : ∃ m2 : Nat, m2 ≤ 12 ∧ (if (1 : Int) < (l.2 : Int) - 1 then (l.2 : Int) - 1 else 1) = (m2 : Int) := by
        by_cases z : (1 : Int) < (l.2 : Int) - 1
        · exact ⟨l.2 - 1, by omega, by rw [if_pos z]; omega⟩
        · exact ⟨1, by omega, by rw [if_neg z]; rfl⟩
      obtain ⟨mm, hmm, em⟩ := mx
      have drawn : ∀ {D3 : PyData} {b3 : Nat}, b3 ≤ 1000 + b → MOk b3 D3 → ∃ n ≤ 14, ∃ D4, Fn (k + 4) (w "_law_of") [.ow D3, .ow (.list [.int 0, .int l.2, .int ((l.2 : Int) + 1), .int mm, .int 9])] = .ok (.fz (.int (n : Nat))) [.ow D4, .ow (.list [.int 0, .int l.2, .int ((l.2 : Int) + 1), .int mm, .int 9])] ∧ MOk (b3 + 1) D4 := by
        intro D3 b3 hb3 m3
        obtain ⟨n, hnn, D4, e4, m4⟩ := law_of_nat (k + 2) (by omega) m3 [0, l.2, l.2 + 1, mm, 9] (by simp) (by simp) (l := [.int 0, .int l.2, .int ((l.2 : Int) + 1), .int mm, .int 9]) rfl
        exact ⟨n, by simp at hnn; omega, D4, e4, m4⟩
      by_cases hw : 1 < way
      · have hwI : (1 : Int) < way := by omega
        obtain ⟨n, hn14, D4, e4, m4⟩ := drawn (by omega) q4
        have lo : PyData.tuple [shE l.1, .int n] = lotE (l.1, n) := rfl
        refine ⟨[.ow D4, .fz (setE S), .fz (rowE r0), .fz (.int way), .ow (.list ((ls ++ [(l.1, n)]).map lotE)), .fz (shE l.1), .fz (.int l.2)], ?_, ls ++ [(l.1, n)], D4, _, _, q1', app n hn14, by simp; omega, m4.mono (by omega), rfl⟩
        simp -implicitDefEqProofs [forB, b__law_other, hn, hw, hwI, em, e4, lo, hlen]
      · have hwI : ¬ (1 : Int) < way := by omega
        obtain ⟨d, hd, D3, e5, m5⟩ := draw_int (k + 3) (by omega) q4 3 (by omega) (by omega) (n' := 3) rfl
        by_cases hd0 : 0 < d
        · obtain ⟨n, hn14, D4, e4, m4⟩ := drawn (by omega) m5
          have lo : PyData.tuple [shE l.1, .int n] = lotE (l.1, n) := rfl
          refine ⟨[.ow D4, .fz (setE S), .fz (rowE r0), .fz (.int way), .ow (.list ((ls ++ [(l.1, n)]).map lotE)), .fz (shE l.1), .fz (.int l.2)], ?_, ls ++ [(l.1, n)], D4, _, _, q1', app n hn14, by simp; omega, m4.mono (by omega), rfl⟩
          simp -implicitDefEqProofs [forB, b__law_other, hn, hw, hwI, em, e4, e5, hd0, lo, hlen]
        · refine ⟨[.ow D3, .fz (setE S), .fz (rowE r0), .fz (.int way), .ow (.list (ls.map lotE)), .fz (shE l.1), .fz (.int l.2)], ?_, ls, D3, _, _, q1', q2, by omega, m5.mono (by omega), rfl⟩
          simp -implicitDefEqProofs [forB, b__law_other, hn, hw, hwI, e5, hd0]
    · have lo : PyData.tuple [shE l.1, .int l.2] = lotE l := rfl
      refine ⟨[.ow D', .fz (setE S), .fz (rowE r0), .fz (.int way), .ow (.list ((ls ++ [l]).map lotE)), .fz (shE l.1), .fz (.int l.2)], ?_, ls ++ [l], D', _, _, q1', app l.2 (by omega), by simp; omega, q4.mono (by omega), rfl⟩
      simp -implicitDefEqProofs [forB, b__law_other, hn, lo, hlen]) (l := r0.lots) (r := [.ow D1, .fz (setE S), .fz (rowE r0), .fz (.int way), .ow (.list []), .un, .un]) ⟨[], D1, _, _, fun _ h => h, (fun _ h => nomatch h), by simpa using hr0.ll, m1.mono (by have := hr0.ll; omega), rfl⟩
  have t4 := row_take4 r0
  have t3 := row_take3 r0
  have i4 : itemD (rowE r0) (.int 4) = some (.tuple (r0.lots.map lotE)) := rfl
  have ln : ls.length ≤ 4 := by simpa using q3
  have m2 : MOk (b + 9) D2 := by simpa using q4
  by_cases h2 : way = 2
  · obtain ⟨md, hmd, D5, e5, m5⟩ := law_of_lit (k + 2) (by omega) m2 [w "plain", w "raw"] (by simp) (by simp) (l := [.str (w "plain"), .str (w "raw")]) rfl
    refine ⟨⟨r0.wd, r0.pl, r0.fr, md, ls⟩, ⟨hr0.wd, hr0.fr, by simpa using hmd, ln, q2⟩, D5, ?_, m5.mono (by omega)⟩
    rw [step p__law_other (by kernel_rfl) rfl rfl]
    have h2' : (way : Int) = 2 := by omega
    rw [h2'] at e1 e3
    generalize hR : rowE r0 = R at *
    generalize setE S = T at *
    simp -implicitDefEqProofs [p__law_other, e1, i4, e3, t3, e5, rowE, lotsE]
  · refine ⟨⟨r0.wd, r0.pl, r0.fr, r0.md, ls⟩, ⟨hr0.wd, hr0.fr, hr0.md, ln, q2⟩, D2, ?_, m2.mono (by omega)⟩
    rw [step p__law_other (by kernel_rfl) rfl rfl]
    have h0' : ¬ (way : Int) = 0 := by omega
    have h2' : ¬ (way : Int) = 2 := by omega
    generalize hR : rowE r0 = R at *
    generalize setE S = T at *
    simp -implicitDefEqProofs [p__law_other, e1, h0, h0', h2, h2', i4, e3, t4, rowE, lotsE]
end FJ.K15

set_option Elab.async false
set_option linter.all false
set_option autoImplicit false
set_option maxRecDepth 100000
/-! K15s: the law. -/
namespace FJ.K15
open PySem FJ
theorem law_begun_ok (k : Nat) (ns : List Int) (hl : ns.length ≤ 64) : ∃ D, Fn (k + 1) (w "_law_begun") [.scr ns] = .ok (.ow D) [.scr ns] ∧ MOk 0 D := by
  obtain ⟨r', e1, s, x, rfl⟩ := for_inv (fun (n : Int) => .int n) (forB (Fn k) 20000 (.nm 2) b__law_begun) (fun rest r' => ∃ (s : Int) (x : Slot), r' = [.scr ns, .fz (.int s), x]) (fun n rest r' hI => by
    obtain ⟨s, x, rfl⟩ := hI
    refine ⟨[.scr ns, .fz (.int ((s * 69621 + n % 2147483629 + 7) % 2147483647)), .fz (.int n)], ?_, _, _, rfl⟩
    simp -implicitDefEqProofs [forB, b__law_begun]) (l := ns) (r := [.scr ns, .fz (.int 11), .un]) ⟨11, _, rfl⟩
  refine ⟨mD (ns.filter fun n => decide ((10 : Int) ^ 18 ≤ n)) s 0, ?_, ⟨_, s, 0, rfl, Nat.le_trans (List.length_filter_le ..) hl, Nat.le_refl _⟩⟩
  rw [step p__law_begun (by kernel_rfl) rfl rfl]
  have pw : binD .pow (.int 10) (.int 18) = some (.d (.int ((10 : Int) ^ 18))) := by
    rw [binD_pow]
    rfl
  generalize (10 : Int) ^ 18 = T at *
  simp -implicitDefEqProofs [p__law_begun, e1]
  rw [lc_filt (Fn k) ns (fun n => .int n) (fun n => .int n) (fun n => decide (T ≤ n)) (by simp; rfl) (by rfl) (fun n hn => ⟨_, by simp [-binD_pow, pw]; rfl, by rfl⟩) (by rfl) (by simp; omega)]
  simp -implicitDefEqProofs [flatKey, dput, mD]
theorem below_trans {S : Setup} {a b c : Row} (ha : RowOk S a) (hb : RowOk S b) (hc : RowOk S c) (h : belowB a b = true) (h' : belowB b c = true) : belowB a c = true :=
  (below_iff ha.s hc.s).mpr (((below_iff ha.s hb.s).mp h).trans ((below_iff hb.s hc.s).mp h'))
theorem below_self {S : Setup} {a : Row} (ha : RowOk S a) : belowB a a = true := (below_iff ha.s ha.s).mpr Below.refl
section
variable {S : Setup} (hS : SetOk S) {rs : List Row} (hR : ∀ r ∈ rs, RowOk S r) (hn : rs.length ≤ 10) (k : Nat)
include hS hR
theorem inner1 (s0 s1 s2 s4 s8 s9 s10 x : Slot) {a : Row} (ha : RowOk S a) : ∃ y, forR (forB (Fn (k + 11)) 20000 (.nm 7) b_law) (rs.map rowE) [s0, s1, s2, .fz (setE S), s4, .fz (.list (rs.map rowE)), .fz (rowE a), x, s8, s9, s10] = .ok .next [s0, s1, s2, .fz (setE S), s4, .fz (.list (rs.map rowE)), .fz (rowE a), y, s8, s9, s10] := by
  obtain ⟨r', e1, y, _, rfl⟩ := for_inv rowE (forB (Fn (k + 11)) 20000 (.nm 7) b_law) (fun rest r' => ∃ y, (∀ b ∈ rest, RowOk S b) ∧ r' = [s0, s1, s2, .fz (setE S), s4, .fz (.list (rs.map rowE)), .fz (rowE a), y, s8, s9, s10]) (fun b rest r' hI => by
    obtain ⟨y, q, rfl⟩ := hI
    have e := law_right_ok hS ha (q b (List.mem_cons_self ..)) k
    refine ⟨[s0, s1, s2, .fz (setE S), s4, .fz (.list (rs.map rowE)), .fz (rowE a), .fz (rowE b), s8, s9, s10], ?_, _, fun c hc => q c (List.mem_cons_of_mem _ hc), rfl⟩
    simp -implicitDefEqProofs [forB, b_law, e]) (l := rs) (r := [s0, s1, s2, .fz (setE S), s4, .fz (.list (rs.map rowE)), .fz (rowE a), x, s8, s9, s10]) ⟨x, hR, rfl⟩
  exact ⟨y, e1⟩
theorem outer1 (s0 s1 s2 s4 s8 s9 s10 x6 x7 : Slot) : ∃ y6 y7, forR (forB (Fn (k + 11)) 20000 (.nm 6) b_law2) (rs.map rowE) [s0, s1, s2, .fz (setE S), s4, .fz (.list (rs.map rowE)), x6, x7, s8, s9, s10] = .ok .next [s0, s1, s2, .fz (setE S), s4, .fz (.list (rs.map rowE)), y6, y7, s8, s9, s10] := by
  obtain ⟨r', e1, y6, y7, _, rfl⟩ := for_inv rowE (forB (Fn (k + 11)) 20000 (.nm 6) b_law2) (fun rest r' => ∃ y6 y7, (∀ b ∈ rest, RowOk S b) ∧ r' = [s0, s1, s2, .fz (setE S), s4, .fz (.list (rs.map rowE)), y6, y7, s8, s9, s10]) (fun a rest r' hI => by
    obtain ⟨y6, y7, q, rfl⟩ := hI
    have ha := q a (List.mem_cons_self ..)
    have e := is_under_ok (k + 2) S hS a a ha ha
    rw [below_self ha] at e
    obtain ⟨y, e2⟩ := inner1 hS hR k s0 s1 s2 s4 s8 s9 s10 y7 ha
    refine ⟨[s0, s1, s2, .fz (setE S), s4, .fz (.list (rs.map rowE)), .fz (rowE a), y, s8, s9, s10], ?_, _, _, fun c hc => q c (List.mem_cons_of_mem _ hc), rfl⟩
    simp -implicitDefEqProofs [forB, b_law2, e, e2]) (l := rs) (r := [s0, s1, s2, .fz (setE S), s4, .fz (.list (rs.map rowE)), x6, x7, s8, s9, s10]) ⟨x6, x7, hR, rfl⟩
  exact ⟨y6, y7, e1⟩
include hn
theorem inner2 (s0 s1 s2 s4 s9 x7 x8 x10 : Slot) {a : Row} (ha : RowOk S a) : ∃ y7 y8, forR (forB (Fn (k + 11)) 20000 (.nm 7) b_law3) (rs.map rowE) [s0, s1, s2, .fz (setE S), s4, .fz (.list (rs.map rowE)), .fz (rowE a), x7, x8, s9, x10] = .ok .next [s0, s1, s2, .fz (setE S), s4, .fz (.list (rs.map rowE)), .fz (rowE a), y7, y8, s9, x10] := by
  obtain ⟨r', e1, y7, y8, _, rfl⟩ := for_inv rowE (forB (Fn (k + 11)) 20000 (.nm 7) b_law3) (fun rest r' => ∃ y7 y8, (∀ b ∈ rest, RowOk S b) ∧ r' = [s0, s1, s2, .fz (setE S), s4, .fz (.list (rs.map rowE)), .fz (rowE a), y7, y8, s9, x10]) (fun b rest r' hI => by
    obtain ⟨y7, y8, q, rfl⟩ := hI
    have hb := q b (List.mem_cons_self ..)
    have e := is_under_ok (k + 2) S hS a b ha hb
    have hz : rs.length ≤ sizeLine := by simp; omega
    have f1 : den (Fn (k + 11)) c_law3 [s0, s1, s2, .fz (setE S), s4, .fz (.list (rs.map rowE)), .fz (rowE a), .fz (rowE b), y8, s9, x10] = .ok (.fresh (.list ((rs.filter fun c => belowB a b && belowB b c).map rowE))) [s0, s1, s2, .fz (setE S), s4, .fz (.list (rs.map rowE)), .fz (rowE a), .fz (rowE b), y8, s9, x10] := by
      unfold c_law3
      refine lc_filt (Fn (k + 11)) rs rowE rowE (fun c => belowB a b && belowB b c) (W := [s0, s1, s2, .fz (setE S), s4, .fz (.list (rs.map rowE)), .fz (rowE a), .fz (rowE b), y8, s9, .un]) (by simp) rfl (fun c hc => ⟨[s0, s1, s2, .fz (setE S), s4, .fz (.list (rs.map rowE)), .fz (rowE a), .fz (rowE b), y8, s9, .fz (rowE c)], ?_, rfl⟩) rfl hz
      have e' := is_under_ok (k + 2) S hS b c hb (hR c hc)
      cases h1 : belowB a b
      · rw [h1] at e
        simp -implicitDefEqProofs [e]
      · rw [h1] at e
        simp -implicitDefEqProofs [e, e']
    have hz2 : (rs.filter fun c => belowB a b && belowB b c).length ≤ sizeLine := Nat.le_trans (List.length_filter_le ..) hz
    have f2 : den (Fn (k + 11)) c_law4 [s0, s1, s2, .fz (setE S), s4, .fz (.list (rs.map rowE)), .fz (rowE a), .fz (rowE b), .ow (.list ((rs.filter fun c => belowB a b && belowB b c).map rowE)), s9, x10] = .ok (.fresh (.list (((rs.filter fun c => belowB a b && belowB b c).filter fun _ => false).map rowE))) [s0, s1, s2, .fz (setE S), s4, .fz (.list (rs.map rowE)), .fz (rowE a), .fz (rowE b), .fz (.list ((rs.filter fun c => belowB a b && belowB b c).map rowE)), s9, x10] := by
      unfold c_law4
      refine lc_filt (Fn (k + 11)) (rs.filter fun c => belowB a b && belowB b c) rowE rowE (fun _ => false) (W := [s0, s1, s2, .fz (setE S), s4, .fz (.list (rs.map rowE)), .fz (rowE a), .fz (rowE b), .fz (.list ((rs.filter fun c => belowB a b && belowB b c).map rowE)), s9, .un]) (by simp) rfl (fun c hc => ⟨[s0, s1, s2, .fz (setE S), s4, .fz (.list (rs.map rowE)), .fz (rowE a), .fz (rowE b), .fz (.list ((rs.filter fun c => belowB a b && belowB b c).map rowE)), s9, .fz (rowE c)], ?_, rfl⟩) rfl hz2
      obtain ⟨hc1, hc2⟩ := List.mem_filter.mp hc
      simp only [Bool.and_eq_true] at hc2
      have e' := is_under_ok (k + 2) S hS a c ha (hR c hc1)
      rw [below_trans ha hb (hR c hc1) hc2.1 hc2.2] at e'
      generalize (rs.filter fun c => belowB a b && belowB b c).map rowE = far
      simp -implicitDefEqProofs [e']
    rw [filter_no, List.map_nil] at f2
    refine ⟨[s0, s1, s2, .fz (setE S), s4, .fz (.list (rs.map rowE)), .fz (rowE a), .fz (rowE b), .fz (.list ((rs.filter fun c => belowB a b && belowB b c).map rowE)), s9, x10], ?_, _, _, fun c hc => q c (List.mem_cons_of_mem _ hc), rfl⟩
    generalize (rs.filter fun c => belowB a b && belowB b c).map rowE = far at *
    simp -implicitDefEqProofs [forB, b_law3, f1, f2]) (l := rs) (r := [s0, s1, s2, .fz (setE S), s4, .fz (.list (rs.map rowE)), .fz (rowE a), x7, x8, s9, x10]) ⟨x7, x8, hR, rfl⟩
  exact ⟨y7, y8, e1⟩
theorem outer2 (s0 s1 s2 s4 s9 x6 x7 x8 x10 : Slot) : ∃ y6 y7 y8, forR (forB (Fn (k + 11)) 20000 (.nm 6) b_law4) (rs.map rowE) [s0, s1, s2, .fz (setE S), s4, .fz (.list (rs.map rowE)), x6, x7, x8, s9, x10] = .ok .next [s0, s1, s2, .fz (setE S), s4, .fz (.list (rs.map rowE)), y6, y7, y8, s9, x10] := by
  obtain ⟨r', e1, y6, y7, y8, _, rfl⟩ := for_inv rowE (forB (Fn (k + 11)) 20000 (.nm 6) b_law4) (fun rest r' => ∃ y6 y7 y8, (∀ b ∈ rest, RowOk S b) ∧ r' = [s0, s1, s2, .fz (setE S), s4, .fz (.list (rs.map rowE)), y6, y7, y8, s9, x10]) (fun a rest r' hI => by
    obtain ⟨y6, y7, y8, q, rfl⟩ := hI
    have ha := q a (List.mem_cons_self ..)
    obtain ⟨z7, z8, e2⟩ := inner2 hS hR hn k s0 s1 s2 s4 s9 y7 y8 x10 ha
    refine ⟨[s0, s1, s2, .fz (setE S), s4, .fz (.list (rs.map rowE)), .fz (rowE a), z7, z8, s9, x10], ?_, _, _, _, fun c hc => q c (List.mem_cons_of_mem _ hc), rfl⟩
    simp -implicitDefEqProofs [forB, b_law4, e2]) (l := rs) (r := [s0, s1, s2, .fz (setE S), s4, .fz (.list (rs.map rowE)), x6, x7, x8, s9, x10]) ⟨x6, x7, x8, hR, rfl⟩
  exact ⟨y6, y7, y8, e1⟩
end
end FJ.K15

set_option Elab.async false
set_option linter.all false
set_option autoImplicit false
set_option maxRecDepth 100000
/-! K15t: the law answers True. -/
namespace FJ.K15
open PySem FJ
theorem turn_ok (k : Nat) (ns : List Int) {D : PyData} {b : Nat} (hb : b ≤ 50000) (hD : MOk b D) (t : Nat) (x2 x3 x4 x5 x6 x7 x8 x9 x10 : Slot) : ∃ (D' : PyData) (y3 y4 y5 y6 y7 y8 y9 y10 : Slot), MOk (b + 4000) D' ∧
    forB (Fn (k + 11)) 20000 (.nm 2) b_law5 (.int t) [.scr ns, .ow D, x2, x3, x4, x5, x6, x7, x8, x9, x10] = .ok .next [.scr ns, .ow D', .fz (.int t), y3, y4, y5, y6, y7, y8, y9, y10] := by
  obtain ⟨S, hS, D1, e1, m1⟩ := law_setup_ok (k + 7) hb hD
  obtain ⟨r0, hr0, hm0, D2, e2, m2⟩ := law_some_row_ok (k + 7) hS (by omega) m1
  obtain ⟨ys, rr, e3, ⟨D3, z9, rfl, m3⟩, l3, q3⟩ := lc_inv (Fn (k + 11)) (own := [9]) (e := .fz (.call (w "_law_other") (.cons (.pk 1) (.cons (.pk 3) (.cons (.pk 4) .nil))))) (t := .nm 9) (it := .rng (.cst (.int 4)))
    (r := [.scr ns, .ow D2, .fz (.int t), .fz (setE S), .fz (rowE r0), x5, x6, x7, x8, x9, x10]) (r1 := [.scr ns, .ow D2, .fz (.int t), .fz (setE S), .fz (rowE r0), x5, x6, x7, x8, x9, x10]) (xs := (List.range 4).map fun (k : Nat) => .int k)
    (fun n r => ∃ D x, r = [.scr ns, .ow D, .fz (.int t), .fz (setE S), .fz (rowE r0), x5, x6, x7, x8, x, x10] ∧ MOk (b + 2200 + 300 * n) D) (fun y => ∃ r, RowT S r ∧ y = rowE r)
    (by simp -implicitDefEqProofs only [denI_rng, den_cst, datE_ok, rgV_i _ 4 4 rfl (by omega)])
    ⟨D2, _, rfl, m2.mono (by omega)⟩
    (fun x hx n r2 hn hI => by
      obtain ⟨D3, z, rfl, m3⟩ := hI
      simp at hn
      obtain ⟨r, hr, D4, e4, m4⟩ := law_other_ok (k + 6) hS (by omega) m3 hr0 hm0
      refine ⟨rowE r, [.scr ns, .ow D4, .fz (.int t), .fz (setE S), .fz (rowE r0), x5, x6, x7, x8, .fz x, x10], ?_, ⟨D4, _, rfl, m4.mono (by omega)⟩, r, hr, rfl⟩
      generalize setE S = T at *
      generalize rowE r0 = R at *
      generalize rowE r = R' at *
      simp -implicitDefEqProofs [e4]) rfl (by simp)
  obtain ⟨os, rfl, hos⟩ := unmap rowE (fun r => RowT S r) ys q3
  simp at l3 m3 e3
  have hT : ∀ r ∈ r0 :: os, RowT S r := fun r hr => by
    rcases List.mem_cons.mp hr with rfl | h
    · exact hr0
    · exact hos r h
  have f2 : den (Fn (k + 11)) c_law2 [.scr ns, .ow D3, .fz (.int t), .fz (setE S), .fz (rowE r0), .ow (.list ((r0 :: os).map rowE)), x6, x7, x8, x9, x10] = .ok (.fresh (.list (((r0 :: os).filter rowB).map rowE))) [.scr ns, .ow D3, .fz (.int t), .fz (setE S), .fz (rowE r0), .fz (.list ((r0 :: os).map rowE)), x6, x7, x8, x9, x10] := by
    unfold c_law2
    refine lc_filt (Fn (k + 11)) (r0 :: os) rowE rowE rowB (W := [.scr ns, .ow D3, .fz (.int t), .fz (setE S), .fz (rowE r0), .fz (.list ((r0 :: os).map rowE)), .un, x7, x8, x9, x10]) (by simp) rfl (fun c hc => ⟨[.scr ns, .ow D3, .fz (.int t), .fz (setE S), .fz (rowE r0), .fz (.list ((r0 :: os).map rowE)), .fz (rowE c), x7, x8, x9, x10], ?_, rfl⟩) rfl (by simp; omega)
    have e := law_is_row_ok hS (hT c hc) (k + 7)
    generalize (r0 :: os).map rowE = L
    simp -implicitDefEqProofs [e]
  have hR : ∀ r ∈ (r0 :: os).filter rowB, RowOk S r := fun r hr => by
    obtain ⟨h1, h2⟩ := List.mem_filter.mp hr
    exact rowB_iff (hT r h1) h2
  have hn : ((r0 :: os).filter rowB).length ≤ 10 := by
    have := List.length_filter_le rowB (r0 :: os)
    simp at this ⊢
    omega
  obtain ⟨y6, y7, g1⟩ := outer1 hS hR k (.scr ns) (.ow D3) (.fz (.int t)) (.fz (rowE r0)) x8 x9 x10 x6 x7
  obtain ⟨z6, z7, z8, g2⟩ := outer2 hS hR hn k (.scr ns) (.ow D3) (.fz (.int t)) (.fz (rowE r0)) x9 y6 y7 x8 x10
  refine ⟨D3, .fz (setE S), .fz (rowE r0), .fz (.list (((r0 :: os).filter rowB).map rowE)), z6, z7, z8, x9, x10, m3.mono (by omega), ?_⟩
  have cm : rowE r0 :: os.map rowE = (r0 :: os).map rowE := rfl
  have ln : os.length + 1 ≤ 16777216 := by omega
  have ln2 : 1 + os.length ≤ 16777216 := by omega
  unfold c_law2 at f2
  generalize hL : (r0 :: os).map rowE = L at *
  generalize ((r0 :: os).filter rowB).map rowE = F at *
  have f3 : den (Fn (k + 11)) c_law [.scr ns, .ow D2, .fz (.int t), .fz (setE S), .fz (rowE r0), x5, x6, x7, x8, x9, x10] = .ok (.fresh (.list (os.map rowE))) [.scr ns, .ow D3, .fz (.int t), .fz (setE S), .fz (rowE r0), x5, x6, x7, x8, x9, x10] := e3
  generalize rowE r0 = R0 at *
  generalize setE S = T at *
  have f2' : den (Fn (k + 11)) c_law2 [.scr ns, .ow D3, .fz (.int t), .fz T, .fz R0, .ow (.list L), x6, x7, x8, x9, x10] = .ok (.fresh (.list F)) [.scr ns, .ow D3, .fz (.int t), .fz T, .fz R0, .fz (.list L), x6, x7, x8, x9, x10] := f2
  simp -implicitDefEqProofs [forB, b_law5, e1, e2, f3, ln, ln2, cm, f2', g1, g2]
theorem law_ok (k : Nat) (ns : List Int) (hl : ns.length ≤ 64) : Fn (k + 12) (w "law") [.scr ns] = .ok (.fz (.bool true)) [.scr ns] := by
  obtain ⟨D, e1, m1⟩ := law_begun_ok (k + 10) ns hl
  have hi : (4 : Int) + (if (ns.length : Int) < 8 then (ns.length : Int) else 8) = ((4 + (if ns.length < 8 then ns.length else 8) : Nat) : Int) := by
    by_cases h : ns.length < 8
    · rw [if_pos (by omega), if_pos h]; omega
    · rw [if_neg (by omega), if_neg h]; rfl
  have hi12 : 4 + (if ns.length < 8 then ns.length else 8) ≤ 12 := by split <;> omega
  generalize 4 + (if ns.length < 8 then ns.length else 8) = n at *
  obtain ⟨r', e2, D', y2, y3, y4, y5, y6, y7, y8, y9, y10, _, _, rfl⟩ := for_inv (fun (k : Nat) => .int k) (forB (Fn (k + 11)) 20000 (.nm 2) b_law5) (fun rest r' => ∃ (D' : PyData) (y2 y3 y4 y5 y6 y7 y8 y9 y10 : Slot), rest.length ≤ 12 ∧ MOk (48000 - 4000 * rest.length) D' ∧ r' = [.scr ns, .ow D', y2, y3, y4, y5, y6, y7, y8, y9, y10]) (fun t rest r' hI => by
    obtain ⟨D', y2, y3, y4, y5, y6, y7, y8, y9, y10, q1, q2, rfl⟩ := hI
    simp only [List.length_cons] at q1 q2
    obtain ⟨D2, z3, z4, z5, z6, z7, z8, z9, z10, q3, q4⟩ := turn_ok k ns (by omega) q2 t y2 y3 y4 y5 y6 y7 y8 y9 y10
    exact ⟨_, q4, D2, _, _, _, _, _, _, _, _, _, by omega, q3.mono (by omega), rfl⟩) (l := List.range n) (r := [.scr ns, .ow D, .un, .un, .un, .un, .un, .un, .un, .un, .un]) ⟨D, _, _, _, _, _, _, _, _, _, by simpa using hi12, m1.mono (by omega), rfl⟩
  rw [step p_law (by kernel_rfl) rfl rfl]
  have hrg : ∀ r, rgV r (.int ((4 : Int) + (if (ns.length : Int) < 8 then (ns.length : Int) else 8))) = .ok ((List.range n).map fun (k : Nat) => .int k) r := fun r => rgV_i r _ n hi (by omega)
  simp -implicitDefEqProofs [p_law, e1]
  rw [hrg]
  simp -implicitDefEqProofs [e2]
end FJ.K15

set_option Elab.async false
set_option linter.all false
set_option autoImplicit false
set_option maxRecDepth 100000
set_option maxHeartbeats 0
open PySem PySem.W PySem.Calls PyProof.Rows
theorem PySem.Challenge.cw_frontjobs_k15_whole_rows_under_rows_holds : PySem.Challenge.rw_frontjobs_k15_whole_rows_under_rows.Holds := by
  w_on; o_law
  refine HandSHeadRun.head_any (r := OpenLaw.row PySem.Challenge.rw_frontjobs_k15_whole_rows_under_rows) (q := view (OpenLaw.row PySem.Challenge.rw_frontjobs_k15_whole_rows_under_rows).prog [102]) (H := FJ.K15.hk) (ob := FJ.K15.ob) (M := 20000) (loose := FJ.K15.names) (d := HandSHeadRun.topDef (OpenLaw.row PySem.Challenge.rw_frontjobs_k15_whole_rows_under_rows).prog 102) (kwd := []) FJ.K15.ob_eq
    (by kernel_rfl) (fun s => by kernel_rfl) FJ.K15.run (by kernel_rfl) (by kernel_rfl) (by kernel_rfl) (by rfl) (by first | assumption | decide +kernel) (by decide +kernel) ⟨rfl, rfl, rfl, rfl, rfl, by decide +kernel⟩ ?hw ?hc
  case hw => w_witness2
  case hc =>
    refine L2.walk_ofE (l := PySem.Challenge.rw_frontjobs_k15_whole_rows_under_rows) (n := 63) (k := 20) (x := "script") (CX := L2.CX0) rfl (by decide) (by kernel_rfl) ⟨rfl, by decide, by decide⟩ ?F (fun _ _ _ _ z => z)
    intro w mg fa h Y Gm hmg0
    obtain ⟨K, KX, c⟩ := Y
    have hmg : mg (FJ.K15.w "law") = some (.ref fa) := by
      have e : (HandSHeadRun.topDef (OpenLaw.row PySem.Challenge.rw_frontjobs_k15_whole_rows_under_rows).prog 102).name = FJ.K15.w "law" := by kernel_rfl
      rw [← e]
      exact hmg0
    obtain ⟨fd, hb, hF⟩ := FJ.K15.facts (P := (PySem.Challenge.rw_frontjobs_k15_whole_rows_under_rows).prog) (w' := w) KX Gm hmg c
    exact ⟨K, fd, FJ.spF (PySem.Challenge.rw_frontjobs_k15_whole_rows_under_rows).prog w K (FJ.fun_ FJ.K15.pg 20000 20) (FJ.K15.w "law"), KX, hb, fun H a ns hl hO hS => FJ.law_sp hO hS (FJ.K15.law_ok 8 ns (by omega)) rfl, hF⟩

