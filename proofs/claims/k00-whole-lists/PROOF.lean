import PyProof.Rows.All
import Wide.All
import OpenK.AllK
import Wide.FinOn
import HandS.ForMost
import HandS.Exc
import HandS.ExcOwn
import HandS.WordsExc
import HandS.Lambda
import HandS.TupAny
import HandS.TupMul
import HandS.Wide
import HandS.Style
import HandS.IsInst
import HandS.SortInts
import HandS.Walk
import HandS.Zip
import KE.GoesMore
import KE.GoesEnum
import KE.KExcSuper
import HandS.ForSpec
import HandS.Text
import HandS.HeadWalk
import HandS.EndTab
import KE.OsGo
import PySem.Challenge.RW_spinround_k00_whole_lists
set_option Elab.async false
set_option linter.all false
set_option maxRecDepth 100000
/-! The engine, part 1: plain data, a small core language, and what a text of it computes (no heap, no machine). -/
namespace SR
open PySem
abbrev D := PyData
/-- what a slot holds: nothing known, plain data, an own list (of this def), a lent list (of the caller), the script (read only) -/
inductive SV where
  | no | val (d : D) | own (l : List D) | lent (l : List D) | scr (l : List D)
/-- kinds of parameters -/
inductive Pk where
  | dat | lent | scr
  deriving DecidableEq
abbrev Sl := List SV
/-- a value met in an expression: plain data, the list in a slot, a new list -/
inductive W where
  | d (x : D) | s (i : Nat) | f (l : List D)
inductive R (α : Type) where
  | ok (a : α) (r : Sl) | err (c : Nat) (p : D) (r : Sl) | bad
inductive Ret where
  | dat (d : D) | frs (l : List D)
inductive FR where
  | ok (r : Ret) (as : Sl) | err (c : Nat) (p : D) (as : Sl) | bad
abbrev Fn := Sl → FR
/-- a def as its callers see it: name, parameters, which of them are lent lists, level, what it computes -/
structure FI where
  name : Str
  ps : List Str
  lp : List Pk
  kws : List (Nat × List Str × List Nat)
  lv : Nat
  fn : Fn
inductive SR where
  | nx (r : Sl) | bk (r : Sl) | ct (r : Sl) | rt (v : Ret) (r : Sl) | err (c : Nat) (p : D) (r : Sl) | bad
def R.bind {α β : Type} (x : R α) (f : α → Sl → R β) : R β := match x with
  | .ok a r => f a r
  | .err c p r => .err c p r
  | .bad => .bad
def R.calm {α : Type} (x : R α) : R α := match x with
  | .ok a r => .ok a r
  | _ => .bad
def R.sr {α : Type} (x : R α) (f : α → Sl → SR) : SR := match x with
  | .ok a r => f a r
  | .err c p r => .err c p r
  | .bad => .bad
/-! ### plain data -/
mutual
/-- no deeper than n, no dict, texts that can be laid -/
def flat : Nat → D → Bool
  | _, .none => true
  | _, .bool _ => true
  | _, .int _ => true
  | _, .str x => PyData.strOk x
  | 0, _ => false
  | n + 1, .list xs => flatL n xs
  | n + 1, .tuple xs => flatL n xs
  | _, .dict _ => false
def flatL : Nat → List D → Bool
  | _, [] => true
  | n, x :: xs => flat n x && flatL n xs
end
/-- a scalar -/
def scal : D → Bool
  | .none => true
  | .bool _ => true
  | .int _ => true
  | .str _ => true
  | _ => false
def itemsD : D → Option (List D)
  | .list l => some l
  | .tuple l => some l
  | _ => none
def cutL (xs : List D) (lo hi : Option Int) : List D := (xs.drop (HT.sIx xs.length 0 lo)).take (HT.sIx xs.length xs.length hi - HT.sIx xs.length 0 lo)
def addD : D → D → Option W
  | .int i, .int j => some (.d (.int (i + j)))
  | .list a, .list b => if a.length + b.length ≤ sizeLine then some (.f (a ++ b)) else none
  | .tuple a, .tuple b => if a.length + b.length ≤ sizeLine then some (.d (.tuple (a ++ b))) else none
  | .str a, .str b => if a.length + b.length ≤ sizeLine then some (.d (.str (a ++ b))) else none
  | _, _ => none
def subD : D → D → Option W
  | .int i, .int j => some (.d (.int (i - j)))
  | _, _ => none
def mulD : D → D → Option W
  | .int i, .int j => if i.natAbs.log2 + j.natAbs.log2 < 1000000 then some (.d (.int (i * j))) else none
  | .tuple xs, .int k => if xs ≠ [] ∧ 2 ≤ k ∧ k ≤ 1000 ∧ xs.length ≤ 1000 then some (.d (.tuple (List.replicate k.toNat xs).flatten)) else none
  | .list xs, .int k => if -(2 ^ 63) ≤ k ∧ k < 2 ^ 63 ∧ xs.length * k.toNat ≤ sizeLine then some (.f (List.replicate k.toNat xs).flatten) else none
  | _, _ => none
def fdivD : D → D → Option W
  | .int i, .int j => if 0 < j ∧ j.natAbs.log2 < 9000 then some (.d (.int (i / j))) else none
  | _, _ => none
def modD : D → D → Option W
  | .int i, .int j => if 0 < j then some (.d (.int (i % j))) else none
  | _, _ => none
def powD : D → D → Option W
  | .int i, .int j => if 0 ≤ j ∧ j ≤ 1000000 ∧ i.natAbs < 2 ^ 64 then some (.d (.int (i ^ j.toNat))) else none
  | _, _ => none
def binD : Operator → D → D → Option W
  | .Add, x, y => addD x y
  | .Sub, x, y => subD x y
  | .Mult, x, y => mulD x y
  | .FloorDiv, x, y => fdivD x y
  | .Mod, x, y => modD x y
  | .Pow, x, y => powD x y
  | _, _, _ => none
def eqD (x y : D) : Option Bool := if flat 8 x && flat 8 y then some (PyData.eqv x y) else none
def ordD (p : Int → Int → Bool) : D → D → Option Bool
  | .int i, .int j => some (p i j)
  | _, _ => none
def isD : D → D → Option Bool
  | .none, .none => some true
  | _, .none => some false
  | .bool a, .bool b => some (decide (a = b))
  | _, _ => none
def inD (x y : D) : Option Bool := match itemsD y with
  | some l => if scal x && l.all scal then some (l.any fun z => PyData.eqv z x) else none
  | none => none
def cmpD : CmpOp → D → D → Option Bool
  | .Eq, x, y => eqD x y
  | .NotEq, x, y => (eqD x y).map (!·)
  | .Lt, x, y => ordD (fun i j => decide (i < j)) x y
  | .LtE, x, y => ordD (fun i j => decide (i ≤ j)) x y
  | .Gt, x, y => ordD (fun i j => decide (j < i)) x y
  | .GtE, x, y => ordD (fun i j => decide (j ≤ i)) x y
  | .Is, x, y => isD x y
  | .IsNot, x, y => (isD x y).map (!·)
  | .In, x, y => inD x y
  | .NotIn, x, y => (inD x y).map (!·)
def idxD : D → D → Option D
  | .list l, .int i => L2.atI l i
  | .tuple l, .int i => L2.atI l i
  | _, _ => none
/-- a slice's part, if it stands there -/
def partE (b : Bool) (x : R W) (r : Sl) : R (Option Int) := if b then x.bind fun w r1 => match w with
    | .d (.int i) => .ok (some i) r1
    | _ => .bad
  else .ok none r
def slcD (x : D) (lo hi : Option Int) : Option W := match x with
  | .list l => some (.f (cutL l lo hi))
  | .tuple l => some (.d (.tuple (cutL l lo hi)))
  | _ => none
/-! ### built-in functions -/
inductive Blt where
  | len | abs | min2 | max2 | min1 | max1 | sum | all | any | tuple | list | int | sorted
  deriving DecidableEq
def intsOf : List D → Option (List Int)
  | [] => some []
  | .int i :: r => (intsOf r).map (i :: ·)
  | _ :: _ => none
def boolsOf : List D → Option (List Bool)
  | [] => some []
  | .bool i :: r => (boolsOf r).map (i :: ·)
  | _ :: _ => none
def leastOf : List Int → Option Int
  | [] => none
  | x :: r => some (r.foldl min x)
def mostOf : List Int → Option Int
  | [] => none
  | x :: r => some (r.foldl max x)
/-- insertion by ≤ -/
def insI (x : Int) : List Int → List Int
  | [] => [x]
  | y :: r => if x ≤ y then x :: y :: r else y :: insI x r
def sortI : List Int → List Int
  | [] => []
  | x :: r => insI x (sortI r)
def bltD : Blt → List D → Option W
  | .len, [x] => match x with
    | .list l => some (.d (.int l.length))
    | .tuple l => some (.d (.int l.length))
    | .str s => if s.length ≤ sizeLine then some (.d (.int s.length)) else none
    | _ => none
  | .abs, [.int i] => some (.d (.int (if i < 0 then -i else i)))
  | .min2, [.int i, .int j] => some (.d (.int (if j < i then j else i)))
  | .max2, [.int i, .int j] => some (.d (.int (if j > i then j else i)))
  | .min1, [.list l] => ((intsOf l).bind leastOf).map fun m => .d (.int m)
  | .max1, [.list l] => ((intsOf l).bind mostOf).map fun m => .d (.int m)
  | .sum, [.list l] => (intsOf l).map fun m => .d (.int m.sum)
  | .all, [.list l] => (boolsOf l).map fun m => .d (.bool (m.all id))
  | .any, [.list l] => (boolsOf l).map fun m => .d (.bool (m.any id))
  | .tuple, [x] => match x with
    | .list l => some (.d (.tuple l))
    | .tuple l => some (.d (.tuple l))
    | _ => none
  | .list, [x] => match x with
    | .list l => some (.f l)
    | .tuple l => some (.f l)
    | _ => none
  | .int, [.int i] => some (.d (.int i))
  | .int, [.bool b] => some (.d (.int (if b then 1 else 0)))
  | .sorted, [.list l] => (intsOf l).map fun m => .f ((sortI m).map .int)
  | _, _ => none
/-- the classes asked for by isinstance -/
inductive Ty where
  | int | bool | tuple | list | str
  deriving DecidableEq
def isaD : Ty → D → Bool
  | .int, .int _ => true
  | .int, .bool _ => true
  | .bool, .bool _ => true
  | .tuple, .tuple _ => true
  | .list, .list _ => true
  | .str, .str _ => true
  | _, _ => false
/-! ### the core language -/
mutual
/-- targets -/
inductive Tg where
  | nm (i : Nat) | tp (ts : Tgs)
inductive Tgs where
  | nil | cons (t : Tg) (ts : Tgs)
end
mutual
inductive CE where
  | var (i : Nat)
  | lit (d : D)
  | glob (x : Str) (d : D)
  | tup (es : CEs)
  | lst (es : CEs)
  | bin (o : Operator) (a b : CE)
  | neg (a : CE)
  | cmp (o : CmpOp) (a b : CE)
  | chain (o o' : CmpOp) (a b c : CE)
  | andE (a b : CE)
  | orE (a b : CE)
  | notE (a : CE)
  | ite (c a b : CE)
  | idx (a i : CE)
  | slc (a : CE) (hl : Bool) (lo : CE) (hh : Bool) (hi : CE)
  | call (j : Nat) (es : CEs)
  | callk (j : Nat) (es : CEs) (kn : List Str) (kes : CEs) (perm : List Nat)
  | blt (b : Blt) (es : CEs)
  | isa (t : Ty) (a : CE)
  | comp (own : List (Str × Nat)) (it : CI) (tg : Tg) (hc : Bool) (c : CE) (elt : CE)
  | refused (e : CE)
inductive CEs where
  | nil | cons (e : CE) (es : CEs)
/-- what is walked -/
inductive CI where
  | seq (e : CE)
  | rng1 (a : CE)
  | rng2 (a b : CE)
  | enum (e : CE)
  | zip (a b : CE)
end
mutual
inductive CS where
  | set (i : Nat) (own : Bool) (e : CE)
  | asg (tg : Tg) (e : CE)
  | par2 (i : Nat) (oi : Bool) (j : Nat) (oj : Bool) (a b : CE)
  | par3 (i j k : Nat) (a b c : CE)
  | app (i : Nat) (e : CE)
  | ext (i : Nat) (e : CE)
  | put (i : Nat) (k e : CE)
  | aug (i : Nat) (o : Operator) (e : CE)
  | expr (e : CE)
  | ret (e : CE)
  | ife (c : CE) (a b : CSs)
  | forS (it : CI) (tg : Tg) (body : CSs)
  | rais (c : Nat) (e : CE)
  | brk | cnt | pass
inductive CSs where
  | nil | cons (s : CS) (ss : CSs)
end
/-! ### values by the slots -/
def fixW (r : Sl) : W → Option D
  | .d x => some x
  | .f l => some (.list l)
  | .s i => match r[i]? with
    | some (.own l) => some (.list l)
    | some (.lent l) => some (.list l)
    | some (.scr l) => some (.list l)
    | _ => none
/-- .. without the script -/
def fixX (r : Sl) : W → Option D
  | .d x => some x
  | .f l => some (.list l)
  | .s i => match r[i]? with
    | some (.own l) => some (.list l)
    | some (.lent l) => some (.list l)
    | _ => none
def fixAll (r : Sl) : List W → Option (List D)
  | [] => some []
  | w :: ws => match fixW r w, fixAll r ws with
    | some x, some xs => some (x :: xs)
    | _, _ => none
/-- a value that is kept by something: an own list is no longer written from then on -/
def keepW (r : Sl) : W → Option (D × Sl)
  | .d x => some (x, r)
  | .f l => some (.list l, r)
  | .s i => match r[i]? with
    | some (.own l) => some (.list l, r.set i (.val (.list l)))
    | _ => none
def keepAll (r : Sl) : List W → Option (List D × Sl)
  | [] => some ([], r)
  | w :: ws => match keepW r w with
    | some (x, r1) => match keepAll r1 ws with
      | some (xs, r2) => some (x :: xs, r2)
      | none => none
    | none => none
/-- a new list is settled -/
def stl : W → W
  | .f l => .d (.list l)
  | w => w
def okW (o : Option W) (r : Sl) : R W := match o with
  | some w => .ok w r
  | none => .bad
def okD (o : Option D) (r : Sl) : R W := match o with
  | some x => .ok (.d x) r
  | none => .bad
def okB (o : Option Bool) (r : Sl) : R W := match o with
  | some x => .ok (.d (.bool x)) r
  | none => .bad
def asBool : W → Option Bool
  | .d (.bool b) => some b
  | _ => none
mutual
def setTg : Tg → D → Sl → Option Sl
  | .nm i, x, r => match r[i]? with
    | some (.lent _) => none
    | some (.scr _) => none
    | some _ => some (r.set i (.val x))
    | none => none
  | .tp ts, x, r => match x with
    | .tuple l => setTgs ts l r
    | _ => none
def setTgs : Tgs → List D → Sl → Option Sl
  | .nil, [], r => some r
  | .cons t ts, x :: xs, r => match setTg t x r with
    | some r1 => setTgs ts xs r1
    | none => none
  | _, _, _ => none
end
/-- the slots of a block's own names -/
def wipeS (r : Sl) : List Nat → Sl
  | [] => r
  | v :: vs => (wipeS r vs).set v .no
/-- behind the block the names outside are as they were -/
def backS (r0 r : Sl) : List Nat → Sl
  | [] => r
  | v :: vs => (backS r0 r vs).set v (match r0[v]? with
    | some (.val d) => .val d
    | _ => .no)
/-- pairs of an enumerated list -/
def enumD : Int → List D → List D
  | _, [] => []
  | n, x :: xs => .tuple [.int n, x] :: enumD (n + 1) xs
def zipD : List D → List D → List D
  | x :: xs, y :: ys => .tuple [x, y] :: zipD xs ys
  | _, _ => []
def rangeD (lo : Int) : Nat → List D
  | 0 => []
  | n + 1 => .int lo :: rangeD (lo + 1) n
/-- the turns of a comprehension -/
def compL (own : List Nat) (set : D → Sl → Option Sl) (c : Sl → R Bool) (e : Sl → R W) : List D → List D → Sl → R (List D)
  | [], acc, r => .ok acc r
  | x :: xs, acc, r => match set x r with
    | none => .bad
    | some r1 => (c r1).bind fun b r2 => if b then (e r2).bind fun w r3 => match keepW r3 w with
        | some (y, r4) => compL own set c e xs (acc ++ [y]) (wipeS r4 own)
        | none => .bad
      else compL own set c e xs acc (wipeS r2 own)
/-- arguments for a def: lent lists and plain data -/
def argW (r : Sl) (lp : Pk) (w : W) : Option (SV × Sl) := match lp, w with
  | .lent, .f l => some (.lent l, r)
  | .lent, .s i => match r[i]? with
    | some (.own l) => some (.lent l, r)
    | some (.lent l) => some (.lent l, r)
    | _ => none
  | .lent, .d _ => none
  | .scr, .s i => match r[i]? with
    | some (.scr l) => some (.scr l, r)
    | _ => none
  | .scr, _ => none
  | .dat, w => match keepW r w with
    | some (x, r1) => some (.val x, r1)
    | none => none
def argAll (r : Sl) : List Pk → List W → Option (Sl × Sl)
  | [], [] => some ([], r)
  | b :: bs, w :: ws => match argW r b w with
    | some (a, r1) => match argAll r1 bs ws with
      | some (as, r2) => some (a :: as, r2)
      | none => none
    | none => none
  | _, _ => none
/-- how many lists are lent -/
def nLent : Sl → Nat
  | [] => 0
  | .lent _ :: as => nLent as + 1
  | _ :: as => nLent as
/-- the slot whose list is lent still holds it -/
def lentIn : List W → Sl → Sl → Bool
  | w :: _, .lent _ :: _, r => match w with
    | .s i => match r[i]? with
      | some (.own _) => true
      | some (.lent _) => true
      | _ => false
    | _ => true
  | _ :: ws, _ :: as, r => lentIn ws as r
  | _, _, _ => true
/-- behind the call the lent list is as the def left it -/
def backA : List W → Sl → Sl → Sl → Sl
  | w :: _, .lent _ :: _, a :: _, r => match w with
    | .s i => match a with
      | .lent l => match r[i]? with
        | some (.own _) => r.set i (.own l)
        | some (.lent _) => r.set i (.lent l)
        | _ => r
      | _ => r.set i .no
    | _ => r
  | _ :: ws, _ :: as, _ :: bs, r => backA ws as bs r
  | _, _, _, r => r
def retW : Ret → W
  | .dat d => .d d
  | .frs l => .f l
def callF (f : FI) (ws : List W) (r : Sl) : R W := match argAll r f.lp ws with
  | none => .bad
  | some (as, r1) => if nLent as ≤ 1 ∧ lentIn ws as r1 = true then match f.fn as with
      | .ok v as' => .ok (retW v) (backA ws as as' r1)
      | .err c p as' => .err c p (backA ws as as' r1)
      | .bad => .bad
    else .bad
def permW (ws : List W) : List Nat → Option (List W)
  | [] => some []
  | i :: is => match ws[i]?, permW ws is with
    | some w, some r => some (w :: r)
    | _, _ => none
/-- the items of a kept value -/
def itmI (g : List D → List D) (r : Sl) (w : W) : R (List D) := match keepW r w with
  | some (.list l, r2) => .ok (g l) r2
  | some (.tuple l, r2) => .ok (g l) r2
  | _ => .bad
def zipI (r : Sl) (wa wb : W) : R (List D) := match keepAll r [stl wa, wb] with
  | some ([.list l, .list m], r3) => .ok (zipD l m) r3
  | some ([.tuple l, .tuple m], r3) => .ok (zipD l m) r3
  | _ => .bad
mutual
def evE (fs : List FI) : CE → Sl → R W
  | .var i, r => match r[i]? with
    | some (.val d) => .ok (.d d) r
    | some (.own _) => .ok (.s i) r
    | some (.lent _) => .ok (.s i) r
    | some (.scr _) => .ok (.s i) r
    | _ => .bad
  | .lit d, r => .ok (.d d) r
  | .glob _ d, r => .ok (.d d) r
  | .tup es, r => (evEs fs es r).bind fun ws r1 => match keepAll r1 ws with
    | some (xs, r2) => if xs.length ≤ sizeLine then .ok (.d (.tuple xs)) r2 else .bad
    | none => .bad
  | .lst es, r => (evEs fs es r).bind fun ws r1 => match keepAll r1 ws with
    | some (xs, r2) => if xs.length ≤ sizeLine then .ok (.f xs) r2 else .bad
    | none => .bad
  | .bin o a b, r => (evE fs a r).bind fun wa r1 => (evE fs b r1).bind fun wb r2 => match fixX r2 wa, fixX r2 wb with
    | some x, some y => okW (binD o x y) r2
    | _, _ => .bad
  | .neg a, r => (evE fs a r).bind fun wa r1 => match wa with
    | .d (.int i) => .ok (.d (.int (-i))) r1
    | _ => .bad
  | .cmp o a b, r => (evE fs a r).bind fun wa r1 => (evE fs b r1).bind fun wb r2 => match fixW r2 wa, fixW r2 wb with
    | some x, some y => okB (cmpD o x y) r2
    | _, _ => .bad
  | .chain o o' a b c, r => (evE fs a r).bind fun wa r1 => (evE fs b r1).bind fun wb r2 => match fixW r2 wa, fixW r2 wb with
    | some x, some y => match cmpD o x y with
      | some true => (evE fs c r2).bind fun wc r3 => match fixW r3 wb, fixW r3 wc with
        | some y', some z => okB (cmpD o' y' z) r3
        | _, _ => .bad
      | some false => .ok (.d (.bool false)) r2
      | none => .bad
    | _, _ => .bad
  | .andE a b, r => (evE fs a r).bind fun wa r1 => match asBool wa with
    | some true => evE fs b r1
    | some false => .ok (.d (.bool false)) r1
    | none => .bad
  | .orE a b, r => (evE fs a r).bind fun wa r1 => match asBool wa with
    | some true => .ok (.d (.bool true)) r1
    | some false => evE fs b r1
    | none => .bad
  | .notE a, r => (evE fs a r).bind fun wa r1 => match asBool wa with
    | some b => .ok (.d (.bool (!b))) r1
    | none => .bad
  | .ite c a b, r => (evE fs c r).bind fun wc r1 => match asBool wc with
    | some true => evE fs a r1
    | some false => evE fs b r1
    | none => .bad
  | .idx a i, r => (evE fs a r).bind fun wa r1 => (evE fs i r1).bind fun wi r2 => match fixW r2 wa, fixW r2 wi with
    | some x, some y => okD (idxD x y) r2
    | _, _ => .bad
  | .slc a hl lo hh hi, r => (evE fs a r).bind fun wa r1 => (partE hl (evE fs lo r1) r1).bind fun l r2 => (partE hh (evE fs hi r2) r2).bind fun h r3 => match fixW r3 wa with
    | some x => okW (slcD x l h) r3
    | none => .bad
  | .call j es, r => match fs[j]? with
    | some f => (evEs fs es r).bind fun ws r1 => callF f ws r1
    | none => .bad
  | .callk j es _ kes perm, r => match fs[j]? with
    | some f => (evEs fs es r).bind fun ws r1 => (evEs fs kes r1).bind fun ks r2 => match permW (ws.map stl ++ ks.map stl) perm with
      | some qs => callF f qs r2
      | none => .bad
    | none => .bad
  | .blt b es, r => (evEs fs es r).bind fun ws r1 => match fixAll r1 ws with
    | some xs => okW (bltD b xs) r1
    | none => .bad
  | .isa t a, r => (evE fs a r).bind fun wa r1 => match fixX r1 wa with
    | some x => .ok (.d (.bool (isaD t x))) r1
    | none => .bad
  | .comp own it tg hc c elt, r => (evI fs it r).bind fun xs r1 => if xs.length ≤ sizeLine then
      ((compL (own.map (·.2)) (setTg tg) (fun q => if hc then (evE fs c q).bind fun w q1 => match asBool w with | some b => .ok b q1 | none => .bad else .ok true q) (fun q => evE fs elt q) xs [] (wipeS r1 (own.map (·.2)))).calm).bind fun acc r2 => .ok (.f acc) (backS r1 r2 (own.map (·.2)))
    else .bad
  | .refused e, r => match evE fs e r with
    | .ok _ r1 => .ok (.d (.str "")) r1
    | .err 0 p r1 => .ok (.d p) r1
    | _ => .bad
def evEs (fs : List FI) : CEs → Sl → R (List W)
  | .nil, r => .ok [] r
  | .cons e .nil, r => (evE fs e r).bind fun w r1 => .ok [w] r1
  | .cons e es, r => (evE fs e r).bind fun w r1 => (evEs fs es r1).bind fun ws r2 => .ok (stl w :: ws) r2
/-- the items that are walked -/
def evI (fs : List FI) : CI → Sl → R (List D)
  | .seq e, r => (evE fs e r).bind fun w r1 => itmI (fun l => l) r1 w
  | .rng1 a, r => (evE fs a r).bind fun wa r1 => match wa with
    | .d (.int n) => if -(2 ^ 62) ≤ n ∧ n < 2 ^ 62 then .ok (rangeD 0 n.toNat) r1 else .bad
    | _ => .bad
  | .rng2 a b, r => (evE fs a r).bind fun wa r1 => (evE fs b r1).bind fun wb r2 => match wa, wb with
    | .d (.int lo), .d (.int hi) => if -(2 ^ 62) ≤ lo ∧ lo < 2 ^ 62 ∧ -(2 ^ 62) ≤ hi ∧ hi < 2 ^ 62 then .ok (rangeD lo (hi - lo).toNat) r2 else .bad
    | _, _ => .bad
  | .enum e, r => (evE fs e r).bind fun w r1 => itmI (enumD 0) r1 w
  | .zip a b, r => (evE fs a r).bind fun wa r1 => (evE fs b r1).bind fun wb r2 => zipI r2 wa wb
end
/-! ### statements -/
def setW (r : Sl) (i : Nat) (own : Bool) (w : W) : Option Sl := match r[i]? with
  | none => none
  | some (.lent _) => none
  | some (.scr _) => none
  | some _ => match own, w with
    | true, .f l => some (r.set i (.own l))
    | true, .s j => match r[j]? with
      | some (.own l) => some ((r.set j .no).set i (.own l))
      | _ => none
    | true, .d _ => none
    | false, w => match keepW r w with
      | some (x, r1) => some (r1.set i (.val x))
      | none => none
def ownS (r : Sl) (i : Nat) : Bool := match r[i]? with
  | some (.own _) => true
  | some (.lent _) => true
  | _ => false
def augI : Operator → Int → Int → Option Int
  | .Add, n, m => some (n + m)
  | .Sub, n, m => some (n - m)
  | _, _, _ => none
def augW (i : Nat) (o : Operator) (n : Int) (w : W) (r : Sl) : SR := match w with
  | .d (.int m) => (match augI o n m with
    | some z => .nx (r.set i (.val (.int z)))
    | none => .bad)
  | _ => .bad
def nos : W → Bool
  | .s _ => false
  | _ => true
def appL (r : Sl) (i : Nat) (g : List D → Option (List D)) : Option Sl := match r[i]? with
  | some (.own l) => (g l).map fun m => r.set i (.own m)
  | some (.lent l) => (g l).map fun m => r.set i (.lent m)
  | _ => none
def okS (o : Option Sl) : SR := match o with
  | some r => .nx r
  | none => .bad
/-- the turns of a for -/
def forL (set : D → Sl → Option Sl) (body : Sl → SR) : List D → Sl → SR
  | [], r => .nx r
  | x :: xs, r => match set x r with
    | none => .bad
    | some r1 => match body r1 with
      | .nx r2 => forL set body xs r2
      | .ct r2 => forL set body xs r2
      | .bk r2 => .nx r2
      | .rt v r2 => .rt v r2
      | .err c p r2 => .err c p r2
      | .bad => .bad
def retS (r : Sl) : W → SR
  | .d x => .rt (.dat x) r
  | .f l => .rt (.frs l) r
  | .s i => match r[i]? with
    | some (.own l) => .rt (.frs l) (r.set i .no)
    | _ => .bad
mutual
def exS (fs : List FI) : CS → Sl → SR
  | .set i own e, r => (evE fs e r).sr fun w r1 => okS (setW r1 i own w)
  | .asg tg e, r => (evE fs e r).sr fun w r1 => match w with
    | .d x => okS (setTg tg x r1)
    | _ => .bad
  | .par2 i oi j oj a b, r => (evE fs a r).sr fun wa r1 => (evE fs b r1).sr fun wb r2 => if nos wa && nos wb then match setW r2 i oi wa with
    | some r3 => okS (setW r3 j oj wb)
    | none => .bad
    else .bad
  | .par3 i j k a b c, r => (evEs fs (.cons a (.cons b (.cons c .nil))) r).sr fun ws r1 => match ws with
    | [.d x, .d y, .d z] => (match setW r1 i false (.d x) with
      | some r2 => (match setW r2 j false (.d y) with
        | some r3 => okS (setW r3 k false (.d z))
        | none => .bad)
      | none => .bad)
    | _ => .bad
  | .app i e, r => if ownS r i then (evE fs e r).sr fun w r1 => match keepW r1 w with
    | some (x, r2) => okS (appL r2 i fun l => if l.length < sizeLine then some (l ++ [x]) else none)
    | none => .bad
    else .bad
  | .ext i e, r => if ownS r i then (evE fs e r).sr fun w r1 => match fixX r1 w with
    | some (.list m) => okS (appL r1 i fun l => if l.length + m.length ≤ sizeLine then some (l ++ m) else none)
    | _ => .bad
    else .bad
  | .put i k e, r => (evE fs e r).sr fun w r1 => if ownS r1 i then (evE fs k r1).sr fun wk r2 => match wk with
    | .d (.int n) => (match keepW r2 w with
      | some (x, r3) => okS (appL r3 i fun l => (L2.ixN l.length n).map fun j => l.set j x)
      | none => .bad)
    | _ => .bad
    else .bad
  | .aug i o e, r => match r[i]? with
    | some (.val (.int n)) => (evE fs e r).sr fun w r1 => augW i o n w r1
    | _ => .bad
  | .expr e, r => (evE fs e r).sr fun _ r1 => .nx r1
  | .ret e, r => (evE fs e r).sr fun w r1 => retS r1 w
  | .ife c a b, r => (evE fs c r).sr fun w r1 => match asBool w with
    | some true => exSs fs a r1
    | some false => exSs fs b r1
    | none => .bad
  | .forS it tg body, r => (evI fs it r).sr fun xs r1 => forL (setTg tg) (fun q => exSs fs body q) xs r1
  | .rais c e, r => (evE fs e r).sr fun w r1 => match keepW r1 w with
    | some (x, r2) => .err c x r2
    | none => .bad
  | .brk, r => .bk r
  | .cnt, r => .ct r
  | .pass, r => .nx r
def exSs (fs : List FI) : CSs → Sl → SR
  | .nil, r => .nx r
  | .cons s ss, r => match exS fs s r with
    | .nx r1 => exSs fs ss r1
    | .bk r1 => .bk r1
    | .ct r1 => .ct r1
    | .rt v r1 => .rt v r1
    | .err c p r1 => .err c p r1
    | .bad => .bad
end
/-- what the callers see of the parameters behind the call -/
def proj : Sl → Sl → Sl
  | [], _ => []
  | a :: as, r => (match a, r.head? with
    | .lent _, some (.lent l) => .lent l
    | .val d, _ => .val d
    | .scr l, _ => .scr l
    | _, _ => .no) :: proj as r.tail
/-- the lent lists are still there -/
def keepsL : Sl → Sl → Bool
  | [], _ => true
  | .lent _ :: as, .lent _ :: r => keepsL as r
  | .lent _ :: _, _ => false
  | .own _ :: _, _ => false
  | _ :: as, r => keepsL as r.tail
def endB (as r : Sl) (v : Ret) : FR := if keepsL as r then .ok v (proj as r) else .bad
/-- a def of n slots -/
def runB (n : Nat) (fs : List FI) (body : CSs) : Fn := fun as => match exSs fs body (as ++ List.replicate (n - as.length) .no) with
  | .nx r => endB as r (.dat .none)
  | .rt v r => endB as r v
  | .err c p r => if keepsL as r then .err c p (proj as r) else .bad
  | _ => .bad
end SR
/-! The engine, part 2: how plain data lies in the abstract heap, states and steps. -/
namespace SR
open PySem PySem.Spec PyProof.Rows L2
/-! ### data in a heap -/
theorem sqT_mono {K : PySem.W.Frag} {H H' : Hp} {a : Addr} {xs : List V} (e : Same H H') (h : SqT K H a xs) : SqT K H' a xs := by
  rcases h with (h | ⟨o, h⟩) | h
  · exact .inl (.inl (e _ _ h))
  · exact .inl (.inr ⟨o, e _ _ h⟩)
  · exact .inr h
theorem sqL_mono {K : PySem.W.Frag} {H H' : Hp} {a : Addr} {xs : List V} (e : Same H H') (h : SqL K H a xs) : SqL K H' a xs := by
  rcases h with (h | ⟨o, h⟩) | h
  · exact .inl (.inl (e _ _ h))
  · exact .inl (.inr ⟨o, e _ _ h⟩)
  · exact .inr h
mutual
/-- v lies as d in H: lists are tracked (or known), tuples may be written, too -/
inductive Rp (K : PySem.W.Frag) (H : Hp) : V → D → Prop
  | non : Rp K H .non .none
  | bl (b : Bool) : Rp K H (.bl b) (.bool b)
  | int (i : Int) : Rp K H (.int i) (.int i)
  | str (x : Str) : Rp K H (.str x) (.str x)
  | lst {a : Addr} {xs : List V} {ds : List D} : H a = some (.lst xs) → RpAll K H xs ds → Rp K H (.ref a) (.list ds)
  | tup {a : Addr} {xs : List V} {ds : List D} : SqT K H a xs → RpAll K H xs ds → Rp K H (.ref a) (.tuple ds)
inductive RpAll (K : PySem.W.Frag) (H : Hp) : List V → List D → Prop
  | nil : RpAll K H [] []
  | cons {v : V} {vs : List V} {d : D} {ds : List D} : Rp K H v d → RpAll K H vs ds → RpAll K H (v :: vs) (d :: ds)
end
theorem rd_mono {H H' : Hp} {a : Addr} {u : HO} (e : Same H H') (h : Rd H a u) : Rd H' a u := by
  rcases h with h | ⟨o, h⟩
  · exact .inl (e _ _ h)
  · exact .inr ⟨o, e _ _ h⟩
mutual
theorem rp_dp {K : PySem.W.Frag} {H : Hp} : ∀ (d : D) (v : V), Rp K H v d → Dp K H v d
  | .none, _, h => by cases h; exact .non
  | .bool _, _, h => by cases h; exact .bl _
  | .int _, _, h => by cases h; exact .int _
  | .str _, _, h => by cases h; exact .str _
  | .list ds, _, h => by cases h with | lst hs ha => exact .lst (.inl (.inl hs)) (rpAll_dp ds _ ha)
  | .tuple ds, _, h => by cases h with | tup hs ha => exact .tup hs (rpAll_dp ds _ ha)
  | .dict _, _, h => by cases h
theorem rpAll_dp {K : PySem.W.Frag} {H : Hp} : ∀ (ds : List D) (vs : List V), RpAll K H vs ds → DpAll K H vs ds
  | [], _, h => by cases h; exact .nil
  | d :: ds, _, h => by cases h with | cons h1 h2 => exact .cons (rp_dp d _ h1) (rpAll_dp ds _ h2)
end
mutual
theorem rp_mono {K : PySem.W.Frag} {H H' : Hp} (e : Same H H') : ∀ (d : D) (v : V), Rp K H v d → Rp K H' v d
  | .none, _, h => by cases h; exact .non
  | .bool _, _, h => by cases h; exact .bl _
  | .int _, _, h => by cases h; exact .int _
  | .str _, _, h => by cases h; exact .str _
  | .list ds, _, h => by cases h with | lst hs ha => exact .lst (e _ _ hs) (rpAll_mono e ds _ ha)
  | .tuple ds, _, h => by cases h with | tup hs ha => exact .tup (sqT_mono e hs) (rpAll_mono e ds _ ha)
  | .dict _, _, h => by cases h
theorem rpAll_mono {K : PySem.W.Frag} {H H' : Hp} (e : Same H H') : ∀ (ds : List D) (vs : List V), RpAll K H vs ds → RpAll K H' vs ds
  | [], _, h => by cases h; exact .nil
  | d :: ds, _, h => by cases h with | cons h1 h2 => exact .cons (rp_mono e d _ h1) (rpAll_mono e ds _ h2)
end
section
variable {K : PySem.W.Frag} {F : Hp}
theorem RpAll.len : ∀ {vs : List V} {ds : List D}, RpAll K F vs ds → vs.length = ds.length
  | _, [], h => by cases h; rfl
  | _, d :: ds, h => by cases h with | cons h1 h2 => simp [RpAll.len h2]
theorem RpAll.get : ∀ {vs : List V} {ds : List D} {i : Nat} {d : D}, RpAll K F vs ds → ds[i]? = some d → ∃ v, vs[i]? = some v ∧ Rp K F v d
  | _, [], _, _, h, e => by simp at e
  | _, d :: ds, 0, _, h, e => by
    cases h with
    | cons h1 h2 =>
      simp at e
      subst e
      exact ⟨_, rfl, h1⟩
  | _, d :: ds, i + 1, _, h, e => by
    cases h with
    | cons h1 h2 =>
      obtain ⟨v, a, b⟩ := RpAll.get (i := i) h2 (by simpa using e)
      exact ⟨v, by simpa using a, b⟩
theorem RpAll.get' : ∀ {vs : List V} {ds : List D} {i : Nat} {v : V}, RpAll K F vs ds → vs[i]? = some v → ∃ d, ds[i]? = some d ∧ Rp K F v d
  | _, [], _, _, h, e => by cases h; simp at e
  | _, d :: ds, 0, _, h, e => by
    cases h with
    | cons h1 h2 =>
      simp at e
      subst e
      exact ⟨_, rfl, h1⟩
  | _, d :: ds, i + 1, _, h, e => by
    cases h with
    | cons h1 h2 =>
      obtain ⟨v, a, b⟩ := RpAll.get' (i := i) h2 (by simpa using e)
      exact ⟨v, by simpa using a, b⟩
theorem RpAll.app : ∀ {vs ws : List V} {ds es : List D}, RpAll K F vs ds → RpAll K F ws es → RpAll K F (vs ++ ws) (ds ++ es)
  | _, _, [], _, h, g => by cases h; exact g
  | _, _, d :: ds, _, h, g => by cases h with | cons h1 h2 => exact .cons h1 (RpAll.app h2 g)
theorem RpAll.drp : ∀ {vs : List V} {ds : List D} (n : Nat), RpAll K F vs ds → RpAll K F (vs.drop n) (ds.drop n)
  | _, _, 0, h => by simpa using h
  | _, [], n + 1, h => by cases h; exact .nil
  | _, d :: ds, n + 1, h => by cases h with | cons h1 h2 => simpa using RpAll.drp n h2
theorem RpAll.tak : ∀ {vs : List V} {ds : List D} (n : Nat), RpAll K F vs ds → RpAll K F (vs.take n) (ds.take n)
  | _, _, 0, h => by simpa using RpAll.nil
  | _, [], n + 1, h => by cases h; exact .nil
  | _, d :: ds, n + 1, h => by cases h with | cons h1 h2 => simpa using RpAll.cons h1 (RpAll.tak n h2)
theorem RpAll.put : ∀ {vs : List V} {ds : List D} {v : V} {d : D} (n : Nat), RpAll K F vs ds → Rp K F v d → RpAll K F (vs.set n v) (ds.set n d)
  | _, [], _, _, n, h, g => by cases h; exact .nil
  | _, d :: ds, _, _, 0, h, g => by cases h with | cons h1 h2 => simpa using RpAll.cons g h2
  | _, d :: ds, _, _, n + 1, h, g => by cases h with | cons h1 h2 => simpa using RpAll.cons h1 (RpAll.put n h2 g)
theorem RpAll.rep {vs : List V} {ds : List D} (h : RpAll K F vs ds) : ∀ n : Nat, RpAll K F (List.replicate n vs).flatten (List.replicate n ds).flatten
  | 0 => .nil
  | n + 1 => by
    rw [List.replicate_succ, List.replicate_succ, List.flatten_cons, List.flatten_cons]
    exact RpAll.app h (RpAll.rep h n)
theorem RpAll.one {v : V} {d : D} (h : Rp K F v d) : RpAll K F [v] [d] := .cons h .nil
theorem RpAll.nilL {ds : List D} (h : RpAll K F [] ds) : ds = [] := by cases h; rfl
theorem RpAll.nilR {vs : List V} (h : RpAll K F vs []) : vs = [] := by cases h; rfl
theorem RpAll.ints : ∀ {vs : List V} {ds : List D} {ns : List Int}, RpAll K F vs ds → intsOf ds = some ns → vs = ns.map V.int ∧ ds = ns.map PyData.int
  | _, [], _, h, e => by
    cases h
    simp [intsOf] at e
    subst e
    exact ⟨rfl, rfl⟩
  | _, d :: ds, ns, h, e => by
    cases h with
    | cons h1 h2 =>
      cases h1 with
      | int i =>
        simp only [intsOf, Option.map_eq_some_iff] at e
        obtain ⟨ms, e1, rfl⟩ := e
        obtain ⟨a, b⟩ := RpAll.ints h2 e1
        subst a
        subst b
        exact ⟨rfl, rfl⟩
      | _ => simp [intsOf] at e
theorem RpAll.bools : ∀ {vs : List V} {ds : List D} {ns : List Bool}, RpAll K F vs ds → boolsOf ds = some ns → vs = ns.map V.bl ∧ ds = ns.map PyData.bool
  | _, [], _, h, e => by
    cases h
    simp [boolsOf] at e
    subst e
    exact ⟨rfl, rfl⟩
  | _, d :: ds, ns, h, e => by
    cases h with
    | cons h1 h2 =>
      cases h1 with
      | bl i =>
        simp only [boolsOf, Option.map_eq_some_iff] at e
        obtain ⟨ms, e1, rfl⟩ := e
        obtain ⟨a, b⟩ := RpAll.bools h2 e1
        subst a
        subst b
        exact ⟨rfl, rfl⟩
      | _ => simp [boolsOf] at e
theorem rpAll_ints (ns : List Int) : RpAll K F (ns.map V.int) (ns.map PyData.int) := by
  induction ns with
  | nil => exact .nil
  | cons n r ih => exact .cons (.int n) ih
end
/-- v is x now: a list as it stands, its items settled -/
def Cur (K : PySem.W.Frag) (F H : Hp) (v : V) (x : D) : Prop :=
  (∃ l a vs, x = .list l ∧ v = .ref a ∧ SqL K H a vs ∧ RpAll K F vs l) ∨ ((∀ l, x ≠ .list l) ∧ Rp K F v x)
section
variable {K : PySem.W.Frag} {F H : Hp} {v : V} {x : D}
theorem Cur.dp (h : Cur K F H v x) (s : Same F H) : Dp K H v x := by
  rcases h with ⟨l, a, vs, rfl, rfl, hs, ha⟩ | ⟨_, h⟩
  · exact .lst hs (rpAll_dp _ _ (rpAll_mono s _ _ ha))
  · exact rp_dp _ _ (rp_mono s _ _ h)
theorem Cur.of (h : Rp K F v x) (s : Same F H) : Cur K F H v x := by
  cases x with
  | list l => cases h with | lst hs ha => exact .inl ⟨l, _, _, rfl, rfl, .inl (.inl (s _ _ hs)), ha⟩
  | _ => exact .inr ⟨fun l e => (by cases e), h⟩
theorem Cur.list {l : List D} (h : Cur K F H v (.list l)) : ∃ a vs, v = .ref a ∧ SqL K H a vs ∧ RpAll K F vs l := by
  rcases h with ⟨l', a, vs, e, rfl, hs, ha⟩ | ⟨n, _⟩
  · cases e
    exact ⟨a, vs, rfl, hs, ha⟩
  · exact absurd rfl (n l)
theorem Cur.tup {l : List D} (s : Same F H) (h : Cur K F H v (.tuple l)) : ∃ a vs, v = .ref a ∧ SqT K F a vs ∧ SqT K H a vs ∧ RpAll K F vs l := by
  rcases h with ⟨l', a, vs, e, _⟩ | ⟨_, h⟩
  · cases e
  · cases h with | tup hs ha => exact ⟨_, _, rfl, hs, sqT_mono s hs, ha⟩
theorem Cur.int {i : Int} (h : Cur K F H v (.int i)) : v = .int i := by
  rcases h with ⟨l', a, vs, e, _⟩ | ⟨_, h⟩
  · cases e
  · cases h; rfl
theorem Cur.bool {i : Bool} (h : Cur K F H v (.bool i)) : v = .bl i := by
  rcases h with ⟨l', a, vs, e, _⟩ | ⟨_, h⟩
  · cases e
  · cases h; rfl
theorem Cur.non (h : Cur K F H v .none) : v = .non := by
  rcases h with ⟨l', a, vs, e, _⟩ | ⟨_, h⟩
  · cases e
  · cases h; rfl
theorem Cur.str {i : Str} (h : Cur K F H v (.str i)) : v = .str i := by
  rcases h with ⟨l', a, vs, e, _⟩ | ⟨_, h⟩
  · cases e
  · cases h; rfl
end
/-! ### states -/
/-- .. the list itself may be written -/
def CurX (K : PySem.W.Frag) (F H : Hp) (v : V) (x : D) : Prop :=
  (∃ l a vs, x = .list l ∧ v = .ref a ∧ H a = some (.lst vs) ∧ RpAll K F vs l) ∨ ((∀ l, x ≠ .list l) ∧ Rp K F v x)
theorem CurX.cur {K : PySem.W.Frag} {F H : Hp} {v : V} {x : D} (h : CurX K F H v x) : Cur K F H v x := by
  rcases h with ⟨l, a, vs, e, f, hs, ha⟩ | h
  · exact .inl ⟨l, a, vs, e, f, .inl (.inl hs), ha⟩
  · exact .inr h
theorem CurX.list {K : PySem.W.Frag} {F H : Hp} {v : V} {l : List D} (h : CurX K F H v (.list l)) : ∃ a vs, v = .ref a ∧ H a = some (.lst vs) ∧ RpAll K F vs l := by
  rcases h with ⟨l', a, vs, e, rfl, hs, ha⟩ | ⟨n, _⟩
  · cases e
    exact ⟨a, vs, rfl, hs, ha⟩
  · exact absurd rfl (n l)
theorem CurX.of {K : PySem.W.Frag} {F H : Hp} {v : V} {x : D} (h : Rp K F v x) (s : Same F H) : CurX K F H v x := by
  cases x with
  | list l => cases h with | lst hs ha => exact .inl ⟨l, _, _, rfl, rfl, s _ _ hs, ha⟩
  | _ => exact .inr ⟨fun l e => (by cases e), h⟩
def SlotR (K : PySem.W.Frag) (F H : Hp) (s : Option (Option V)) : SV → Prop
  | .no => True
  | .val d => ∃ v, s = some (some v) ∧ Rp K F v d
  | .own l => ∃ a vs, s = some (some (.ref a)) ∧ F a = none ∧ H a = some (.lst vs) ∧ RpAll K F vs l
  | .lent l => ∃ a vs, s = some (some (.ref a)) ∧ F a = none ∧ H a = some (.lst vs) ∧ RpAll K F vs l
  | .scr l => ∃ a vs, s = some (some (.ref a)) ∧ SqL K F a vs ∧ RpAll K F vs l
/-- slot i holds an own or a lent list, at b -/
def OwnAt (r : Sl) (σ : L2.St) (i : Nat) (b : Addr) : Prop := ∃ l, (r[i]? = some (.own l) ∨ r[i]? = some (.lent l)) ∧ σ[i]? = some (some (.ref b))
def Owned (r : Sl) (σ : L2.St) (b : Addr) : Prop := ∃ i, OwnAt r σ i b
structure StR (K : PySem.W.Frag) (T : List (Addr × Str)) (F : Hp) (r : Sl) (σ : L2.St) (H : Hp) : Prop where
  sub : Same F H
  ntb : ∀ b ps, F b ≠ some (.tbl ps)
  len : r.length = σ.length
  slot : ∀ (i : Nat) (sv : SV), r[i]? = some sv → SlotR K F H (σ[i]?) sv
  apart : ∀ (i j : Nat) (b : Addr), OwnAt r σ i b → OwnAt r σ j b → i = j
  tabs : LamX.Tabs T H
/-- nothing but a table stands at b -/
def Nt (H : Hp) (b : Addr) : Prop := ∀ o, H b = some o → ∃ ps, o = .tbl ps
theorem Nt.of {H : Hp} {b : Addr} (h : H b = none) : Nt H b := fun o e => by rw [h] at e; cases e
theorem Nt.no {H : Hp} {b : Addr} {vs : List V} (h : Nt H b) (e : H b = some (.lst vs)) : False := by
  obtain ⟨ps, z⟩ := h _ e
  cases z
/-- from one state to a later one; Z: new lists that were settled -/
structure Stp (Z : Addr → Prop) (F : Hp) (r : Sl) (σ : L2.St) (H : Hp) (F' : Hp) (r' : Sl) (σ' : L2.St) (H' : Hp) : Prop where
  ext : Same F F'
  new : ∀ b, F' b ≠ none → F b ≠ none ∨ Nt H b ∨ Owned r σ b ∨ Z b
  keep : ∀ b o, H b = some o → (∀ ps, o ≠ .tbl ps) → ¬ Owned r σ b → ¬ Z b → H' b = some o
  grow : ∀ b, Nt H' b → Nt H b
  own : ∀ b, Owned r' σ' b → Owned r σ b ∨ Nt H b
  lent : ∀ (i : Nat) (l' : List D), r'[i]? = some (SV.lent l') → ∃ l, r[i]? = some (SV.lent l) ∧ σ'[i]? = σ[i]?
abbrev NoZ : Addr → Prop := fun _ => False
section
variable {K : PySem.W.Frag} {T : List (Addr × Str)} {Z Z' : Addr → Prop} {F F' F2 : Hp} {r r' r2 : Sl} {σ σ' σ2 : L2.St} {H H' H2 : Hp}
theorem Stp.refl : Stp Z F r σ H F r σ H :=
  ⟨fun _ _ h => h, fun _ h => .inl h, fun _ _ h _ _ _ => h, fun _ h => h, fun _ h => .inl h, fun _ l h => ⟨l, h, rfl⟩⟩
theorem Stp.trans (a : Stp Z F r σ H F' r' σ' H') (b : Stp Z' F' r' σ' H' F2 r2 σ2 H2) (hz : ∀ x, Z' x → Nt H x ∨ Z x) : Stp Z F r σ H F2 r2 σ2 H2 where
  ext := a.ext.trans b.ext
  new := fun x h => by
    rcases b.new x h with h | h | h | h
    · exact a.new x h
    · exact .inr (.inl (a.grow x h))
    · rcases a.own x h with h | h
      · exact .inr (.inr (.inl h))
      · exact .inr (.inl h)
    · rcases hz x h with h | h
      · exact .inr (.inl h)
      · exact .inr (.inr (.inr h))
  keep := fun x o h n q z => b.keep x o (a.keep x o h n q z) n (fun w => by
    rcases a.own x w with w | w
    · exact q w
    · obtain ⟨ps, e⟩ := w _ h
      exact n ps e) fun w => by
    rcases hz x w with w | w
    · obtain ⟨ps, e⟩ := w _ h
      exact n ps e
    · exact z w
  grow := fun x h => a.grow x (b.grow x h)
  own := fun x h => by
    rcases b.own x h with h | h
    · exact a.own x h
    · exact .inr (a.grow x h)
  lent := fun i l h => by
    obtain ⟨l1, h1, e1⟩ := b.lent i l h
    obtain ⟨l2, h2, e2⟩ := a.lent i l1 h1
    exact ⟨l2, h2, e1.trans e2⟩
theorem Stp.trans0 (a : Stp Z F r σ H F' r' σ' H') (b : Stp NoZ F' r' σ' H' F2 r2 σ2 H2) : Stp Z F r σ H F2 r2 σ2 H2 := a.trans b fun _ h => h.elim
/-! ### values -/
def RelW (K : PySem.W.Frag) (F : Hp) (r : Sl) (σ : L2.St) (H : Hp) (v : V) : W → Prop
  | .d x => Rp K F v x
  | .s i => σ[i]? = some (some v)
  | .f l => ∃ a vs, v = .ref a ∧ H a = some (.lst vs) ∧ F a = none ∧ ¬ Owned r σ a ∧ RpAll K F vs l
/-- a new list is new since H -/
def FrS (H : Hp) (v : V) : W → Prop
  | .f _ => ∀ a, v = .ref a → Nt H a
  | _ => True
theorem RelW.step {v : V} {w : W} (h : RelW K F r σ H v w) (q : ¬ ∃ a, v = .ref a ∧ Z a) (s : Stp Z F r σ H F' r' σ H') : RelW K F' r' σ H' v w := by
  cases w with
  | d x => exact rp_mono s.ext _ _ h
  | s i => exact h
  | f l =>
    obtain ⟨a, vs, rfl, h1, h2, h3, h4⟩ := h
    refine ⟨a, vs, rfl, s.keep a _ h1 (fun ps e => by cases e) h3 (fun z => q ⟨a, rfl, z⟩), ?_, fun w => ?_, rpAll_mono s.ext _ _ h4⟩
    · cases e : F' a with
      | none => rfl
      | some o =>
        rcases s.new a (by rw [e]; simp) with z | z | z | z
        · exact absurd h2 z
        · exact (z.no h1).elim
        · exact absurd z h3
        · exact absurd ⟨a, rfl, z⟩ q
    · rcases s.own a w with z | z
      · exact h3 z
      · exact z.no h1
theorem RelW.step0 {v : V} {w : W} (h : RelW K F r σ H v w) (s : Stp NoZ F r σ H F' r' σ H') : RelW K F' r' σ H' v w := h.step (fun ⟨_, _, z⟩ => z) s
theorem FrS.back {v : V} {w : W} (h : FrS H' v w) (s : Stp Z F r σ H F' r' σ' H') : FrS H v w := by
  cases w with
  | f l => exact fun a e => s.grow a (h a e)
  | _ => trivial
/-- what stands there now -/
theorem StR.fix {v : V} {w : W} {x : D} (R : StR K T F r σ H) (h : RelW K F r σ H v w) (e : fixW r w = some x) : Cur K F H v x := by
  cases w with
  | d y =>
    simp only [fixW, Option.some.injEq] at e
    subst e
    exact Cur.of h R.sub
  | f l =>
    simp only [fixW, Option.some.injEq] at e
    subst e
    obtain ⟨a, vs, rfl, h1, h2, h3, h4⟩ := h
    exact .inl ⟨l, a, vs, rfl, rfl, .inl (.inl h1), h4⟩
  | s i =>
    simp only [fixW] at e
    have h : σ[i]? = some (some v) := h
    split at e
    · rename_i l q
      cases e
      obtain ⟨a, vs, e1, e2, e3, e4⟩ := R.slot i _ q
      rw [h] at e1
      cases e1
      exact .inl ⟨l, a, vs, rfl, rfl, .inl (.inl e3), e4⟩
    · rename_i l q
      cases e
      obtain ⟨a, vs, e1, e2, e3, e4⟩ := R.slot i _ q
      rw [h] at e1
      cases e1
      exact .inl ⟨l, a, vs, rfl, rfl, .inl (.inl e3), e4⟩
    · rename_i l q
      cases e
      obtain ⟨a, vs, e1, e3, e4⟩ := R.slot i _ q
      rw [h] at e1
      cases e1
      exact .inl ⟨l, a, vs, rfl, rfl, sqL_mono R.sub e3, e4⟩
    · cases e
theorem StR.fixx {v : V} {w : W} {x : D} (R : StR K T F r σ H) (h : RelW K F r σ H v w) (e : fixX r w = some x) : CurX K F H v x := by
  cases w with
  | d y =>
    simp only [fixX, Option.some.injEq] at e
    subst e
    exact CurX.of h R.sub
  | f l =>
    simp only [fixX, Option.some.injEq] at e
    subst e
    obtain ⟨a, vs, rfl, h1, h2, h3, h4⟩ := h
    exact .inl ⟨l, a, vs, rfl, rfl, h1, h4⟩
  | s i =>
    simp only [fixX] at e
    have h : σ[i]? = some (some v) := h
    split at e
    · rename_i l q
      cases e
      obtain ⟨a, vs, e1, e2, e3, e4⟩ := R.slot i _ q
      rw [h] at e1
      cases e1
      exact .inl ⟨l, a, vs, rfl, rfl, e3, e4⟩
    · rename_i l q
      cases e
      obtain ⟨a, vs, e1, e2, e3, e4⟩ := R.slot i _ q
      rw [h] at e1
      cases e1
      exact .inl ⟨l, a, vs, rfl, rfl, e3, e4⟩
    · cases e
/-! ### what may be added -/
theorem same_upd {p : Addr} {o : HO} (h : H p = none) : Same H (upd H p o) := fun b x e => by
  rw [upd_ne (ne_of_none e h)]
  exact e
theorem tabs_upd {p : Addr} {o o' : HO} (h : H p = some o) (n : ∀ ps, o ≠ .tbl ps) (m : ∀ c q, o ≠ LamX.CodeO c q) (t : LamX.Tabs T H) : LamX.Tabs T (upd H p o') := fun x hx => by
  obtain ⟨ps, e1, e2, e3⟩ := t x hx
  have at_ : ∀ {b u}, H b = some u → o ≠ u → upd H p o' b = some u := fun {b u} e q => by
    rw [upd_ne]
    · exact e
    · rintro rfl
      rw [h] at e
      exact q (Option.some.inj e)
  refine ⟨ps, at_ e1 (n ps), e2, fun pos cv hc => ?_⟩
  obtain ⟨c, f1, f2⟩ := e3 pos cv hc
  exact ⟨c, f1, at_ f2 (m c _)⟩
theorem lst_ne_tbl {vs : List V} : ∀ ps, HO.lst vs ≠ .tbl ps := fun ps e => by cases e
theorem lst_ne_code {vs : List V} : ∀ c q, HO.lst vs ≠ LamX.CodeO c q := fun c q e => by
  unfold LamX.CodeO at e
  cases e
theorem StR.free {p : Addr} (R : StR K T F r σ H) (hp : H p = none) : F p = none := R.sub.free hp
theorem StR.ownH {i : Nat} {b : Addr} (R : StR K T F r σ H) (o : OwnAt r σ i b) : F b = none ∧ ∃ vs, H b = some (.lst vs) := by
  obtain ⟨l, h1 | h1, h2⟩ := o
  · obtain ⟨a, vs, e1, e2, e3, _⟩ := R.slot i _ h1
    rw [h2] at e1
    cases e1
    exact ⟨e2, vs, e3⟩
  · obtain ⟨a, vs, e1, e2, e3, _⟩ := R.slot i _ h1
    rw [h2] at e1
    cases e1
    exact ⟨e2, vs, e3⟩
/-- the heap has grown by what is not settled -/
theorem StR.grown (R : StR K T F r σ H) (s : Same H H') (t : LamX.Tabs T H') : StR K T F r σ H' where
  sub := R.sub.trans s
  ntb := R.ntb
  len := R.len
  slot := fun i sv h => by
    have q := R.slot i sv h
    cases sv with
    | no => trivial
    | val d => exact q
    | own l =>
      obtain ⟨a, vs, e1, e2, e3, e4⟩ := q
      exact ⟨a, vs, e1, e2, s _ _ e3, e4⟩
    | lent l =>
      obtain ⟨a, vs, e1, e2, e3, e4⟩ := q
      exact ⟨a, vs, e1, e2, s _ _ e3, e4⟩
    | scr l =>
      exact q
  apart := R.apart
  tabs := t
theorem step_grown (s : Same H H') : Stp Z F r σ H F r σ H' :=
  ⟨fun _ _ h => h, fun _ h => .inl h, fun _ _ h _ _ _ => s _ _ h, fun _ h o e => h o (s _ _ e), fun _ h => .inl h, fun _ l h => ⟨l, h, rfl⟩⟩
/-- an object of the heap is settled -/
theorem StR.settle {p : Addr} {o : HO} (R : StR K T F r σ H) (hF : F p = none) (hH : H p = some o) (n : ∀ ps, o ≠ .tbl ps) (ho : ¬ Owned r σ p) : StR K T (upd F p o) r σ H where
  sub := fun b u e => by
    by_cases hb : b = p
    · subst hb
      rw [upd_same] at e
      rw [hH, ← e]
    · rw [upd_ne hb] at e
      exact R.sub b u e
  ntb := fun b ps e => by
    by_cases hb : b = p
    · subst hb
      rw [upd_same] at e
      exact n ps (Option.some.inj e)
    · rw [upd_ne hb] at e
      exact R.ntb b ps e
  len := R.len
  slot := fun i sv h => by
    have q := R.slot i sv h
    have s : Same F (upd F p o) := same_upd hF
    have nb : ∀ b, OwnAt r σ i b → upd F p o b = none := fun b w => by
      rw [upd_ne]
      · exact (R.ownH w).1
      · rintro rfl
        exact ho ⟨i, w⟩
    cases sv with
    | no => trivial
    | val d =>
      obtain ⟨v, e1, e2⟩ := q
      exact ⟨v, e1, rp_mono s _ _ e2⟩
    | own l =>
      obtain ⟨a, vs, e1, e2, e3, e4⟩ := q
      exact ⟨a, vs, e1, nb a ⟨l, .inl h, e1⟩, e3, rpAll_mono s _ _ e4⟩
    | lent l =>
      obtain ⟨a, vs, e1, e2, e3, e4⟩ := q
      exact ⟨a, vs, e1, nb a ⟨l, .inr h, e1⟩, e3, rpAll_mono s _ _ e4⟩
    | scr l =>
      obtain ⟨a, vs, e1, e3, e4⟩ := q
      exact ⟨a, vs, e1, sqL_mono s e3, rpAll_mono s _ _ e4⟩
  apart := R.apart
  tabs := R.tabs
theorem step_settle {p : Addr} {o : HO} (hF : F p = none) : Stp (fun b => b = p) F r σ H (upd F p o) r σ H :=
  ⟨same_upd hF, fun b h => by
    by_cases hb : b = p
    · exact .inr (.inr (.inr hb))
    · rw [upd_ne hb] at h
      exact .inl h, fun _ _ h _ _ _ => h, fun _ h => h, fun _ h => .inl h, fun _ l h => ⟨l, h, rfl⟩⟩
theorem Owned.ne {p : Addr} (R : StR K T F r σ H) (hp : H p = none) : ¬ Owned r σ p := fun ⟨i, w⟩ => by
  obtain ⟨_, vs, e⟩ := R.ownH w
  rw [hp] at e
  cases e
/-- an untracked list is written -/
theorem StR.other {p : Addr} {vs us : List V} (R : StR K T F r σ H) (hF : F p = none) (hH : H p = some (.lst us)) (ho : ¬ Owned r σ p) : StR K T F r σ (upd H p (.lst vs)) where
  sub := fun b u g => by
    rw [upd_ne (fun e => by rw [e, hF] at g; cases g)]
    exact R.sub b u g
  ntb := R.ntb
  len := R.len
  slot := fun i sv g => by
    have z := R.slot i sv g
    have nb : ∀ b, OwnAt r σ i b → b ≠ p := fun b w e => ho ⟨i, e ▸ w⟩
    cases sv with
    | no => trivial
    | val d => exact z
    | own m =>
      obtain ⟨b, us, f1, f2, f3, f4⟩ := z
      exact ⟨b, us, f1, f2, by rw [upd_ne (nb b ⟨m, .inl g, f1⟩)]; exact f3, f4⟩
    | lent m =>
      obtain ⟨b, us, f1, f2, f3, f4⟩ := z
      exact ⟨b, us, f1, f2, by rw [upd_ne (nb b ⟨m, .inr g, f1⟩)]; exact f3, f4⟩
    | scr m =>
      exact z
  apart := R.apart
  tabs := tabs_upd hH lst_ne_tbl lst_ne_code R.tabs
theorem step_other {p : Addr} {vs us : List V} (hH : H p = some (.lst us)) : Stp (fun b => b = p) F r σ H F r σ (upd H p (.lst vs)) :=
  ⟨fun _ _ h => h, fun _ h => .inl h, fun b o h _ _ z => by rw [upd_ne z]; exact h, fun b h o e => by
    by_cases hb : b = p
    · exact (h.no (vs := vs) (by rw [hb, upd_same])).elim
    · exact h o (by rw [upd_ne hb]; exact e), fun _ h => .inl h, fun _ l h => ⟨l, h, rfl⟩⟩
/-- a table has grown, code objects were laid -/
theorem StR.tabled (R : StR K T F r σ H) (e : LamX.ExtN H H') (t : LamX.Tabs T H') : StR K T F r σ H' where
  sub := fun b o h => e b o (R.sub b o h) fun ps z => R.ntb b ps (by rw [h, z])
  ntb := R.ntb
  len := R.len
  slot := fun i sv h => by
    have q := R.slot i sv h
    cases sv with
    | no => trivial
    | val d => exact q
    | own l =>
      obtain ⟨a, vs, e1, e2, e3, e4⟩ := q
      exact ⟨a, vs, e1, e2, e _ _ e3 lst_ne_tbl, e4⟩
    | lent l =>
      obtain ⟨a, vs, e1, e2, e3, e4⟩ := q
      exact ⟨a, vs, e1, e2, e _ _ e3 lst_ne_tbl, e4⟩
    | scr l =>
      exact q
  apart := R.apart
  tabs := t
theorem step_tabled (e : LamX.ExtN H H') : Stp Z F r σ H F r σ H' :=
  ⟨fun _ _ h => h, fun _ h => .inl h, fun b o h n _ _ => e b o h n, fun b h o g => Classical.byContradiction fun n => n (h o (e b o g fun ps z => n ⟨ps, z⟩)), fun _ h => .inl h, fun _ l h => ⟨l, h, rfl⟩⟩
/-- a new list -/
theorem StR.newList {p : Addr} {vs : List V} {l : List D} (R : StR K T F r σ H) (hp : H p = none) (h : RpAll K F vs l) :
    StR K T F r σ (upd H p (.lst vs)) ∧ Stp NoZ F r σ H F r σ (upd H p (.lst vs)) ∧ RelW K F r σ (upd H p (.lst vs)) (.ref p) (.f l) ∧ FrS H (.ref p) (.f l) :=
  ⟨R.grown (same_upd hp) (R.tabs.ext fun b o e => same_upd hp b o e), step_grown (same_upd hp), ⟨p, vs, rfl, upd_same, R.free hp, Owned.ne R hp, h⟩, fun a e => by cases e; exact Nt.of hp⟩
/-- a new tuple, settled at once -/
theorem StR.newTup {p : Addr} {vs : List V} {l : List D} (R : StR K T F r σ H) (hp : H p = none) (h : RpAll K F vs l) :
    StR K T (upd F p (.tup vs)) r σ (upd H p (.tup vs)) ∧ Stp NoZ F r σ H (upd F p (.tup vs)) r σ (upd H p (.tup vs)) ∧ Rp K (upd F p (.tup vs)) (.ref p) (.tuple l) := by
  have R1 : StR K T F r σ (upd H p (.tup vs)) := R.grown (same_upd hp) (R.tabs.ext fun b o e => same_upd hp b o e)
  have hF := R.free hp
  refine ⟨R1.settle hF upd_same (fun ps e => by cases e) (Owned.ne R hp), ?_, .tup (.inl (.inl upd_same)) (rpAll_mono (same_upd hF) _ _ h)⟩
  exact (step_grown (same_upd hp)).trans (step_settle hF) fun x e => .inl (by rw [e]; exact Nt.of hp)
/-- a value is kept -/
theorem StR.kept {v : V} {w : W} {x : D} (R : StR K T F r σ H) (h : RelW K F r σ H v w) (e : keepW r w = some (x, r')) :
    ∃ F', StR K T F' r' σ H ∧ Stp (fun b => v = .ref b ∧ ∃ l, w = .f l) F r σ H F' r' σ H ∧ Rp K F' v x := by
  cases w with
  | d y =>
    simp only [keepW, Option.some.injEq, Prod.mk.injEq] at e
    obtain ⟨rfl, rfl⟩ := e
    exact ⟨F, R, Stp.refl, h⟩
  | f l =>
    simp only [keepW, Option.some.injEq, Prod.mk.injEq] at e
    obtain ⟨rfl, rfl⟩ := e
    obtain ⟨a, vs, rfl, h1, h2, h3, h4⟩ := h
    refine ⟨upd F a (.lst vs), R.settle h2 h1 lst_ne_tbl h3, (Stp.refl).trans (step_settle h2) fun b hb => .inr ⟨by rw [hb], l, rfl⟩, ?_⟩
    exact .lst upd_same (rpAll_mono (same_upd h2) _ _ h4)
  | s i =>
    simp only [keepW] at e
    have h : σ[i]? = some (some v) := h
    split at e
    · rename_i l q
      simp only [Option.some.injEq, Prod.mk.injEq] at e
      obtain ⟨rfl, rfl⟩ := e
      obtain ⟨a, vs, e1, e2, e3, e4⟩ := R.slot i _ q
      rw [h] at e1
      cases e1
      have hi : i < r.length := (List.getElem?_eq_some_iff.mp q).1
      have oa : OwnAt r σ i a := ⟨l, .inl q, h⟩
      have sF : Same F (upd F a (.lst vs)) := same_upd e2
      have no : ∀ {j b}, OwnAt (r.set i (.val (.list l))) σ j b → OwnAt r σ j b ∧ j ≠ i := fun {j b} ⟨m, w, z⟩ => by
        by_cases hj : j = i
        · subst hj
          rw [List.getElem?_set_self hi] at w
          rcases w with w | w <;> cases w
        · rw [List.getElem?_set_ne (Ne.symm hj)] at w
          exact ⟨⟨m, w, z⟩, hj⟩
      refine ⟨upd F a (.lst vs), ⟨fun b u g => ?_, fun b ps g => ?_, by rw [List.length_set]; exact R.len, fun j sv g => ?_, fun j k b w1 w2 => R.apart j k b (no w1).1 (no w2).1, R.tabs⟩,
        ⟨sF, fun b g => ?_, fun _ _ g _ _ _ => g, fun _ g => g, fun b ⟨j, w⟩ => .inl ⟨j, (no w).1⟩, fun j l' g => ?_⟩, .lst upd_same (rpAll_mono sF _ _ e4)⟩
      · by_cases hb : b = a
        · subst hb
          rw [upd_same] at g
          rw [e3, ← g]
        · rw [upd_ne hb] at g
          exact R.sub b u g
      · by_cases hb : b = a
        · subst hb
          rw [upd_same] at g
          cases g
        · rw [upd_ne hb] at g
          exact R.ntb b ps g
      · by_cases hj : j = i
        · subst hj
          rw [List.getElem?_set_self hi] at g
          cases g
          exact ⟨_, h, .lst upd_same (rpAll_mono sF _ _ e4)⟩
        · rw [List.getElem?_set_ne (Ne.symm hj)] at g
          have z := R.slot j sv g
          have nb : ∀ b, OwnAt r σ j b → upd F a (.lst vs) b = none := fun b w => by
            rw [upd_ne]
            · exact (R.ownH w).1
            · rintro rfl
              exact hj (R.apart j i _ w oa)
          cases sv with
          | no => trivial
          | val d =>
            obtain ⟨v', f1, f2⟩ := z
            exact ⟨v', f1, rp_mono sF _ _ f2⟩
          | own m =>
            obtain ⟨b, us, f1, f2, f3, f4⟩ := z
            exact ⟨b, us, f1, nb b ⟨m, .inl g, f1⟩, f3, rpAll_mono sF _ _ f4⟩
          | lent m =>
            obtain ⟨b, us, f1, f2, f3, f4⟩ := z
            exact ⟨b, us, f1, nb b ⟨m, .inr g, f1⟩, f3, rpAll_mono sF _ _ f4⟩
          | scr m =>
            obtain ⟨b, us, f1, f3, f4⟩ := z
            exact ⟨b, us, f1, sqL_mono sF f3, rpAll_mono sF _ _ f4⟩
      · by_cases hb : b = a
        · exact .inr (.inr (.inl (by rw [hb]; exact ⟨i, oa⟩)))
        · rw [upd_ne hb] at g
          exact .inl g
      · by_cases hj : j = i
        · subst hj
          rw [List.getElem?_set_self hi] at g
          cases g
        · rw [List.getElem?_set_ne (Ne.symm hj)] at g
          exact ⟨l', g, rfl⟩
    · cases e
/-- an own or lent list is written -/
theorem StR.wrote {i : Nat} {b : Addr} {vs : List V} {l : List D} {sv : SV} (R : StR K T F r σ H) (o : OwnAt r σ i b) (hv : (∃ m, r[i]? = some (.own m) ∧ sv = .own l) ∨ (∃ m, r[i]? = some (.lent m) ∧ sv = .lent l)) (h : RpAll K F vs l) :
    StR K T F (r.set i sv) σ (upd H b (.lst vs)) ∧ Stp NoZ F r σ H F (r.set i sv) σ (upd H b (.lst vs)) := by
  obtain ⟨hF, us, hH⟩ := R.ownH o
  have hi : i < r.length := by
    rcases hv with ⟨m, q, _⟩ | ⟨m, q, _⟩ <;> exact (List.getElem?_eq_some_iff.mp q).1
  have hs : σ[i]? = some (some (.ref b)) := by obtain ⟨_, _, q⟩ := o; exact q
  have oa : ∀ {j a}, OwnAt (r.set i sv) σ j a → OwnAt r σ j a := fun {j a} ⟨m, w, z⟩ => by
    by_cases hj : j = i
    · subst hj
      rw [hs] at z
      cases z
      exact o
    · rw [List.getElem?_set_ne (Ne.symm hj)] at w
      exact ⟨m, w, z⟩
  refine ⟨⟨fun a u g => ?_, R.ntb, by rw [List.length_set]; exact R.len, fun j tv g => ?_, fun j k a w1 w2 => R.apart j k a (oa w1) (oa w2), tabs_upd hH lst_ne_tbl lst_ne_code R.tabs⟩,
    ⟨fun _ _ g => g, fun _ g => .inl g, fun a u g _ q _ => ?_, fun a g => ?_, fun a ⟨j, w⟩ => .inl ⟨j, oa w⟩, fun j l' g => ?_⟩⟩
  · have : a ≠ b := fun e => by
      rw [e, hF] at g
      cases g
    rw [upd_ne this]
    exact R.sub a u g
  · by_cases hj : j = i
    · subst hj
      rw [List.getElem?_set_self hi] at g
      cases g
      rcases hv with ⟨m, _, rfl⟩ | ⟨m, _, rfl⟩
      · exact ⟨b, vs, hs, hF, upd_same, h⟩
      · exact ⟨b, vs, hs, hF, upd_same, h⟩
    · rw [List.getElem?_set_ne (Ne.symm hj)] at g
      have z := R.slot j tv g
      have nb : ∀ a, OwnAt r σ j a → a ≠ b := fun a w e => hj (R.apart j i b (e ▸ w) o)
      cases tv with
      | no => trivial
      | val d => exact z
      | own m =>
        obtain ⟨a, ws, f1, f2, f3, f4⟩ := z
        exact ⟨a, ws, f1, f2, by rw [upd_ne (nb a ⟨m, .inl g, f1⟩)]; exact f3, f4⟩
      | lent m =>
        obtain ⟨a, ws, f1, f2, f3, f4⟩ := z
        exact ⟨a, ws, f1, f2, by rw [upd_ne (nb a ⟨m, .inr g, f1⟩)]; exact f3, f4⟩
      | scr m =>
        exact z
  · rw [upd_ne (fun e => q (by rw [e]; exact ⟨i, o⟩))]
    exact g
  · by_cases hb : a = b
    · exact ((g.no (vs := vs) (by rw [hb, upd_same])).elim)
    · exact fun o e => g o (by rw [upd_ne hb]; exact e)
  · by_cases hj : j = i
    · subst hj
      rw [List.getElem?_set_self hi] at g
      rcases hv with ⟨m, q, rfl⟩ | ⟨m, q, rfl⟩
      · cases g
      · exact ⟨m, q, rfl⟩
    · rw [List.getElem?_set_ne (Ne.symm hj)] at g
      exact ⟨l', g, rfl⟩
end
end SR
/-! The engine, part 3: operators, comparisons, subscripts, built-in functions by values. -/
namespace SR
open PySem PySem.Spec PyProof.Rows L2
/-- what an operation hands back: settled data, a new tuple, a new list -/
inductive ResV (K : PySem.W.Frag) (F H : Hp) : W → V → Hp → Prop
  | here {x : D} {v : V} : Rp K F v x → ResV K F H (.d x) v H
  | tup {p : Addr} {vs : List V} {l : List D} : H p = none → RpAll K F vs l → ResV K F H (.d (.tuple l)) (.ref p) (upd H p (.tup vs))
  | lst {p : Addr} {vs : List V} {l : List D} : H p = none → RpAll K F vs l → ResV K F H (.f l) (.ref p) (upd H p (.lst vs))
section
variable {K : PySem.W.Frag} {T : List (Addr × Str)} {F H H' : Hp} {r : Sl} {σ : L2.St}
theorem StR.res {w : W} {v : V} (R : StR K T F r σ H) (h : ResV K F H w v H') : ∃ F', StR K T F' r σ H' ∧ Stp NoZ F r σ H F' r σ H' ∧ RelW K F' r σ H' v w ∧ FrS H v w := by
  cases h with
  | here h => exact ⟨F, R, Stp.refl, h, trivial⟩
  | tup hp h =>
    obtain ⟨a, b, c⟩ := R.newTup hp h
    exact ⟨_, a, b, c, trivial⟩
  | lst hp h =>
    obtain ⟨a, b, c, d⟩ := R.newList hp h
    exact ⟨_, a, b, c, d⟩
end
/-- a binary operation on data -/
def rBin (K : PySem.W.Frag) (g : D → D → Option W) : R2 := fun x y H Q => ∃ F x' y' w, Same F H ∧ CurX K F H x x' ∧ CurX K F H y y' ∧ g x' y' = some w ∧ ∀ v H', ResV K F H w v H' → Q v H'
def rCmp (K : PySem.W.Frag) (g : D → D → Option Bool) : R2 := fun x y H Q => ∃ F x' y' b, Same F H ∧ Cur K F H x x' ∧ Cur K F H y y' ∧ g x' y' = some b ∧ Q (.bl b) H
section
variable {X : Cx}
/-! ### + - * // % ** -/
theorem or_add : OpR X (binaryOp .Add) (rBin X.K addD) := by
  intro pins s σ H x y v u Q I rx ry h
  obtain ⟨F, x', y', w, sm, cx, cy, e, q⟩ := h
  unfold addD at e
  split at e
  · cases e
    cases cx.cur.int
    cases cy.cur.int
    exact op_add pins s σ H _ _ v u Q I rx ry ⟨_, _, rfl, rfl, q _ _ (.here (.int _))⟩
  · rename_i a b
    split at e <;> cases e
    rename_i hz
    obtain ⟨p1, vs, rfl, h1, h2⟩ := cx.list
    obtain ⟨p2, us, rfl, g1, g2⟩ := cy.list
    exact op_cat pins s σ H _ _ v u Q I rx ry ⟨p1, p2, vs, us, rfl, rfl, h1, g1, by rw [RpAll.len h2, RpAll.len g2]; exact hz, fun p hp => q _ _ (.lst hp (RpAll.app h2 g2))⟩
  · rename_i a b
    split at e <;> cases e
    rename_i hz
    obtain ⟨p1, vs, rfl, h0, h1, h2⟩ := cx.cur.tup sm
    obtain ⟨p2, us, rfl, g0, g1, g2⟩ := cy.cur.tup sm
    refine op_catA pins s σ H _ _ v u Q I rx ry ⟨p1, p2, vs, us, rfl, rfl, h1, g1, by rw [RpAll.len h2, RpAll.len g2]; exact hz, fun ez => ?_, fun _ ez => ?_, fun _ _ p hp => q _ _ (.tup hp (RpAll.app h2 g2))⟩
    · subst ez
      cases RpAll.nilL h2
      exact q _ _ (.here (.tup g0 g2))
    · subst ez
      cases RpAll.nilL g2
      rw [List.append_nil] at q
      exact q _ _ (.here (.tup h0 h2))
  · rename_i a b
    split at e <;> cases e
    rename_i hz
    cases cx.cur.str
    cases cy.cur.str
    exact op_add_str pins s σ H _ _ v u Q I rx ry ⟨_, _, rfl, rfl, hz, q _ _ (.here (.str _))⟩
  · cases e
theorem or_sub : OpR X (binaryOp .Sub) (rBin X.K subD) := by
  intro pins s σ H x y v u Q I rx ry h
  obtain ⟨F, x', y', w, sm, cx, cy, e, q⟩ := h
  unfold subD at e
  split at e
  · cases e
    cases cx.cur.int
    cases cy.cur.int
    exact op_sub pins s σ H _ _ v u Q I rx ry ⟨_, _, rfl, rfl, q _ _ (.here (.int _))⟩
  · cases e
theorem or_mul : OpR X (binaryOp .Mult) (rBin X.K mulD) := by
  intro pins s σ H x y v u Q I rx ry h
  obtain ⟨F, x', y', w, sm, cx, cy, e, q⟩ := h
  unfold mulD at e
  split at e
  · split at e <;> cases e
    rename_i hz
    cases cx.cur.int
    cases cy.cur.int
    exact op_mulW pins s σ H _ _ v u Q I rx ry ⟨_, _, rfl, rfl, hz, q _ _ (.here (.int _))⟩
  · split at e <;> cases e
    rename_i hz
    obtain ⟨p1, vs, rfl, h0, h1, h2⟩ := cx.cur.tup sm
    cases cy.cur.int
    refine op_repT pins s σ H _ _ v u Q I rx ry ⟨p1, _, vs, rfl, rfl, h1, fun ez => ?_, hz.2.1, hz.2.2.1, by rw [RpAll.len h2]; exact hz.2.2.2, fun p hp => q _ _ (.tup hp (RpAll.rep h2 _))⟩
    subst ez
    exact hz.1 (RpAll.nilL h2)
  · split at e <;> cases e
    rename_i hz
    obtain ⟨p1, vs, rfl, h1, h2⟩ := cx.list
    cases cy.cur.int
    exact op_rep pins s σ H _ _ v u Q I rx ry ⟨p1, _, vs, rfl, rfl, h1, hz.1, hz.2.1, by rw [RpAll.len h2]; exact hz.2.2, fun p hp => q _ _ (.lst hp (RpAll.rep h2 _))⟩
  · cases e
theorem or_fdiv : OpR X (binaryOp .FloorDiv) (rBin X.K fdivD) := by
  intro pins s σ H x y v u Q I rx ry h
  obtain ⟨F, x', y', w, sm, cx, cy, e, q⟩ := h
  unfold fdivD at e
  split at e
  · split at e <;> cases e
    rename_i hz
    cases cx.cur.int
    cases cy.cur.int
    exact op_fdivW pins s σ H _ _ v u Q I rx ry ⟨_, _, rfl, rfl, hz, q _ _ (.here (.int _))⟩
  · cases e
theorem or_mod : OpR X (binaryOp .Mod) (rBin X.K modD) := by
  intro pins s σ H x y v u Q I rx ry h
  obtain ⟨F, x', y', w, sm, cx, cy, e, q⟩ := h
  unfold modD at e
  split at e
  · split at e <;> cases e
    rename_i hz
    cases cx.cur.int
    cases cy.cur.int
    exact op_mod pins s σ H _ _ v u Q I rx ry ⟨_, _, rfl, rfl, hz, q _ _ (.here (.int _))⟩
  · cases e
theorem or_pow : OpR X (binaryOp .Pow) (rBin X.K powD) := by
  intro pins s σ H x y v u Q I rx ry h
  obtain ⟨F, x', y', w, sm, cx, cy, e, q⟩ := h
  unfold powD at e
  split at e
  · split at e <;> cases e
    rename_i hz
    cases cx.cur.int
    cases cy.cur.int
    exact op_pow pins s σ H _ _ v u Q I rx ry ⟨_, _, rfl, rfl, hz, q _ _ (.here (.int _))⟩
  · cases e
theorem or_bin (o : Operator) : OpR X (binaryOp o) (rBin X.K (binD o)) := by
  cases o with
  | Add => exact or_add
  | Sub => exact or_sub
  | Mult => exact or_mul
  | FloorDiv => exact or_fdiv
  | Mod => exact or_mod
  | Pow => exact or_pow
  | _ =>
    intro pins s σ H x y v u Q I rx ry h
    obtain ⟨F, x', y', w, sm, cx, cy, e, q⟩ := h
    cases e
/-! ### comparisons -/
mutual
theorem flat_can : ∀ (n : Nat) (d : D), flat n d = true → d.canLay0 = true
  | _, .none, _ => rfl
  | _, .bool _, _ => rfl
  | _, .int _, _ => rfl
  | n, .str x, h => by
    cases n <;> exact h
  | 0, .list _, h => by cases h
  | n + 1, .list xs, h => flatL_can n xs h
  | 0, .tuple _, h => by cases h
  | n + 1, .tuple xs, h => flatL_can n xs h
  | 0, .dict _, h => by cases h
  | n + 1, .dict _, h => by cases h
theorem flatL_can : ∀ (n : Nat) (l : List D), flatL n l = true → PyData.canLayAll0 l = true
  | _, [], _ => rfl
  | n, x :: xs, h => by
    have h' : (flat n x && flatL n xs) = true := h
    rw [Bool.and_eq_true] at h'
    show (PyData.canLay0 x && PyData.canLayAll0 xs) = true
    rw [flat_can n x h'.1, flatL_can n xs h'.2]
    rfl
end
mutual
theorem flat_depth : ∀ (n : Nat) (d : D), flat n d = true → d.depth ≤ n
  | _, .none, _ => Nat.zero_le _
  | _, .bool _, _ => Nat.zero_le _
  | _, .int _, _ => Nat.zero_le _
  | _, .str _, _ => Nat.zero_le _
  | 0, .list _, h => by cases h
  | n + 1, .list xs, h => Nat.succ_le_succ (flatL_depth n xs h)
  | 0, .tuple _, h => by cases h
  | n + 1, .tuple xs, h => Nat.succ_le_succ (flatL_depth n xs h)
  | 0, .dict _, h => by cases h
  | n + 1, .dict _, h => by cases h
theorem flatL_depth : ∀ (n : Nat) (l : List D), flatL n l = true → PyData.depthAll l ≤ n
  | _, [], _ => Nat.zero_le _
  | n, x :: xs, h => by
    have h' : (flat n x && flatL n xs) = true := h
    rw [Bool.and_eq_true] at h'
    exact Nat.max_le.mpr ⟨flat_depth n x h'.1, flatL_depth n xs h'.2⟩
end
theorem flat_shaped {d : D} (h : flat 8 d = true) : SeqAt.shaped d = true := by
  unfold SeqAt.shaped
  rw [flat_can 8 d h, decide_eq_true (Nat.le_trans (flat_depth 8 d h) (by decide))]
  rfl
theorem eqD_some {x y : D} {b : Bool} (e : eqD x y = some b) : flat 8 x = true ∧ flat 8 y = true ∧ b = PyData.eqv x y := by
  unfold eqD at e
  split at e
  · rename_i h
    rw [Bool.and_eq_true] at h
    exact ⟨h.1, h.2, (Option.some.inj e).symm⟩
  · cases e
theorem scal_flatV {K : PySem.W.Frag} {F : Hp} {v : V} {x : D} (h : Rp K F v x) (s : scal x = true) : flatV v = true := by
  cases h <;> first | rfl | cases s
theorem scal_eqV {K : PySem.W.Frag} {F : Hp} {u v : V} {x y : D} (h : Rp K F v x) (g : Rp K F u y) (s : scal x = true) (t : scal y = true) : eqV u v = PyData.eqv y x := by
  cases h with
  | lst => cases s
  | tup => cases s
  | _ =>
    cases g with
    | lst => cases t
    | tup => cases t
    | _ => rfl
theorem scal_all {K : PySem.W.Frag} {F : Hp} {v : V} {x : D} (h : Rp K F v x) (s : scal x = true) : ∀ {vs : List V} {l : List D}, RpAll K F vs l → l.all scal = true → vs.all flatV = true ∧ inV v vs = l.any fun z => PyData.eqv z x
  | _, [], g, _ => by cases g; exact ⟨rfl, rfl⟩
  | _, d :: ds, g, t => by
    cases g with
    | cons g1 g2 =>
      rw [List.all_cons, Bool.and_eq_true] at t
      obtain ⟨a, b⟩ := scal_all h s g2 t.2
      refine ⟨?_, ?_⟩
      · rw [List.all_cons, scal_flatV g1 t.1, a]
        rfl
      · unfold inV at b ⊢
        rw [List.any_cons, List.any_cons, scal_eqV h g1 s t.1, b]
theorem Cur.rp_scal {K : PySem.W.Frag} {F H : Hp} {v : V} {x : D} (h : Cur K F H v x) (s : scal x = true) : Rp K F v x := by
  rcases h with ⟨l, a, vs, rfl, _⟩ | ⟨_, h⟩
  · cases s
  · exact h
theorem inD_some {K : PySem.W.Frag} {F H : Hp} {u v : V} {x y : D} {b : Bool} (sm : Same F H) (hx : Cur K F H v x) (hy : Cur K F H u y) (e : inD x y = some b) :
    ∃ p xs, u = .ref p ∧ (SqL K H p xs ∨ SqT K H p xs) ∧ flatV v = true ∧ xs.all flatV = true ∧ b = inV v xs := by
  unfold inD at e
  split at e
  · rename_i l hl
    split at e
    · rename_i hs
      rw [Bool.and_eq_true] at hs
      have hr := hx.rp_scal hs.1
      cases e
      cases y with
      | list l' =>
        cases hl
        obtain ⟨a, vs, rfl, h1, h2⟩ := hy.list
        obtain ⟨q1, q2⟩ := scal_all hr hs.1 h2 hs.2
        exact ⟨a, vs, rfl, .inl h1, scal_flatV hr hs.1, q1, q2.symm⟩
      | tuple l' =>
        cases hl
        obtain ⟨a, vs, rfl, h0, h1, h2⟩ := hy.tup sm
        obtain ⟨q1, q2⟩ := scal_all hr hs.1 h2 hs.2
        exact ⟨a, vs, rfl, .inr h1, scal_flatV hr hs.1, q1, q2.symm⟩
      | _ => cases hl
    · cases e
  · cases e
theorem Cur.non_iff {K : PySem.W.Frag} {F H : Hp} {v : V} {x : D} (h : Cur K F H v x) : (v = .non) ↔ x = .none := by
  rcases h with ⟨l, a, vs, rfl, rfl, _⟩ | ⟨_, h⟩
  · exact ⟨fun e => (by cases e), fun e => (by cases e)⟩
  · cases h <;> exact ⟨fun e => (by first | rfl | cases e), fun e => (by first | rfl | cases e)⟩
theorem or_ord {op : CmpOp} {p : Int → Int → Bool} (ho : OpR X (compareOp op) (rI0 fun i j => .bl (p i j))) : OpR X (compareOp op) (rCmp X.K (ordD p)) := by
  intro pins s σ H x y v u Q I rx ry h
  obtain ⟨F, x', y', b, sm, cx, cy, e, q⟩ := h
  unfold ordD at e
  split at e
  · cases e
    cases cx.int
    cases cy.int
    exact ho pins s σ H _ _ v u Q I rx ry ⟨_, _, rfl, rfl, q⟩
  · cases e
theorem or_cmp (hu : X.A.units + 64 < cLine) (o : CmpOp) : OpR X (compareOp o) (rCmp X.K (cmpD o)) := by
  cases o with
  | Eq =>
    intro pins s σ H x y v u Q I rx ry h
    obtain ⟨F, x', y', b, sm, cx, cy, e, q⟩ := h
    obtain ⟨f1, f2, rfl⟩ := eqD_some e
    exact op_eqD hu pins s σ H x y v u Q I rx ry ⟨x', y', cx.dp sm, cy.dp sm, flat_shaped f1, flat_shaped f2, q⟩
  | NotEq =>
    intro pins s σ H x y v u Q I rx ry h
    obtain ⟨F, x', y', b, sm, cx, cy, e, q⟩ := h
    obtain ⟨b', e1, e2⟩ := Option.map_eq_some_iff.mp e
    obtain ⟨f1, f2, rfl⟩ := eqD_some e1
    cases e2
    exact op_neD hu pins s σ H x y v u Q I rx ry ⟨x', y', cx.dp sm, cy.dp sm, flat_shaped f1, flat_shaped f2, q⟩
  | Lt => exact or_ord op_lt
  | LtE => exact or_ord op_le
  | Gt => exact or_ord op_gt
  | GtE => exact or_ord op_ge
  | Is =>
    intro pins s σ H x y v u Q I rx ry h
    obtain ⟨F, x', y', b, sm, cx, cy, e, q⟩ := h
    have e : isD x' y' = some b := e
    unfold isD at e
    split at e
    · cases e
      cases cy.non
      have ex := cx.non
      exact op_isN pins s σ H x _ v u Q I rx ry ⟨rfl, by rw [decide_eq_true ex]; exact q⟩
    · rename_i n _
      cases e
      cases cy.non
      exact op_isN pins s σ H x _ v u Q I rx ry ⟨rfl, by rw [decide_eq_false fun z => n (cx.non_iff.mp z)]; exact q⟩
    · cases e
      cases cx.bool
      cases cy.bool
      exact op_isBl pins s σ H _ _ v u Q I rx ry ⟨_, _, rfl, rfl, q⟩
    · cases e
  | IsNot =>
    intro pins s σ H x y v u Q I rx ry h
    obtain ⟨F, x', y', b, sm, cx, cy, e, q⟩ := h
    obtain ⟨b', e1, e2⟩ := Option.map_eq_some_iff.mp e
    clear e
    cases e2
    have e : isD x' y' = some b' := e1
    clear e1
    unfold isD at e
    split at e
    · cases e
      cases cy.non
      have ex := cx.non
      exact op_notN pins s σ H x _ v u Q I rx ry ⟨rfl, by rw [decide_eq_true ex]; exact q⟩
    · rename_i n
      cases e
      cases cy.non
      exact op_notN pins s σ H x _ v u Q I rx ry ⟨rfl, by rw [decide_eq_false fun z => n (cx.non_iff.mp z)]; exact q⟩
    · cases e
      cases cx.bool
      cases cy.bool
      exact op_notBl pins s σ H _ _ v u Q I rx ry ⟨_, _, rfl, rfl, q⟩
    · cases e
  | In =>
    intro pins s σ H x y v u Q I rx ry h
    obtain ⟨F, x', y', b, sm, cx, cy, e, q⟩ := h
    obtain ⟨p, xs, rfl, h1, h2, h3, rfl⟩ := inD_some sm cx cy e
    exact op_in_seq pins s σ H x _ v u Q I rx ry ⟨p, xs, rfl, h1, h2, h3, q⟩
  | NotIn =>
    intro pins s σ H x y v u Q I rx ry h
    obtain ⟨F, x', y', b, sm, cx, cy, e, q⟩ := h
    obtain ⟨b', e1, e2⟩ := Option.map_eq_some_iff.mp e
    cases e2
    obtain ⟨p, xs, rfl, h1, h2, h3, rfl⟩ := inD_some sm cx cy e1
    exact op_notIn_seq pins s σ H x _ v u Q I rx ry ⟨p, xs, rfl, h1, h2, h3, q⟩
/-! ### subscripts, slices -/
theorem atI_len {α β : Type} {xs : List α} {ys : List β} (h : xs.length = ys.length) {i : Int} {y : β} (e : atI ys i = some y) : ∃ j, ixN xs.length i = some j ∧ ys[j]? = some y := by
  unfold atI at e
  rw [← h] at e
  cases q : ixN xs.length i with
  | none => rw [q] at e; cases e
  | some j => rw [q] at e; exact ⟨j, rfl, e⟩
theorem atI_of {α : Type} {xs : List α} {i : Int} {j : Nat} {x : α} (h : ixN xs.length i = some j) (e : xs[j]? = some x) : atI xs i = some x := by
  unfold atI
  rw [h]
  exact e
theorem ix_D : IxR X (fun x y H Q => ∃ F x' y' d, Same F H ∧ Cur X.K F H x x' ∧ Cur X.K F H y y' ∧ idxD x' y' = some d ∧ ∀ v, Rp X.K F v d → Q v H) := by
  intro value slice pins s σ H x y v u Q I rx ry h hs
  obtain ⟨F, x', y', d, sm, cx, cy, e, q⟩ := h
  unfold idxD at e
  split at e
  · cases cy.int
    obtain ⟨a, vs, rfl, h1, h2⟩ := cx.list
    obtain ⟨j, e1, e2⟩ := atI_len (RpAll.len h2) e
    obtain ⟨z, e3, e4⟩ := RpAll.get h2 e2
    exact ix_list value slice pins s σ H _ _ v u Q I rx ry ⟨a, vs, _, z, rfl, rfl, h1, atI_of e1 e3, q z e4⟩ hs
  · cases cy.int
    obtain ⟨a, vs, rfl, h0, h1, h2⟩ := cx.tup sm
    obtain ⟨j, e1, e2⟩ := atI_len (RpAll.len h2) e
    obtain ⟨z, e3, e4⟩ := RpAll.get h2 e2
    exact ix_tup value slice pins s σ H _ _ v u Q I rx ry ⟨a, vs, _, z, rfl, rfl, h1, atI_of e1 e3, q z e4⟩ hs
  · cases e
theorem cut_rp {K : PySem.W.Frag} {F : Hp} {vs : List V} {l : List D} (h : RpAll K F vs l) (lo hi : Option Int) : RpAll K F (cutV vs lo hi) (cutL l lo hi) := by
  unfold cutV cutL
  rw [RpAll.len h]
  exact RpAll.tak _ (RpAll.drp _ h)
theorem sl_D : SlR X (fun x lo hi H Q => ∃ F x' w, Same F H ∧ Cur X.K F H x x' ∧ slcD x' lo hi = some w ∧ ∀ v H', ResV X.K F H w v H' → Q v H') := by
  intro pins s σ H x v vl vu lo hi sl Q I rx hs pl pu h
  obtain ⟨F, x', w, sm, cx, e, q⟩ := h
  unfold slcD at e
  split at e
  · cases e
    obtain ⟨a, vs, rfl, h1, h2⟩ := cx.list
    exact sl_list pins s σ H _ v vl vu lo hi sl Q I rx hs pl pu ⟨a, vs, rfl, h1, fun p hp => q _ _ (.lst hp (cut_rp h2 lo hi))⟩
  · cases e
    obtain ⟨a, vs, rfl, h0, h1, h2⟩ := cx.tup sm
    refine sl_tupA pins s σ H _ v vl vu lo hi sl Q I rx hs pl pu ⟨a, vs, rfl, h1, fun hw => ?_, fun _ p hp => q _ _ (.tup hp (cut_rp h2 lo hi))⟩
    have ec := cut_rp h2 lo hi
    have e1 : cutV vs lo hi = vs := by
      unfold cutV
      rw [hw.1, hw.2, List.drop_zero, Nat.sub_zero, List.take_length]
    rw [e1] at ec
    exact q _ _ (.here (.tup h0 ec))
  · cases e
/-! ### built-in functions -/
def rBlt (K : PySem.W.Frag) (b : Blt) : List V → Hp → VK → Prop := fun vs H Q => ∃ F xs w, Same F H ∧ Paired (Cur K F H) vs xs ∧ bltD b xs = some w ∧ ∀ v H', ResV K F H w v H' → Q v H'
theorem pair1 {K : PySem.W.Frag} {F H : Hp} {vs : List V} {x : D} (h : Paired (Cur K F H) vs [x]) : ∃ v, vs = [v] ∧ Cur K F H v x := by
  cases h with
  | cons a b => cases b; exact ⟨_, rfl, a⟩
theorem pair2 {K : PySem.W.Frag} {F H : Hp} {vs : List V} {x y : D} (h : Paired (Cur K F H) vs [x, y]) : ∃ v u, vs = [v, u] ∧ Cur K F H v x ∧ Cur K F H u y := by
  cases h with
  | cons a b => cases b with | cons c d => cases d; exact ⟨_, _, rfl, a, c⟩
theorem least_is : ∀ {ns : List Int} {m : Int}, leastOf ns = some m → 0 < ns.length ∧ m ∈ ns ∧ ∀ y ∈ ns, m ≤ y
  | [], _, e => by cases e
  | x :: r, m, e => by
    cases e
    refine ⟨Nat.succ_pos _, ?_, ?_⟩
    · have : ∀ (l : List Int) (a : Int), l.foldl min a = a ∨ l.foldl min a ∈ l := fun l => by
        induction l with
        | nil => intro a; exact .inl rfl
        | cons b l ih =>
          intro a
          rw [List.foldl_cons]
          rcases ih (min a b) with h | h
          · rw [h]
            rcases Int.le_total a b with q | q
            · exact .inl (Int.min_eq_left q)
            · exact .inr (by rw [Int.min_eq_right q]; exact List.mem_cons_self)
          · exact .inr (List.mem_cons_of_mem _ h)
      rcases this r x with h | h
      · rw [h]; exact List.mem_cons_self
      · exact List.mem_cons_of_mem _ h
    · have : ∀ (l : List Int) (a : Int), l.foldl min a ≤ a ∧ ∀ y ∈ l, l.foldl min a ≤ y := fun l => by
        induction l with
        | nil => intro a; exact ⟨Int.le_refl _, fun y h => by cases h⟩
        | cons b l ih =>
          intro a
          rw [List.foldl_cons]
          obtain ⟨h1, h2⟩ := ih (min a b)
          refine ⟨Int.le_trans h1 (Int.min_le_left a b), fun y hy => ?_⟩
          rcases List.mem_cons.mp hy with rfl | hy
          · exact Int.le_trans h1 (Int.min_le_right a y)
          · exact h2 y hy
      obtain ⟨h1, h2⟩ := this r x
      intro y hy
      rcases List.mem_cons.mp hy with rfl | hy
      · exact h1
      · exact h2 y hy
theorem most_is : ∀ {ns : List Int} {m : Int}, mostOf ns = some m → 0 < ns.length ∧ m ∈ ns ∧ ∀ y ∈ ns, y ≤ m
  | [], _, e => by cases e
  | x :: r, m, e => by
    cases e
    refine ⟨Nat.succ_pos _, ?_, ?_⟩
    · have : ∀ (l : List Int) (a : Int), l.foldl max a = a ∨ l.foldl max a ∈ l := fun l => by
        induction l with
        | nil => intro a; exact .inl rfl
        | cons b l ih =>
          intro a
          rw [List.foldl_cons]
          rcases ih (max a b) with h | h
          · rw [h]
            rcases Int.le_total a b with q | q
            · exact .inr (by rw [Int.max_eq_right q]; exact List.mem_cons_self)
            · exact .inl (Int.max_eq_left q)
          · exact .inr (List.mem_cons_of_mem _ h)
      rcases this r x with h | h
      · rw [h]; exact List.mem_cons_self
      · exact List.mem_cons_of_mem _ h
    · have : ∀ (l : List Int) (a : Int), a ≤ l.foldl max a ∧ ∀ y ∈ l, y ≤ l.foldl max a := fun l => by
        induction l with
        | nil => intro a; exact ⟨Int.le_refl _, fun y h => by cases h⟩
        | cons b l ih =>
          intro a
          rw [List.foldl_cons]
          obtain ⟨h1, h2⟩ := ih (max a b)
          refine ⟨Int.le_trans (Int.le_max_left a b) h1, fun y hy => ?_⟩
          rcases List.mem_cons.mp hy with rfl | hy
          · exact Int.le_trans (Int.le_max_right a y) h1
          · exact h2 y hy
      obtain ⟨h1, h2⟩ := this r x
      intro y hy
      rcases List.mem_cons.mp hy with rfl | hy
      · exact h1
      · exact h2 y hy
theorem insI_perm (x : Int) : ∀ l : List Int, (insI x l).Perm (x :: l)
  | [] => List.Perm.refl _
  | y :: r => by
    unfold insI
    split
    · exact List.Perm.refl _
    · exact ((insI_perm x r).cons y).trans (List.Perm.swap x y r)
theorem sortI_perm : ∀ l : List Int, (sortI l).Perm l
  | [] => List.Perm.refl _
  | x :: r => (insI_perm x (sortI r)).trans ((sortI_perm r).cons x)
theorem insI_up (x : Int) : ∀ l : List Int, l.Pairwise (· ≤ ·) → (insI x l).Pairwise (· ≤ ·)
  | [], _ => List.pairwise_singleton _ _
  | y :: r, h => by
    unfold insI
    split
    · rename_i q
      refine List.pairwise_cons.mpr ⟨fun z hz => ?_, h⟩
      rcases List.mem_cons.mp hz with rfl | hz
      · exact q
      · exact Int.le_trans q ((List.pairwise_cons.mp h).1 z hz)
    · rename_i q
      refine List.pairwise_cons.mpr ⟨fun z hz => ?_, insI_up x r (List.pairwise_cons.mp h).2⟩
      rcases List.mem_cons.mp ((insI_perm x r).mem_iff.mp hz) with rfl | hz
      · omega
      · exact (List.pairwise_cons.mp h).1 z hz
theorem sortI_up : ∀ l : List Int, (sortI l).Pairwise (· ≤ ·)
  | [] => List.Pairwise.nil
  | x :: r => insI_up x _ (sortI_up r)
theorem sort_one : ∀ {l m : List Int}, l.Perm m → l.Pairwise (· ≤ ·) → m.Pairwise (· ≤ ·) → l = m
  | [], m, p, _, _ => (List.Perm.nil_eq p)
  | x :: l, [], p, _, _ => absurd p.length_eq (by simp)
  | x :: l, y :: m, p, h, g => by
    have h1 := List.pairwise_cons.mp h
    have g1 := List.pairwise_cons.mp g
    have e : x = y := by
      have a : x ≤ y := by
        rcases List.mem_cons.mp (p.mem_iff.mpr (List.mem_cons_self (a := y) (l := m))) with q | q
        · omega
        · exact h1.1 y q
      have b : y ≤ x := by
        rcases List.mem_cons.mp (p.mem_iff.mp (List.mem_cons_self (a := x) (l := l))) with q | q
        · omega
        · exact g1.1 x q
      omega
    subst e
    rw [sort_one (List.Perm.cons_inv p) h1.2 g1.2]
/-- what stands at a built-in's name -/
def bltV : Blt → Value
  | .len => .builtin "len"
  | .abs => .builtin "abs"
  | .min2 => .builtin "min"
  | .max2 => .builtin "max"
  | .min1 => .builtin "min"
  | .max1 => .builtin "max"
  | .sum => .builtin "sum"
  | .all => .builtin "all"
  | .any => .builtin "any"
  | .tuple => .type "tuple"
  | .list => .type "list"
  | .int => .type "int"
  | .sorted => .builtin "sorted"
theorem cr_blt (hc : X.calm = true) (b : Blt) : CallR X (bltV b) (rBlt X.K b) := by
  intro pins s σ H xs us Q I rr h
  obtain ⟨F, ds, w, sm, cs, e, q⟩ := h
  unfold bltD at e
  split at e
  · -- len
    obtain ⟨v, rfl, c⟩ := pair1 cs
    split at e
    · cases e
      obtain ⟨a, vs, rfl, h1, h2⟩ := c.list
      refine call_len_seq pins s σ H _ us Q I rr ⟨a, vs, rfl, .inl h1, ?_⟩
      rw [RpAll.len h2]
      exact q _ _ (.here (.int _))
    · cases e
      obtain ⟨a, vs, rfl, h0, h1, h2⟩ := c.tup sm
      refine call_len_seq pins s σ H _ us Q I rr ⟨a, vs, rfl, .inr h1, ?_⟩
      rw [RpAll.len h2]
      exact q _ _ (.here (.int _))
    · split at e <;> cases e
      rename_i hz
      cases c.str
      exact call_len_str pins s σ H _ us Q I rr ⟨_, rfl, hz, q _ _ (.here (.int _))⟩
    · cases e
  · cases e
    obtain ⟨v, rfl, c⟩ := pair1 cs
    cases c.int
    exact call_abs pins s σ H _ us Q I rr ⟨_, rfl, q _ _ (.here (.int _))⟩
  · cases e
    obtain ⟨v, u, rfl, c, d⟩ := pair2 cs
    cases c.int
    cases d.int
    exact call_min2 hc pins s σ H _ us Q I rr ⟨_, _, rfl, q _ _ (.here (.int _))⟩
  · cases e
    obtain ⟨v, u, rfl, c, d⟩ := pair2 cs
    cases c.int
    cases d.int
    exact call_max2 hc pins s σ H _ us Q I rr ⟨_, _, rfl, q _ _ (.here (.int _))⟩
  · obtain ⟨v, rfl, c⟩ := pair1 cs
    obtain ⟨m, e1, rfl⟩ := Option.map_eq_some_iff.mp e
    obtain ⟨ns, e2, e3⟩ := Option.bind_eq_some_iff.mp e1
    obtain ⟨a, vs, rfl, h1, h2⟩ := c.list
    obtain ⟨rfl, _⟩ := RpAll.ints h2 e2
    obtain ⟨l1, l2, l3⟩ := least_is e3
    refine cr_min hc pins s σ H _ us Q I rr ⟨a, ns, rfl, h1, l1, fun m' hm hle => ?_⟩
    have em : m' = m := by
      have z1 := l3 m' hm
      have z2 := hle m l2
      omega
    subst em
    exact q _ _ (.here (.int _))
  · obtain ⟨v, rfl, c⟩ := pair1 cs
    obtain ⟨m, e1, rfl⟩ := Option.map_eq_some_iff.mp e
    obtain ⟨ns, e2, e3⟩ := Option.bind_eq_some_iff.mp e1
    obtain ⟨a, vs, rfl, h1, h2⟩ := c.list
    obtain ⟨rfl, _⟩ := RpAll.ints h2 e2
    obtain ⟨l1, l2, l3⟩ := most_is e3
    refine cr_max hc pins s σ H _ us Q I rr ⟨a, ns, rfl, h1, l1, fun m' hm hle => ?_⟩
    have em : m' = m := by
      have z1 := l3 m' hm
      have z2 := hle m l2
      omega
    subst em
    exact q _ _ (.here (.int _))
  · obtain ⟨v, rfl, c⟩ := pair1 cs
    obtain ⟨ns, e2, rfl⟩ := Option.map_eq_some_iff.mp e
    obtain ⟨a, vs, rfl, h1, h2⟩ := c.list
    obtain ⟨rfl, _⟩ := RpAll.ints h2 e2
    exact cr_sum hc pins s σ H _ us Q I rr ⟨a, ns, rfl, h1, q _ _ (.here (.int _))⟩
  · obtain ⟨v, rfl, c⟩ := pair1 cs
    obtain ⟨ns, e2, rfl⟩ := Option.map_eq_some_iff.mp e
    obtain ⟨a, vs, rfl, h1, h2⟩ := c.list
    obtain ⟨rfl, _⟩ := RpAll.bools h2 e2
    exact cr_all hc pins s σ H _ us Q I rr ⟨a, ns, rfl, h1, q _ _ (.here (.bl _))⟩
  · obtain ⟨v, rfl, c⟩ := pair1 cs
    obtain ⟨ns, e2, rfl⟩ := Option.map_eq_some_iff.mp e
    obtain ⟨a, vs, rfl, h1, h2⟩ := c.list
    obtain ⟨rfl, _⟩ := RpAll.bools h2 e2
    exact cr_any hc pins s σ H _ us Q I rr ⟨a, ns, rfl, h1, q _ _ (.here (.bl _))⟩
  · obtain ⟨v, rfl, c⟩ := pair1 cs
    split at e
    · cases e
      obtain ⟨a, vs, rfl, h1, h2⟩ := c.list
      exact call_tuple_of pins s σ H _ us Q I rr ⟨a, vs, rfl, .inl ⟨h1, fun p hp => q _ _ (.tup hp h2)⟩⟩
    · cases e
      obtain ⟨a, vs, rfl, h0, h1, h2⟩ := c.tup sm
      exact call_tuple_of pins s σ H _ us Q I rr ⟨a, vs, rfl, .inr ⟨h1, q _ _ (.here (.tup h0 h2))⟩⟩
    · cases e
  · obtain ⟨v, rfl, c⟩ := pair1 cs
    split at e
    · cases e
      obtain ⟨a, vs, rfl, h1, h2⟩ := c.list
      exact call_list_of pins s σ H _ us Q I rr ⟨a, vs, rfl, .inl h1, fun p hp => q _ _ (.lst hp h2)⟩
    · cases e
      obtain ⟨a, vs, rfl, h0, h1, h2⟩ := c.tup sm
      exact call_list_of pins s σ H _ us Q I rr ⟨a, vs, rfl, .inr h1, fun p hp => q _ _ (.lst hp h2)⟩
    · cases e
  · cases e
    obtain ⟨v, rfl, c⟩ := pair1 cs
    cases c.int
    exact call_int1 pins s σ H _ us Q I rr (.inl ⟨_, rfl, q _ _ (.here (.int _))⟩)
  · cases e
    obtain ⟨v, rfl, c⟩ := pair1 cs
    cases c.bool
    exact call_int1 pins s σ H _ us Q I rr (.inr ⟨_, rfl, q _ _ (.here (.int _))⟩)
  · obtain ⟨v, rfl, c⟩ := pair1 cs
    obtain ⟨ns, e2, rfl⟩ := Option.map_eq_some_iff.mp e
    obtain ⟨a, vs, rfl, h1, h2⟩ := c.list
    obtain ⟨rfl, _⟩ := RpAll.ints h2 e2
    refine cr_sortedI pins s σ H _ us Q I rr ⟨a, ns, rfl, h1, fun ns' p hp up new => ?_⟩
    have es : ns' = sortI ns := sort_one (hp.trans (sortI_perm ns).symm) up (sortI_up ns)
    subst es
    exact q _ _ (.lst new (rpAll_ints _))
  · cases e
/-! ### isinstance -/
def tyN : Ty → String
  | .int => "int"
  | .bool => "bool"
  | .tuple => "tuple"
  | .list => "list"
  | .str => "str"
theorem kit_non : ∀ t : Ty, kitB "NoneType" (tyN t) = some false := fun t => by cases t <;> decide +kernel
theorem kit_bool : ∀ t : Ty, kitB "bool" (tyN t) = some (match t with | .int => true | .bool => true | _ => false) := fun t => by cases t <;> decide +kernel
theorem kit_int : ∀ t : Ty, kitB "int" (tyN t) = some (match t with | .int => true | _ => false) := fun t => by cases t <;> decide +kernel
theorem kit_str : ∀ t : Ty, kitB "str" (tyN t) = some (match t with | .str => true | _ => false) := fun t => by cases t <;> decide +kernel
theorem kit_list : ∀ t : Ty, kitB "list" (tyN t) = some (match t with | .list => true | _ => false) := fun t => by cases t <;> decide +kernel
theorem kit_tuple : ∀ t : Ty, kitB "tuple" (tyN t) = some (match t with | .tuple => true | _ => false) := fun t => by cases t <;> decide +kernel
theorem cur_ty {K : PySem.W.Frag} {F H : Hp} {v : V} {x : D} (sm : Same F H) (c : CurX K F H v x) : ∃ n : String, TyX K H v (.type n) ∧ ∀ t : Ty, kitB n (tyN t) = some (isaD t x) := by
  cases x with
  | none => cases c.cur.non; exact ⟨_, .base .non, fun t => (kit_non t).trans (by cases t <;> rfl)⟩
  | bool b => cases c.cur.bool; exact ⟨_, .base (.bl _), fun t => (kit_bool t).trans (by cases t <;> rfl)⟩
  | int b => cases c.cur.int; exact ⟨_, .base (.int _), fun t => (kit_int t).trans (by cases t <;> rfl)⟩
  | str b => cases c.cur.str; exact ⟨_, .base (.str _), fun t => (kit_str t).trans (by cases t <;> rfl)⟩
  | list l =>
    obtain ⟨a, vs, rfl, h1, h2⟩ := c.list
    refine ⟨"list", ?_, fun t => (kit_list t).trans (by cases t <;> rfl)⟩
    exact .base (.lst h1)
  | tuple l =>
    obtain ⟨a, vs, rfl, h0, h1, h2⟩ := c.cur.tup sm
    refine ⟨"tuple", ?_, fun t => (kit_tuple t).trans (by cases t <;> rfl)⟩
    rcases h1 with (h1 | ⟨o, h1⟩) | ⟨o, its, n, h1, h3, _⟩
    · exact .base (.tup h1)
    · exact .fTuple h1
    · exact .kTuple h1 h3
  | dict kvs =>
    rcases c with ⟨l, a, vs, e, _⟩ | ⟨_, c⟩
    · cases e
    · cases c
end
end SR
/-! The engine, part 4: what a text of the program gives, by the evaluator: names, displays, operators, tests. -/
namespace SR
open PySem PySem.Spec PyProof.Rows L2
/-- what is fixed through a law: the tables of code objects that hold lambdas, the classes of errors with their attribute -/
structure Gx where
  T : List (Addr × Str)
  ex : Nat → Option (Addr × Str)
def Exc (K : PySem.W.Frag) (G : Gx) (c : Nat) (p : D) (F : Hp) (cls : Value) (d : Addr) (H : Hp) : Prop :=
  ∃ C at_ v, G.ex c = some (C, at_) ∧ cls = .ref C ∧ H d = some (.xd [(at_, v)]) ∧ Rp K F v p
/-- behind an evaluation -/
def Post {α : Type} (K : PySem.W.Frag) (G : Gx) (Wx : WX) (x : R α) (F : Hp) (r : Sl) (σ : L2.St) (H : Hp) (ok : α → Sl → Hp → Hp → Prop) : Prop := match x with
  | .ok a r' => ∀ F' H', StR K G.T F' r' σ H' → Stp NoZ F r σ H F' r' σ H' → ok a r' F' H'
  | .err c p r' => ∀ F' H' cls d, StR K G.T F' r' σ H' → Stp NoZ F r σ H F' r' σ H' → Exc K G c p F' cls d H' → Wx cls (some d) σ H'
  | .bad => False
/-- only the last one may be a new list -/
def OnlyLast : List W → Prop
  | [] => True
  | [_] => True
  | w :: v :: ws => (∀ l, w ≠ .f l) ∧ OnlyLast (v :: ws)
section
variable {K : PySem.W.Frag} {G : Gx} {Wx : WX}
def tOf (K : PySem.W.Frag) (G : Gx) (Wx : WX) (te : Sl → R W) : TE := fun σ H Q => ∃ F r, StR K G.T F r σ H ∧ Post K G Wx (te r) F r σ H fun w r' F' H' => ∀ v, RelW K F' r' σ H' v w → FrS H v w → Q v H'
def tOfT (K : PySem.W.Frag) (G : Gx) (Wx : WX) (te : Sl → R W) : TT := fun σ H Q => ∃ F r, StR K G.T F r σ H ∧ Post K G Wx (te r) F r σ H fun w r' F' H' => ∃ b, asBool w = some b ∧ Q b H'
def tOfs (K : PySem.W.Frag) (G : Gx) (Wx : WX) (te : Sl → R (List W)) : TA := fun σ H Q => ∃ F r, StR K G.T F r σ H ∧ Post K G Wx (te r) F r σ H fun ws r' F' H' => ∀ vs, Paired (RelW K F' r' σ H') vs ws → Paired (FrS H) vs ws → OnlyLast ws → Q vs H'
/-- a walk of the items ds -/
def WalkD (K : PySem.W.Frag) (F : Hp) (J : It) (ds : List D) : Prop :=
  ∃ (Gd : Hp → Prop) (Y : Nat → Hp → V → Hp → Prop), Walk J ds.length Gd Y ∧ (∀ H, Same F H → Gd H) ∧ ∀ i H x H', i < ds.length → Y i H x H' → ∃ d, ds[i]? = some d ∧ ResV K F H (.d d) x H'
def tOfI (K : PySem.W.Frag) (G : Gx) (Wx : WX) (ti : Sl → R (List D)) : TI := fun σ H Rk => ∃ F r, StR K G.T F r σ H ∧ Post K G Wx (ti r) F r σ H fun ds r' F' H' => ∀ J, WalkD K F' J ds → Rk J H'
end
abbrev SE (X : Cx) (G : Gx) (Wx : WX) (e : Expr) (te : Sl → R W) : Prop := PE X e (tOf X.K G Wx te)
abbrev ST (X : Cx) (G : Gx) (Wx : WX) (e : Expr) (te : Sl → R W) : Prop := PT X e (tOfT X.K G Wx te)
abbrev SA (X : Cx) (G : Gx) (Wx : WX) (es : List Expr) (te : Sl → R (List W)) : Prop := PA X es (tOfs X.K G Wx te)
abbrev SI (X : Cx) (G : Gx) (Wx : WX) (tg it : Expr) (ti : Sl → R (List D)) : Prop := PI X tg it (tOfI X.K G Wx ti)
theorem pe_imp {X : Cx} {e : Expr} {t t' : TE} (h : PE X e t) (i : ∀ σ H Q, t' σ H Q → t σ H Q) : PE X e t' := ⟨fun pins s σ H Q I q => h.run pins s σ H Q I (i σ H Q q)⟩
theorem pt_imp {X : Cx} {e : Expr} {t t' : TT} (h : PT X e t) (i : ∀ σ H Q, t' σ H Q → t σ H Q) : PT X e t' := ⟨fun pins s σ H Q I q => h.run pins s σ H Q I (i σ H Q q)⟩
theorem pa_imp {X : Cx} {e : List Expr} {t t' : TA} (h : PA X e t) (i : ∀ σ H Q, t' σ H Q → t σ H Q) : PA X e t' := ⟨fun pos pins s σ H Q I q => h.run pos pins s σ H Q I (i σ H Q q)⟩
theorem pi_imp {X : Cx} {tg e : Expr} {t t' : TI} (h : PI X tg e t) (i : ∀ σ H Q, t' σ H Q → t σ H Q) : PI X tg e t' := ⟨fun pins s σ H Q I q => h.run pins s σ H Q I (i σ H Q q)⟩
section
variable {K : PySem.W.Frag} {G : Gx} {Wx : WX} {F F1 F2 : Hp} {r r1 r2 : Sl} {σ : L2.St} {H H1 H2 : Hp}
/-- an evaluation, then what follows -/
theorem Post.un {α β : Type} {x : R α} {f : α → Sl → R β} {ok : β → Sl → Hp → Hp → Prop} (S : Stp NoZ F r σ H F1 r1 σ H1) (h : Post K G Wx (x.bind f) F r σ H ok) :
    Post K G Wx x F1 r1 σ H1 fun a r2 F2 H2 => StR K G.T F2 r2 σ H2 ∧ Stp NoZ F1 r1 σ H1 F2 r2 σ H2 ∧ Stp NoZ F r σ H F2 r2 σ H2 ∧ Post K G Wx (f a r2) F r σ H ok := by
  cases x with
  | ok a r2 => exact fun F2 H2 R2 S2 => ⟨R2, S2, S.trans0 S2, h⟩
  | err c p r2 => exact fun F' H' cls d R' S' E' => h F' H' cls d R' (S.trans0 S') E'
  | bad => exact h
theorem Post.mono {α : Type} {x : R α} {ok ok' : α → Sl → Hp → Hp → Prop} (h : Post K G Wx x F r σ H ok) (i : ∀ a r' F' H', ok a r' F' H' → ok' a r' F' H') : Post K G Wx x F r σ H ok' := by
  cases x with
  | ok a r2 => exact fun F2 H2 R2 S2 => i _ _ _ _ (h F2 H2 R2 S2)
  | err c p r2 => exact h
  | bad => exact h
/-- from a later state -/
theorem Post.base {α : Type} {x : R α} {ok : α → Sl → Hp → Hp → Prop} (S : Stp NoZ F r σ H F1 r1 σ H1) (h : Post K G Wx x F r σ H ok) : Post K G Wx x F1 r1 σ H1 ok := by
  cases x with
  | ok a r2 => exact fun F2 H2 R2 S2 => h F2 H2 R2 (S.trans0 S2)
  | err c p r2 => exact fun F' H' cls d R' S' E' => h F' H' cls d R' (S.trans0 S') E'
  | bad => exact h
theorem FrS.of {v : V} {w : W} (h : FrS H v w) : ∀ b, (v = .ref b ∧ ∃ l, w = .f l) → Nt H b := fun b ⟨e, l, e2⟩ => by
  subst e2
  exact h b e
/-- a kept value, from the start -/
theorem StR.kept' {v : V} {w : W} {x : D} (R : StR K G.T F1 r1 σ H1) (S : Stp NoZ F r σ H F1 r1 σ H1) (h : RelW K F1 r1 σ H1 v w) (fr : FrS H v w) (e : keepW r1 w = some (x, r2)) :
    ∃ F', StR K G.T F' r2 σ H1 ∧ Stp NoZ F r σ H F' r2 σ H1 ∧ Rp K F' v x := by
  obtain ⟨F', R', S', h'⟩ := R.kept h e
  exact ⟨F', R', S.trans S' fun b hb => .inl (fr.of b hb), h'⟩
/-- a new list is settled -/
theorem StR.settled {v : V} {w : W} (R : StR K G.T F r σ H) (h : RelW K F r σ H v w) : ∃ F', StR K G.T F' r σ H ∧ Stp (fun b => v = .ref b ∧ ∃ l, w = .f l) F r σ H F' r σ H ∧ RelW K F' r σ H v (stl w) := by
  cases w with
  | d x => exact ⟨F, R, Stp.refl, h⟩
  | s i => exact ⟨F, R, Stp.refl, h⟩
  | f l =>
    obtain ⟨F', a, b, c⟩ := R.kept (x := .list l) (r' := r) h rfl
    exact ⟨F', a, b, c⟩
theorem stl_notf {w : W} : ∀ l, stl w ≠ .f l := fun l e => by cases w <;> cases e
/-- several values kept -/
theorem StR.keptAll : ∀ {ws : List W} {vs : List V} {xs : List D} {F : Hp} {r r' : Sl}, StR K G.T F r σ H → Paired (RelW K F r σ H) vs ws → OnlyLast ws → keepAll r ws = some (xs, r') →
    ∃ F', StR K G.T F' r' σ H ∧ Stp (fun b => ∃ l, (V.ref b, W.f l) ∈ vs.zip ws) F r σ H F' r' σ H ∧ RpAll K F' vs xs
  | [], _, _, F, r, _, R, .nil, _, e => by
    simp only [keepAll, Option.some.injEq, Prod.mk.injEq] at e
    obtain ⟨rfl, rfl⟩ := e
    exact ⟨F, R, Stp.refl, .nil⟩
  | w :: ws, v :: vs, _, F, r, r', R, .cons h hs, o, e => by
    simp only [keepAll] at e
    split at e
    · rename_i x r1 e1
      split at e
      · rename_i xs r2 e2
        simp only [Option.some.injEq, Prod.mk.injEq] at e
        obtain ⟨rfl, rfl⟩ := e
        obtain ⟨F1, R1, S1, p1⟩ := R.kept h e1
        cases ws with
        | nil =>
          cases hs
          simp only [keepAll, Option.some.injEq, Prod.mk.injEq] at e2
          obtain ⟨rfl, rfl⟩ := e2
          refine ⟨F1, R1, (Stp.refl).trans S1 fun b ⟨q1, l, q2⟩ => .inr ⟨l, ?_⟩, .cons p1 .nil⟩
          rw [q1, q2]
          exact List.mem_cons_self
        | cons w2 ws =>
          have nf : ∀ l, w ≠ .f l := o.1
          have hs1 : Paired (RelW K F1 r1 σ H) vs (w2 :: ws) := Paired.mapP hs fun u y q => RelW.step q (fun hz => by obtain ⟨a, _, _, l, z⟩ := hz; exact nf l z) S1
          obtain ⟨F2, R2, S2, p2⟩ := StR.keptAll R1 hs1 o.2 e2
          refine ⟨F2, R2, ((Stp.refl).trans S1 fun b ⟨_, l, q⟩ => absurd q (nf l)).trans S2 fun b ⟨l, q⟩ => .inr ⟨l, List.mem_cons_of_mem _ q⟩, .cons (rp_mono S2.ext _ _ p1) p2⟩
      · cases e
    · cases e
theorem frL_of : ∀ {vs : List V} {ws : List W}, Paired (FrS H) vs ws → ∀ b, (∃ l, (V.ref b, W.f l) ∈ vs.zip ws) → Nt H b
  | _, _, .nil, b, ⟨l, q⟩ => by simp at q
  | _, _, .cons h hs, b, ⟨l, q⟩ => by
    rw [List.zip_cons_cons] at q
    rcases List.mem_cons.mp q with e | q
    · cases e
      exact h b rfl
    · exact frL_of hs b ⟨l, q⟩
theorem StR.fixL : ∀ {ws : List W} {vs : List V} {xs : List D}, StR K G.T F r σ H → Paired (RelW K F r σ H) vs ws → fixAll r ws = some xs → Paired (Cur K F H) vs xs
  | [], _, _, R, .nil, e => by
    cases e
    exact .nil
  | w :: ws, _, _, R, .cons h hs, e => by
    simp only [fixAll] at e
    split at e
    · rename_i x xs e1 e2
      cases e
      exact .cons (R.fix h e1) (StR.fixL R hs e2)
    · cases e
end
section
variable {X : Cx} {G : Gx} {Wx : WX} {fs : List FI} {pos : Pos}
/-! ### names, constants, displays -/
theorem se_var {i : Nat} {x : Str} (hN : X.N[i]? = some x) (hv : Vis X.env.scope x) (hd : (x == ("__debug__" : Str)) = false) (hcd : (x == ("__classdict__" : Str)) = false) : SE X G Wx (.Name x pos) (evE fs (.var i)) := by
  refine pe_imp (pe_var hN hv hd hcd) ?_
  rintro σ H Q ⟨F, r, R, h⟩
  simp only [evE] at h
  split at h
  · rename_i d q
    obtain ⟨v, e1, e2⟩ := R.slot i _ q
    exact ⟨v, e1, h F H R Stp.refl v e2 trivial⟩
  · rename_i d q
    obtain ⟨a, vs, e1, _⟩ := R.slot i _ q
    exact ⟨_, e1, h F H R Stp.refl _ e1 trivial⟩
  · rename_i d q
    obtain ⟨a, vs, e1, _⟩ := R.slot i _ q
    exact ⟨_, e1, h F H R Stp.refl _ e1 trivial⟩
  · rename_i d q
    obtain ⟨a, vs, e1, _⟩ := R.slot i _ q
    exact ⟨_, e1, h F H R Stp.refl _ e1 trivial⟩
  · exact h.elim
theorem se_const {e : Expr} {v : V} {d : D} {te : Sl → R W} (h : PE X e (tC v)) (rp : ∀ F, Rp X.K F v d) (ht : ∀ r, te r = .ok (.d d) r) : SE X G Wx e te := by
  refine pe_imp h ?_
  rintro σ H Q ⟨F, r, R, h⟩
  rw [ht] at h
  exact h F H R Stp.refl v (rp F) trivial
theorem sa_nil : SA X G Wx [] (evEs fs .nil) := by
  refine pa_imp pa_nil ?_
  rintro σ H Q ⟨F, r, R, h⟩
  simp only [evEs] at h
  exact h F H R Stp.refl [] .nil .nil trivial
theorem sa_one {e : Expr} {c : CE} (he : SE X G Wx e (evE fs c)) (hs : starEach [e] X.env = (false, eval e X.env) :: starEach [] X.env) : SA X G Wx [e] (evEs fs (.cons c .nil)) := by
  refine pa_imp (pa_cons he pa_nil hs) ?_
  rintro σ H Q ⟨F, r, R, h⟩
  simp only [evEs] at h
  refine ⟨F, r, R, (Post.un Stp.refl h).mono fun w r1 F1 H1 ⟨R1, S1, _, h1⟩ v rv fv => ?_⟩
  exact h1 F1 H1 R1 S1 [v] (.cons rv .nil) (.cons fv .nil) trivial
theorem sa_cons {e e2 : Expr} {es : List Expr} {c c2 : CE} {cs : CEs} (he : SE X G Wx e (evE fs c)) (hes : SA X G Wx (e2 :: es) (evEs fs (.cons c2 cs))) (hs : starEach (e :: e2 :: es) X.env = (false, eval e X.env) :: starEach (e2 :: es) X.env)
    (hne : ∀ r : Sl, ∀ ws r', evEs fs (.cons c2 cs) r = .ok ws r' → ws ≠ []) : SA X G Wx (e :: e2 :: es) (evEs fs (.cons c (.cons c2 cs))) := by
  refine pa_imp (pa_cons he hes hs) ?_
  rintro σ H Q ⟨F, r, R, h⟩
  rw [show evEs fs (.cons c (.cons c2 cs)) r = (evE fs c r).bind fun w r1 => (evEs fs (.cons c2 cs) r1).bind fun ws r2 => .ok (stl w :: ws) r2 from by simp only [evEs]] at h
  refine ⟨F, r, R, (Post.un Stp.refl h).mono fun w r1 F1 H1 ⟨R1, S1, _, h1⟩ v rv fv => ?_⟩
  obtain ⟨F2, R2, S2, q2⟩ := R1.settled rv
  have S02 : Stp NoZ F r σ H F2 r1 σ H1 := S1.trans S2 fun b hb => .inl (fv.of b hb)
  refine ⟨F2, r1, R2, ?_⟩
  have h2 := Post.un S02 h1
  cases e3 : evEs fs (.cons c2 cs) r1 with
  | ok ws r3 =>
    rw [e3] at h2
    intro F3 H3 R3 S3 vs rs frs ol
    obtain ⟨_, S3', S03, h3⟩ := h2 F3 H3 R3 S3
    refine h3 F3 H3 R3 S03 (v :: vs) (.cons (q2.step0 S3) rs) (.cons ?_ (Paired.mapP frs fun _ _ z => z.back S02)) ?_
    · cases w <;> trivial
    · have hn := hne r1 ws r3 e3
      cases ws with
      | nil => exact absurd rfl hn
      | cons w2 ws2 => exact ⟨stl_notf, ol⟩
  | err c p r3 => rw [e3] at h2; exact h2
  | bad => rw [e3] at h2; exact h2
theorem se_tup {es : List Expr} {cs : CEs} {k : Nat} (h : SA X G Wx es (evEs fs cs)) : SE X G Wx (.Tuple es k pos) (evE fs (.tup cs)) := by
  refine pe_imp (pe_tup h) ?_
  rintro σ H Q ⟨F, r, R, h⟩
  simp only [evE] at h
  refine ⟨F, r, R, (Post.un Stp.refl h).mono fun ws r1 F1 H1 ⟨R1, S1, _, h1⟩ vs rs frs ol => ?_⟩
  split at h1
  · rename_i xs r2 e
    split at h1
    · rename_i hz
      obtain ⟨F2, R2, S2, p2⟩ := R1.keptAll rs ol e
      refine ⟨by rw [RpAll.len p2]; exact hz, fun p hp => ?_⟩
      obtain ⟨R3, S3, p3⟩ := R2.newTup hp p2
      exact h1 _ _ R3 ((S1.trans S2 fun b hb => .inl (frL_of frs b hb)).trans0 S3) _ p3 trivial
    · exact h1.elim
  · exact h1.elim
theorem se_lst {es : List Expr} {cs : CEs} (h : SA X G Wx es (evEs fs cs)) : SE X G Wx (.List es pos) (evE fs (.lst cs)) := by
  refine pe_imp (pe_lst h) ?_
  rintro σ H Q ⟨F, r, R, h⟩
  simp only [evE] at h
  refine ⟨F, r, R, (Post.un Stp.refl h).mono fun ws r1 F1 H1 ⟨R1, S1, _, h1⟩ vs rs frs ol => ?_⟩
  split at h1
  · rename_i xs r2 e
    split at h1
    · rename_i hz
      obtain ⟨F2, R2, S2, p2⟩ := R1.keptAll rs ol e
      refine ⟨by rw [RpAll.len p2]; exact hz, fun p hp => ?_⟩
      have S02 := S1.trans S2 fun b hb => .inl (frL_of frs b hb)
      obtain ⟨R3, S3, p3, p4⟩ := R2.newList hp p2
      exact h1 _ _ R3 (S02.trans0 S3) _ p3 (p4.back S02)
    · exact h1.elim
  · exact h1.elim
/-! ### operators -/
theorem se_bin {a b : Expr} {ca cb : CE} {o : Operator} (ha : SE X G Wx a (evE fs ca)) (hb : SE X G Wx b (evE fs cb)) : SE X G Wx (.BinOp a o b pos) (evE fs (.bin o ca cb)) := by
  refine pe_imp (pe_op (or_bin o) ha hb) ?_
  rintro σ H Q ⟨F, r, R, h⟩
  simp only [evE] at h
  refine ⟨F, r, R, (Post.un Stp.refl h).mono fun wa r1 F1 H1 ⟨R1, S1, _, h1⟩ va ra fa => ⟨F1, r1, R1, (Post.un S1 h1).mono fun wb r2 F2 H2 ⟨R2, S2, S02, h2⟩ vb rb fb => ?_⟩⟩
  split at h2
  · rename_i x y e1 e2
    cases e3 : binD o x y with
    | none => rw [e3] at h2; exact h2.elim
    | some w =>
      rw [e3] at h2
      refine ⟨F2, x, y, w, R2.sub, R2.fixx (ra.step0 S2) e1, R2.fixx rb e2, e3, fun v H' hv => ?_⟩
      obtain ⟨F3, R3, S3, p3, p4⟩ := R2.res hv
      exact h2 F3 H' R3 (S02.trans0 S3) v p3 (p4.back S02)
  · exact h2.elim
theorem se_neg {a : Expr} {ca : CE} (ha : SE X G Wx a (evE fs ca)) : SE X G Wx (.UnaryOp .USub a pos) (evE fs (.neg ca)) := by
  refine pe_imp (pe_un un_neg ha) ?_
  rintro σ H Q ⟨F, r, R, h⟩
  simp only [evE] at h
  refine ⟨F, r, R, (Post.un Stp.refl h).mono fun wa r1 F1 H1 ⟨R1, S1, _, h1⟩ va ra fa => ?_⟩
  split at h1
  · cases ra
    exact ⟨_, rfl, h1 F1 H1 R1 S1 _ (.int _) trivial⟩
  · exact h1.elim
theorem se_cmp {a b : Expr} {ca cb : CE} {o : CmpOp} (hu : X.A.units + 64 < cLine) (ha : SE X G Wx a (evE fs ca)) (hb : SE X G Wx b (evE fs cb)) (hm : behindInMarks o b = false) : SE X G Wx (.Compare a [o] [b] pos) (evE fs (.cmp o ca cb)) := by
  refine pe_imp (pe_cmpR (or_cmp hu o) ha hb hm) ?_
  rintro σ H Q ⟨F, r, R, h⟩
  simp only [evE] at h
  refine ⟨F, r, R, (Post.un Stp.refl h).mono fun wa r1 F1 H1 ⟨R1, S1, _, h1⟩ va ra fa => ⟨F1, r1, R1, (Post.un S1 h1).mono fun wb r2 F2 H2 ⟨R2, S2, S02, h2⟩ vb rb fb => ?_⟩⟩
  split at h2
  · rename_i x y e1 e2
    cases e3 : cmpD o x y with
    | none => rw [e3] at h2; exact h2.elim
    | some w =>
      rw [e3] at h2
      exact ⟨F2, x, y, w, R2.sub, R2.fix (ra.step0 S2) e1, R2.fix rb e2, e3, h2 F2 H2 R2 S02 _ (.bl _) trivial⟩
  · exact h2.elim
theorem st_cmp {a b : Expr} {ca cb : CE} {o : CmpOp} (hu : X.A.units + 64 < cLine) (ha : SE X G Wx a (evE fs ca)) (hb : SE X G Wx b (evE fs cb)) (hm : behindInMarks o b = false) : ST X G Wx (.Compare a [o] [b] pos) (evE fs (.cmp o ca cb)) := by
  refine pt_imp (pt_cmpR (or_cmp hu o) ha hb hm) ?_
  rintro σ H Q ⟨F, r, R, h⟩
  simp only [evE] at h
  refine ⟨F, r, R, (Post.un Stp.refl h).mono fun wa r1 F1 H1 ⟨R1, S1, _, h1⟩ va ra fa => ⟨F1, r1, R1, (Post.un S1 h1).mono fun wb r2 F2 H2 ⟨R2, S2, S02, h2⟩ vb rb fb => ?_⟩⟩
  split at h2
  · rename_i x y e1 e2
    cases e3 : cmpD o x y with
    | none => rw [e3] at h2; exact h2.elim
    | some w =>
      rw [e3] at h2
      obtain ⟨b, hb, q⟩ := h2 F2 H2 R2 S02
      cases hb
      exact ⟨F2, x, y, w, R2.sub, R2.fix (ra.step0 S2) e1, R2.fix rb e2, e3, _, rfl, q⟩
  · exact h2.elim
theorem se_chain {a b c : Expr} {ca cb cc : CE} {o o' : CmpOp} (hu : X.A.units + 64 < cLine) (ha : SE X G Wx a (evE fs ca)) (hb : SE X G Wx b (evE fs cb)) (hc : SE X G Wx c (evE fs cc)) (hm : lastMarks [o, o'] [b, c] = false) :
    SE X G Wx (.Compare a [o, o'] [b, c] pos) (evE fs (.chain o o' ca cb cc)) := by
  refine pe_imp (pe_chain (or_cmp hu o) (or_cmp hu o') ha hb hc hm) ?_
  rintro σ H Q ⟨F, r, R, h⟩
  simp only [evE] at h
  refine ⟨F, r, R, (Post.un Stp.refl h).mono fun wa r1 F1 H1 ⟨R1, S1, _, h1⟩ va ra fa => ⟨F1, r1, R1, (Post.un S1 h1).mono fun wb r2 F2 H2 ⟨R2, S2, S02, h2⟩ vb rb fb => ?_⟩⟩
  split at h2
  · rename_i x y e1 e2
    split at h2
    · rename_i e3
      refine ⟨F2, x, y, true, R2.sub, R2.fix (ra.step0 S2) e1, R2.fix rb e2, e3, true, rfl, ?_⟩
      refine iteT ?_
      refine ⟨F2, r2, R2, (Post.un S02 h2).mono fun wc r3 F3 H3 ⟨R3, S3, S03, h3⟩ vc rc fc => ?_⟩
      split at h3
      · rename_i y' z e4 e5
        cases e6 : cmpD o' y' z with
        | none => rw [e6] at h3; exact h3.elim
        | some w =>
          rw [e6] at h3
          exact ⟨F3, y', z, w, R3.sub, R3.fix (rb.step0 S3) e4, R3.fix rc e5, e6, h3 F3 H3 R3 S03 _ (.bl _) trivial⟩
      · exact h3.elim
    · rename_i e3
      refine ⟨F2, x, y, false, R2.sub, R2.fix (ra.step0 S2) e1, R2.fix rb e2, e3, false, rfl, ?_⟩
      refine iteF ?_
      exact h2 F2 H2 R2 S02 _ (.bl _) trivial
    · exact h2.elim
  · exact h2.elim
theorem st_chain {a b c : Expr} {ca cb cc : CE} {o o' : CmpOp} (hu : X.A.units + 64 < cLine) (ha : SE X G Wx a (evE fs ca)) (hb : SE X G Wx b (evE fs cb)) (hc : SE X G Wx c (evE fs cc)) (hm : lastMarks [o, o'] [b, c] = false) :
    ST X G Wx (.Compare a [o, o'] [b, c] pos) (evE fs (.chain o o' ca cb cc)) := by
  refine pt_imp (pt_chain (or_cmp hu o) (or_cmp hu o') ha hb hc hm) ?_
  rintro σ H Q ⟨F, r, R, h⟩
  simp only [evE] at h
  refine ⟨F, r, R, (Post.un Stp.refl h).mono fun wa r1 F1 H1 ⟨R1, S1, _, h1⟩ va ra fa => ⟨F1, r1, R1, (Post.un S1 h1).mono fun wb r2 F2 H2 ⟨R2, S2, S02, h2⟩ vb rb fb => ?_⟩⟩
  split at h2
  · rename_i x y e1 e2
    split at h2
    · rename_i e3
      refine ⟨F2, x, y, true, R2.sub, R2.fix (ra.step0 S2) e1, R2.fix rb e2, e3, true, rfl, ?_⟩
      refine iteT ?_
      refine ⟨F2, r2, R2, (Post.un S02 h2).mono fun wc r3 F3 H3 ⟨R3, S3, S03, h3⟩ vc rc fc => ?_⟩
      split at h3
      · rename_i y' z e4 e5
        cases e6 : cmpD o' y' z with
        | none => rw [e6] at h3; exact h3.elim
        | some w =>
          rw [e6] at h3
          obtain ⟨b, hb, q⟩ := h3 F3 H3 R3 S03
          cases hb
          exact ⟨F3, y', z, w, R3.sub, R3.fix (rb.step0 S3) e4, R3.fix rc e5, e6, _, rfl, q⟩
      · exact h3.elim
    · rename_i e3
      refine ⟨F2, x, y, false, R2.sub, R2.fix (ra.step0 S2) e1, R2.fix rb e2, e3, false, rfl, ?_⟩
      refine iteF ?_
      obtain ⟨b, hb, q⟩ := h2 F2 H2 R2 S02
      cases hb
      exact ⟨_, rfl, q⟩
    · exact h2.elim
  · exact h2.elim
/-! ### tests, and, or, not, a if c else b -/
theorem asBool_d {w : W} {b : Bool} (e : asBool w = some b) : w = .d (.bool b) := by
  unfold asBool at e
  split at e <;> cases e
  rfl
theorem st_val {e : Expr} {te : Sl → R W} (h : SE X G Wx e te) (hb : ∀ r w r', te r = .ok w r' → (∃ b, asBool w = some b) ∨ True) (he : ∀ whole, isTrue e X.env whole = (do let v ← whole; standAt e.pos; holding [v] (truthy v))) : ST X G Wx e te := by
  refine pt_imp (pt_val h he) ?_
  rintro σ H Q ⟨F, r, R, h⟩
  refine ⟨F, r, R, h.mono fun w r' F' H' ⟨b, e1, q⟩ v rv fv => ?_⟩
  rw [asBool_d e1] at rv
  cases rv
  exact ⟨b, rfl, q⟩
theorem st_not {a : Expr} {ca : CE} (ha : ST X G Wx a (evE fs ca)) : ST X G Wx (.UnaryOp .Not a pos) (evE fs (.notE ca)) := by
  refine pt_imp (pt_not ha) ?_
  rintro σ H Q ⟨F, r, R, h⟩
  simp only [evE] at h
  refine ⟨F, r, R, (Post.un Stp.refl h).mono fun wa r1 F1 H1 ⟨R1, S1, _, h1⟩ => ?_⟩
  split at h1
  · rename_i b e
    obtain ⟨c, hc, q⟩ := h1 F1 H1 R1 S1
    cases hc
    exact ⟨b, e, q⟩
  · exact h1.elim
theorem se_not {a : Expr} {ca : CE} (ha : SE X G Wx a (evE fs ca)) : SE X G Wx (.UnaryOp .Not a pos) (evE fs (.notE ca)) := by
  refine pe_imp (pe_not ha) ?_
  rintro σ H Q ⟨F, r, R, h⟩
  simp only [evE] at h
  refine ⟨F, r, R, (Post.un Stp.refl h).mono fun wa r1 F1 H1 ⟨R1, S1, _, h1⟩ va ra fa => ?_⟩
  split at h1
  · rename_i b e
    rw [asBool_d e] at ra
    cases ra
    exact ⟨b, rfl, h1 F1 H1 R1 S1 _ (.bl _) trivial⟩
  · exact h1.elim
/-- the readings of and, or -/
theorem t_and {te tb : Sl → R W} {f : Sl → R W} (hf : ∀ r, f r = (te r).bind fun wa r1 => match asBool wa with | some true => tb r1 | some false => .ok (.d (.bool false)) r1 | none => .bad) :
    ∀ σ H Q, tOf X.K G Wx f σ H Q → tAndV (tOf X.K G Wx te) (tOf X.K G Wx tb) σ H Q := by
  rintro σ H Q ⟨F, r, R, h⟩
  rw [hf] at h
  refine ⟨F, r, R, (Post.un Stp.refl h).mono fun wa r1 F1 H1 ⟨R1, S1, _, h1⟩ va ra fa => ?_⟩
  split at h1
  · rename_i e
    rw [asBool_d e] at ra
    cases ra
    refine ⟨true, rfl, ?_⟩
    refine iteT ?_
    exact ⟨F1, r1, R1, (h1.base S1).mono fun w r2 F2 H2 q v rv fv => q v rv (fv.back S1)⟩
  · rename_i e
    rw [asBool_d e] at ra
    cases ra
    refine ⟨false, rfl, ?_⟩
    refine iteF ?_
    exact h1 F1 H1 R1 S1 _ (.bl _) trivial
  · exact h1.elim
theorem t_or {te tb : Sl → R W} {f : Sl → R W} (hf : ∀ r, f r = (te r).bind fun wa r1 => match asBool wa with | some true => .ok (.d (.bool true)) r1 | some false => tb r1 | none => .bad) :
    ∀ σ H Q, tOf X.K G Wx f σ H Q → tOrV (tOf X.K G Wx te) (tOf X.K G Wx tb) σ H Q := by
  rintro σ H Q ⟨F, r, R, h⟩
  rw [hf] at h
  refine ⟨F, r, R, (Post.un Stp.refl h).mono fun wa r1 F1 H1 ⟨R1, S1, _, h1⟩ va ra fa => ?_⟩
  split at h1
  · rename_i e
    rw [asBool_d e] at ra
    cases ra
    refine ⟨true, rfl, ?_⟩
    refine iteT ?_
    exact h1 F1 H1 R1 S1 _ (.bl _) trivial
  · rename_i e
    rw [asBool_d e] at ra
    cases ra
    refine ⟨false, rfl, ?_⟩
    refine iteF ?_
    exact ⟨F1, r1, R1, (h1.base S1).mono fun w r2 F2 H2 q v rv fv => q v rv (fv.back S1)⟩
  · exact h1.elim
theorem t_andT {te tb : Sl → R W} {f : Sl → R W} (hf : ∀ r, f r = (te r).bind fun wa r1 => match asBool wa with | some true => tb r1 | some false => .ok (.d (.bool false)) r1 | none => .bad) :
    ∀ σ H Q, tOfT X.K G Wx f σ H Q → tAnd (tOfT X.K G Wx te) (tOfT X.K G Wx tb) σ H Q := by
  rintro σ H Q ⟨F, r, R, h⟩
  rw [hf] at h
  refine ⟨F, r, R, (Post.un Stp.refl h).mono fun wa r1 F1 H1 ⟨R1, S1, _, h1⟩ => ?_⟩
  split at h1
  · rename_i e
    refine ⟨true, e, ?_⟩
    refine iteT ?_
    exact ⟨F1, r1, R1, h1.base S1⟩
  · rename_i e
    refine ⟨false, e, ?_⟩
    refine iteF ?_
    obtain ⟨b, hb, q⟩ := h1 F1 H1 R1 S1
    cases hb
    exact q
  · exact h1.elim
theorem t_orT {te tb : Sl → R W} {f : Sl → R W} (hf : ∀ r, f r = (te r).bind fun wa r1 => match asBool wa with | some true => .ok (.d (.bool true)) r1 | some false => tb r1 | none => .bad) :
    ∀ σ H Q, tOfT X.K G Wx f σ H Q → tOr (tOfT X.K G Wx te) (tOfT X.K G Wx tb) σ H Q := by
  rintro σ H Q ⟨F, r, R, h⟩
  rw [hf] at h
  refine ⟨F, r, R, (Post.un Stp.refl h).mono fun wa r1 F1 H1 ⟨R1, S1, _, h1⟩ => ?_⟩
  split at h1
  · rename_i e
    refine ⟨true, e, ?_⟩
    refine iteT ?_
    obtain ⟨b, hb, q⟩ := h1 F1 H1 R1 S1
    cases hb
    exact q
  · rename_i e
    refine ⟨false, e, ?_⟩
    refine iteF ?_
    exact ⟨F1, r1, R1, h1.base S1⟩
  · exact h1.elim
theorem se_ite {a b c : Expr} {ca cb cc : CE} (hc : ST X G Wx c (evE fs cc)) (ha : SE X G Wx a (evE fs ca)) (hb : SE X G Wx b (evE fs cb)) : SE X G Wx (.IfExp c a b pos) (evE fs (.ite cc ca cb)) := by
  refine pe_imp (pe_ifExp hc ha hb) ?_
  rintro σ H Q ⟨F, r, R, h⟩
  simp only [evE] at h
  refine ⟨F, r, R, (Post.un Stp.refl h).mono fun wa r1 F1 H1 ⟨R1, S1, _, h1⟩ => ?_⟩
  split at h1
  · rename_i e
    refine ⟨true, e, ?_⟩
    refine iteT ?_
    exact ⟨F1, r1, R1, (h1.base S1).mono fun w r2 F2 H2 q v rv fv => q v rv (fv.back S1)⟩
  · rename_i e
    refine ⟨false, e, ?_⟩
    refine iteF ?_
    exact ⟨F1, r1, R1, (h1.base S1).mono fun w r2 F2 H2 q v rv fv => q v rv (fv.back S1)⟩
  · exact h1.elim
/-! ### subscripts, slices -/
theorem se_idx {a b : Expr} {ca cb : CE} (ha : SE X G Wx a (evE fs ca)) (hb : SE X G Wx b (evE fs cb)) (hs : PlainIx b) : SE X G Wx (.Subscript a b pos) (evE fs (.idx ca cb)) := by
  refine pe_imp (pe_ix ix_D ha hb hs) ?_
  rintro σ H Q ⟨F, r, R, h⟩
  simp only [evE] at h
  refine ⟨F, r, R, (Post.un Stp.refl h).mono fun wa r1 F1 H1 ⟨R1, S1, _, h1⟩ va ra fa => ⟨F1, r1, R1, (Post.un S1 h1).mono fun wb r2 F2 H2 ⟨R2, S2, S02, h2⟩ vb rb fb => ?_⟩⟩
  split at h2
  · rename_i x y e1 e2
    cases e3 : idxD x y with
    | none => rw [e3] at h2; exact h2.elim
    | some w =>
      rw [e3] at h2
      exact ⟨F2, x, y, w, R2.sub, R2.fix (ra.step0 S2) e1, R2.fix rb e2, e3, fun v hv => h2 F2 H2 R2 S02 v hv trivial⟩
  · exact h2.elim
/-- a slice's part -/
def tOfP (K : PySem.W.Frag) (G : Gx) (Wx : WX) (te : Sl → R (Option Int)) : TO := fun σ H Q => ∃ F r, StR K G.T F r σ H ∧ Post K G Wx (te r) F r σ H fun l r' F' H' => Q l H'
theorem sp_none {te : Sl → R W} : PO X none (tOfP X.K G Wx fun r => partE false (te r) r) := by
  refine ⟨fun pins s σ H Q I h => po_none.run pins s σ H Q I ?_⟩
  obtain ⟨F, r, R, h⟩ := h
  exact h F H R Stp.refl
theorem sp_some {e : Expr} {te : Sl → R W} (he : SE X G Wx e te) : PO X (some e) (tOfP X.K G Wx fun r => partE true (te r) r) := by
  refine ⟨fun pins s σ H Q I h => (po_some he).run pins s σ H Q I ?_⟩
  obtain ⟨F, r, R, h⟩ := h
  have h : Post X.K G Wx ((te r).bind fun w r1 => match w with | .d (.int i) => .ok (some i) r1 | _ => .bad) F r σ H fun l r' F' H' => Q l H' := h
  refine ⟨F, r, R, (Post.un Stp.refl h).mono fun w r1 F1 H1 ⟨R1, S1, _, h1⟩ v rv fv => ?_⟩
  split at h1
  · cases rv
    exact ⟨_, rfl, h1 F1 H1 R1 S1⟩
  · exact h1.elim
theorem se_slc {a : Expr} {lo hi : Option Expr} {ca cl ch : CE} {bl bh : Bool} {p2 : Pos} (ha : SE X G Wx a (evE fs ca)) (hl : PO X lo (tOfP X.K G Wx fun r => partE bl (evE fs cl r) r)) (hh : PO X hi (tOfP X.K G Wx fun r => partE bh (evE fs ch r) r)) :
    SE X G Wx (.Subscript a (.Slice lo hi none p2) pos) (evE fs (.slc ca bl cl bh ch)) := by
  refine pe_imp (pe_slice sl_D ha hl hh) ?_
  rintro σ H Q ⟨F, r, R, h⟩
  simp only [evE] at h
  refine ⟨F, r, R, (Post.un Stp.refl h).mono fun wa r1 F1 H1 ⟨R1, S1, _, h1⟩ va ra fa => ⟨F1, r1, R1, (Post.un S1 h1).mono fun l r2 F2 H2 ⟨R2, S2, S02, h2⟩ => ⟨F2, r2, R2, (Post.un S02 h2).mono fun u r3 F3 H3 ⟨R3, S3, S03, h3⟩ => ?_⟩⟩⟩
  split at h3
  · rename_i x e1
    cases e3 : slcD x l u with
    | none => rw [e3] at h3; exact h3.elim
    | some w =>
      rw [e3] at h3
      refine ⟨F3, x, w, R3.sub, R3.fix ((ra.step0 S2).step0 S3) e1, e3, fun v H' hv => ?_⟩
      obtain ⟨F4, R4, S4, p4, p5⟩ := R3.res hv
      exact h3 F4 H' R4 (S03.trans0 S4) v p4 (p5.back S03)
  · exact h3.elim
end
end SR
/-! The engine, part 5: calls. -/
namespace SR
open PySem PySem.Spec PyProof.Rows L2
/-- what a def promises -/
def spD (K : PySem.W.Frag) (G : Gx) (n : Nat) (φ : Fn) : Sp := fun vs H Q E => ∃ F as, vs.length = n ∧ StR K G.T F as (vs.map some) H ∧ match φ as with
  | .ok v as' => ∀ u F' H', StR K G.T F' as' (vs.map some) H' → Stp NoZ F as (vs.map some) H F' as' (vs.map some) H' → RelW K F' as' (vs.map some) H' u (retW v) → FrS H u (retW v) → Q u H'
  | .err c p as' => ∀ F' H' cls d, StR K G.T F' as' (vs.map some) H' → Stp NoZ F as (vs.map some) H F' as' (vs.map some) H' → Exc K G c p F' cls d H' → E cls (some d) H'
  | .bad => False
/-- how keywords bind -/
def permV {α : Type} (us : List α) : List Nat → List α
  | [] => []
  | i :: is => match us[i]? with
    | some u => u :: permV us is
    | none => permV us is
structure FunOk (X : Cx) (G : Gx) (f : FI) : Prop where
  lpl : f.lp.length = f.ps.length
  ex : ∃ (fa : Addr) (fd : FuncData), X.mg f.name = some (.ref fa) ∧ PySem.W.keepIn X.K (.ref fa) = true ∧ Binds X.K fd f.ps [] ∧
    (∀ q ∈ f.kws, ∀ us ws : List Value, us.length = q.1 → ws.length = q.2.1.length → bindArgs fd ⟨us, q.2.1.zip ws⟩ = pure (f.ps.zip (permV (us ++ ws) q.2.2))) ∧
    FnOk X.prog X.w X.K X.mg X.base (L2.CX X.prog X.w) f.lv fa fd f.ps (spD X.K G f.ps.length f.fn)
/-! ### arguments -/
section
variable {K : PySem.W.Frag} {T : List (Addr × Str)} {F F1 F' : Hp} {r r1 : Sl} {σ : L2.St} {H H' : Hp}
/-- an argument as the def has it: a lent list is the caller's at a slot, or a new one -/
inductive ArgR (K : PySem.W.Frag) (F : Hp) (r : Sl) (σ : L2.St) (H : Hp) (v : V) (w : W) : SV → Prop
  | val {d : D} : Rp K F v d → ArgR K F r σ H v w (.val d)
  | scr {a : Addr} {vs : List V} {l : List D} : v = .ref a → SqL K F a vs → RpAll K F vs l → ArgR K F r σ H v w (.scr l)
  | slot {j : Nat} {b : Addr} {vs : List V} {l : List D} : w = .s j → σ[j]? = some (some (.ref b)) → v = .ref b → H b = some (.lst vs) → RpAll K F vs l → ArgR K F r σ H v w (.lent l)
  | new {b : Addr} {vs : List V} {l : List D} : (∃ m, w = .f m) → v = .ref b → H b = some (.lst vs) → F b = none → ¬ Owned r σ b → RpAll K F vs l → ArgR K F r σ H v w (.lent l)
/-- one argument -/
theorem StR.arg {v : V} {w : W} {k : Pk} {a : SV} {r' : Sl} (R : StR K T F r σ H) (h : RelW K F r σ H v w) (e : argW r k w = some (a, r')) :
    ∃ F', StR K T F' r' σ H ∧ Stp (fun b => k = .dat ∧ v = .ref b ∧ ∃ l, w = .f l) F r σ H F' r' σ H ∧ ArgR K F' r' σ H v w a := by
  unfold argW at e
  split at e
  · rename_i l
    cases e
    obtain ⟨b, vs, rfl, h1, h2, h3, h4⟩ := h
    exact ⟨F, R, Stp.refl, .new ⟨l, rfl⟩ rfl h1 h2 h3 h4⟩
  · rename_i i
    have h : σ[i]? = some (some v) := h
    split at e
    · rename_i l q
      cases e
      obtain ⟨b, vs, e1, e2, e3, e4⟩ := R.slot i _ q
      rw [h] at e1
      cases e1
      exact ⟨F, R, Stp.refl, .slot rfl h rfl e3 e4⟩
    · rename_i l q
      cases e
      obtain ⟨b, vs, e1, e2, e3, e4⟩ := R.slot i _ q
      rw [h] at e1
      cases e1
      exact ⟨F, R, Stp.refl, .slot rfl h rfl e3 e4⟩
    · cases e
  · cases e
  · rename_i i
    have h : σ[i]? = some (some v) := h
    split at e
    · rename_i l q
      cases e
      obtain ⟨b, vs, e1, e3, e4⟩ := R.slot i _ q
      rw [h] at e1
      cases e1
      exact ⟨F, R, Stp.refl, .scr rfl e3 e4⟩
    · cases e
  · cases e
  · split at e
    · rename_i x r2 q
      cases e
      obtain ⟨F2, R2, S2, p2⟩ := R.kept h q
      exact ⟨F2, R2, (Stp.refl).trans S2 fun b z => .inr ⟨rfl, z⟩, .val p2⟩
    · cases e
theorem ArgR.step {Z : Addr → Prop} {v : V} {w : W} {a : SV} {r' : Sl} (h : ArgR K F r σ H v w a) (S : Stp Z F r σ H F' r' σ H) (hz : ∀ b, v = .ref b → ¬ Z b) : ArgR K F' r' σ H v w a := by
  cases h with
  | val h => exact .val (rp_mono S.ext _ _ h)
  | scr e1 e2 e3 => exact .scr e1 (sqL_mono S.ext e2) (rpAll_mono S.ext _ _ e3)
  | slot e1 e2 e3 e4 e5 => exact .slot e1 e2 e3 e4 (rpAll_mono S.ext _ _ e5)
  | @new b vs l e1 e2 e3 e4 e5 e6 =>
    refine .new e1 e2 e3 ?_ (fun o => ?_) (rpAll_mono S.ext _ _ e6)
    · cases q : F' b with
      | none => rfl
      | some o =>
        rcases S.new b (by rw [q]; simp) with z | z | z | z
        · exact absurd e4 z
        · exact (z.no e3).elim
        · exact absurd z e5
        · exact absurd z (hz b e2)
    · rcases S.own b o with z | z
      · exact e5 z
      · exact z.no e3
/-- all arguments -/
inductive ArgsR (K : PySem.W.Frag) (F : Hp) (r : Sl) (σ : L2.St) (H : Hp) : List V → List W → Sl → Prop
  | nil : ArgsR K F r σ H [] [] []
  | cons {v : V} {w : W} {a : SV} {vs : List V} {ws : List W} {as : Sl} : ArgR K F r σ H v w a → ArgsR K F r σ H vs ws as → ArgsR K F r σ H (v :: vs) (w :: ws) (a :: as)
theorem ArgsR.step {Z : Addr → Prop} {r' : Sl} (S : Stp Z F r σ H F' r' σ H) : ∀ {vs : List V} {ws : List W} {as : Sl}, ArgsR K F r σ H vs ws as → (∀ v ∈ vs, ∀ b, v = .ref b → ¬ Z b) → ArgsR K F' r' σ H vs ws as
  | _, _, _, .nil, _ => .nil
  | _, _, _, .cons h hs, hz => .cons (h.step S (hz _ List.mem_cons_self)) (ArgsR.step S hs fun v hv => hz v (List.mem_cons_of_mem _ hv))
theorem StR.args : ∀ {ws : List W} {vs : List V} {lp : List Pk} {as : Sl} {F : Hp} {r r' : Sl}, StR K T F r σ H → Paired (RelW K F r σ H) vs ws → OnlyLast ws → argAll r lp ws = some (as, r') →
    ∃ F', StR K T F' r' σ H ∧ Stp (fun b => ∃ l, (V.ref b, W.f l) ∈ vs.zip ws) F r σ H F' r' σ H ∧ ArgsR K F' r' σ H vs ws as
  | [], _, [], _, F, r, _, R, .nil, _, e => by
    simp only [argAll, Option.some.injEq, Prod.mk.injEq] at e
    obtain ⟨rfl, rfl⟩ := e
    exact ⟨F, R, Stp.refl, .nil⟩
  | [], _, _ :: _, _, F, r, _, R, .nil, _, e => by cases e
  | _ :: _, _, [], _, F, r, _, R, .cons _ _, _, e => by cases e
  | w :: ws, v :: vs, k :: lp, _, F, r, r', R, .cons h hs, o, e => by
    simp only [argAll] at e
    split at e
    · rename_i a r1 e1
      split at e
      · rename_i as r2 e2
        simp only [Option.some.injEq, Prod.mk.injEq] at e
        obtain ⟨rfl, rfl⟩ := e
        obtain ⟨F1, R1, S1, p1⟩ := R.arg h e1
        cases ws with
        | nil =>
          cases hs
          cases lp with
          | cons _ _ => cases e2
          | nil =>
            simp only [argAll, Option.some.injEq, Prod.mk.injEq] at e2
            obtain ⟨rfl, rfl⟩ := e2
            refine ⟨F1, R1, (Stp.refl).trans S1 fun b ⟨_, q1, l, q2⟩ => .inr ⟨l, ?_⟩, .cons p1 .nil⟩
            rw [q1, q2]
            exact List.mem_cons_self
        | cons w2 ws =>
          have nf : ∀ l, w ≠ .f l := o.1
          have hs1 : Paired (RelW K F1 r1 σ H) vs (w2 :: ws) := Paired.mapP hs fun u y q => RelW.step q (fun hz => by obtain ⟨a, _, _, _, l, z⟩ := hz; exact nf l z) S1
          obtain ⟨F2, R2, S2, p2⟩ := StR.args R1 hs1 o.2 e2
          refine ⟨F2, R2, ((Stp.refl).trans S1 fun b ⟨_, _, l, q⟩ => absurd q (nf l)).trans S2 fun b ⟨l, q⟩ => .inr ⟨l, List.mem_cons_of_mem _ q⟩, .cons ?_ p2⟩
          cases p1 with
          | val h => exact .val (rp_mono S2.ext _ _ h)
          | scr g1 g2 g3 => exact .scr g1 (sqL_mono S2.ext g2) (rpAll_mono S2.ext _ _ g3)
          | slot g1 g2 g3 g4 g5 => exact .slot g1 g2 g3 g4 (rpAll_mono S2.ext _ _ g5)
          | new g1 => obtain ⟨m, g1⟩ := g1; exact absurd g1 (nf m)
      · cases e
    · cases e
theorem ArgsR.len {vs : List V} {ws : List W} {as : Sl} (h : ArgsR K F r σ H vs ws as) : vs.length = as.length ∧ ws.length = as.length := by
  induction h with
  | nil => exact ⟨rfl, rfl⟩
  | cons _ _ ih => exact ⟨congrArg Nat.succ ih.1, congrArg Nat.succ ih.2⟩
theorem ArgsR.get : ∀ {vs : List V} {ws : List W} {as : Sl} {i : Nat} {a : SV}, ArgsR K F r σ H vs ws as → as[i]? = some a → ∃ v w, vs[i]? = some v ∧ ws[i]? = some w ∧ ArgR K F r σ H v w a
  | _, _, _, _, _, .nil, e => by simp at e
  | _, _, _, 0, _, .cons h _, e => by
    simp at e
    subst e
    exact ⟨_, _, rfl, rfl, h⟩
  | _, _, _, i + 1, _, .cons _ hs, e => by
    obtain ⟨v, w, a, b, c⟩ := ArgsR.get (i := i) hs (by simpa using e)
    exact ⟨v, w, by simpa using a, by simpa using b, c⟩
theorem nLent_one : ∀ {as : Sl} {i j : Nat} {l m : List D}, nLent as ≤ 1 → as[i]? = some (.lent l) → as[j]? = some (.lent m) → i = j
  | [], _, _, _, _, _, e, _ => by simp at e
  | a :: as, 0, 0, _, _, _, _, _ => rfl
  | a :: as, i + 1, j + 1, l, m, n, e, f => by
    have n' : nLent as ≤ 1 := by
      cases a <;> simp only [nLent] at n <;> omega
    exact congrArg (· + 1) (nLent_one (as := as) n' (by simpa using e) (by simpa using f))
  | a :: as, 0, j + 1, l, m, n, e, f => by
    simp at e
    subst e
    have z : nLent as = 0 := by
      simp only [nLent] at n
      omega
    exact absurd z (nLent_pos (by simpa using f))
  | a :: as, i + 1, 0, l, m, n, e, f => by
    simp at f
    subst f
    have z : nLent as = 0 := by
      simp only [nLent] at n
      omega
    exact absurd z (nLent_pos (by simpa using e))
where
  nLent_pos : ∀ {as : Sl} {i : Nat} {l : List D}, as[i]? = some (.lent l) → nLent as ≠ 0
    | [], _, _, e => by simp at e
    | a :: as, 0, _, e => by
      simp at e
      subst e
      simp [nLent]
    | a :: as, i + 1, _, e => by
      have z := nLent_pos (as := as) (i := i) (by simpa using e)
      cases a <;> simp only [nLent] <;> omega
theorem lentIn_get : ∀ {ws : List W} {as : Sl} {k j : Nat} {l : List D}, lentIn ws as r = true → nLent as ≤ 1 → as[k]? = some (.lent l) → ws[k]? = some (.s j) → ∃ m, r[j]? = some (.own m) ∨ r[j]? = some (.lent m)
  | [], _, _, _, _, _, _, _, e => by simp at e
  | _ :: _, [], _, _, _, _, _, e, _ => by simp at e
  | w :: ws, a :: as, 0, j, l, h, _, e, f => by
    simp at e f
    subst e f
    simp only [lentIn] at h
    split at h
    · rename_i m q; exact ⟨m, .inl q⟩
    · rename_i m q; exact ⟨m, .inr q⟩
    · cases h
  | w :: ws, a :: as, k + 1, j, l, h, n, e, f => by
    cases a with
    | lent m => exact absurd (nLent_one (i := 0) (j := k + 1) (l := m) n rfl e) (by omega)
    | no => exact lentIn_get (ws := ws) (as := as) (by simpa [lentIn] using h) (by simpa [nLent] using n) (by simpa using e) (by simpa using f)
    | val d => exact lentIn_get (ws := ws) (as := as) (by simpa [lentIn] using h) (by simpa [nLent] using n) (by simpa using e) (by simpa using f)
    | own d => exact lentIn_get (ws := ws) (as := as) (by simpa [lentIn] using h) (by simpa [nLent] using n) (by simpa using e) (by simpa using f)
    | scr d => exact lentIn_get (ws := ws) (as := as) (by simpa [lentIn] using h) (by simpa [nLent] using n) (by simpa using e) (by simpa using f)
/-- the def's slots at its entry -/
theorem StR.entry {vs : List V} {ws : List W} {as : Sl} (R : StR K T F r σ H) (A : ArgsR K F r σ H vs ws as) (n : nLent as ≤ 1) (li : lentIn ws as r = true) : StR K T F as (vs.map some) H where
  sub := R.sub
  ntb := R.ntb
  len := by rw [List.length_map]; exact A.len.1.symm
  slot := fun i sv e => by
    obtain ⟨v, w, e1, e2, h⟩ := A.get e
    have ev : (vs.map some)[i]? = some (some v) := by rw [List.getElem?_map, e1]; rfl
    rw [ev]
    cases h with
    | val h => exact ⟨v, rfl, h⟩
    | scr f1 f2 f3 => subst f1; exact ⟨_, _, rfl, f2, f3⟩
    | slot f1 f2 f3 f4 f5 =>
      subst f1 f3
      obtain ⟨m, q⟩ := lentIn_get li n e e2
      exact ⟨_, _, rfl, (R.ownH ⟨m, q, f2⟩).1, f4, f5⟩
    | new f1 f2 f3 f4 f5 f6 => subst f2; exact ⟨_, _, rfl, f4, f3, f6⟩
  apart := fun i j b ⟨l, h1, _⟩ ⟨m, h2, _⟩ => by
    have no : ∀ {i l}, as[i]? ≠ some (SV.own l) := fun {i l} e => by
      obtain ⟨v, w, _, _, h⟩ := A.get e
      cases h
    rcases h1 with h1 | h1
    · exact absurd h1 no
    · rcases h2 with h2 | h2
      · exact absurd h2 no
      · exact nLent_one n h1 h2
  tabs := R.tabs
/-- what backA does -/
theorem backA_cases : ∀ {ws : List W} {as bs : Sl}, ws.length = as.length → bs.length = as.length → nLent as ≤ 1 →
    ((∀ (i : Nat) (l : List D), as[i]? ≠ some (SV.lent l)) ∧ backA ws as bs r = r) ∨ ∃ (k : Nat) (l : List D) (w : W) (b : SV), as[k]? = some (SV.lent l) ∧ ws[k]? = some w ∧ bs[k]? = some b ∧ backA ws as bs r = backA [w] [.lent l] [b] r
  | [], [], [], _, _, _ => .inl ⟨fun i l e => by simp at e, rfl⟩
  | w :: ws, a :: as, b :: bs, h1, h2, n => by
    have rest : (∀ l, a ≠ .lent l) → nLent as ≤ 1 → backA (w :: ws) (a :: as) (b :: bs) r = backA ws as bs r → ((∀ (i : Nat) (l : List D), (a :: as)[i]? ≠ some (SV.lent l)) ∧ backA (w :: ws) (a :: as) (b :: bs) r = r) ∨ ∃ (k : Nat) (l : List D) (w' : W) (b' : SV), (a :: as)[k]? = some (SV.lent l) ∧ (w :: ws)[k]? = some w' ∧ (b :: bs)[k]? = some b' ∧ backA (w :: ws) (a :: as) (b :: bs) r = backA [w'] [.lent l] [b'] r := fun na n' e => by
      rcases backA_cases (ws := ws) (as := as) (bs := bs) (by simpa using h1) (by simpa using h2) n' with ⟨q1, q2⟩ | ⟨k, l, w', b', q1, q2, q3, q4⟩
      · refine .inl ⟨fun i l e' => ?_, e.trans q2⟩
        cases i with
        | zero =>
          rw [List.getElem?_cons_zero] at e'
          exact na l (Option.some.inj e')
        | succ i =>
          rw [List.getElem?_cons_succ] at e'
          exact q1 i l e'
      · exact .inr ⟨k + 1, l, w', b', by rw [List.getElem?_cons_succ]; exact q1, by rw [List.getElem?_cons_succ]; exact q2, by rw [List.getElem?_cons_succ]; exact q3, e.trans q4⟩
    cases a with
    | lent l =>
      refine .inr ⟨0, l, w, b, rfl, rfl, rfl, ?_⟩
      cases w <;> rfl
    | no => exact rest (fun l z => by cases z) (by simpa [nLent] using n) rfl
    | val d => exact rest (fun l z => by cases z) (by simpa [nLent] using n) rfl
    | own d => exact rest (fun l z => by cases z) (by simpa [nLent] using n) rfl
    | scr d => exact rest (fun l z => by cases z) (by simpa [nLent] using n) rfl
theorem back_is {vs : List V} {ws : List W} {as bs : Sl} (h1 : ws.length = as.length) (h2 : bs.length = as.length) (n : nLent as ≤ 1) (li : lentIn ws as r = true) :
    (backA ws as bs r = r ∧ ∀ (k j : Nat) (l : List D), as[k]? = some (SV.lent l) → ws[k]? ≠ some (W.s j)) ∨
    ∃ (k j : Nat) (l : List D) (b sv : SV), as[k]? = some (SV.lent l) ∧ ws[k]? = some (W.s j) ∧ bs[k]? = some b ∧ backA ws as bs r = r.set j sv ∧
      (sv = .no ∨ ∃ l' m, b = .lent l' ∧ ((r[j]? = some (SV.own m) ∧ sv = .own l') ∨ (r[j]? = some (SV.lent m) ∧ sv = .lent l'))) := by
  rcases backA_cases (r := r) h1 h2 n with ⟨q1, q2⟩ | ⟨k, l, w, b, q1, q2, q3, q4⟩
  · exact .inl ⟨q2, fun k j l e => absurd e (q1 k l)⟩
  · cases w with
    | d x =>
      refine .inl ⟨q4, fun k' j l' e e2 => ?_⟩
      rw [nLent_one n e q1, q2] at e2
      cases e2
    | f x =>
      refine .inl ⟨q4, fun k' j l' e e2 => ?_⟩
      rw [nLent_one n e q1, q2] at e2
      cases e2
    | s j =>
      right
      obtain ⟨m, hm⟩ := lentIn_get li n q1 q2
      cases b with
      | lent l' =>
        rcases hm with hm | hm
        · refine ⟨k, j, l, _, .own l', q1, q2, q3, ?_, .inr ⟨l', m, rfl, .inl ⟨hm, rfl⟩⟩⟩
          rw [q4]
          simp only [backA, hm]
        · refine ⟨k, j, l, _, .lent l', q1, q2, q3, ?_, .inr ⟨l', m, rfl, .inr ⟨hm, rfl⟩⟩⟩
          rw [q4]
          simp only [backA, hm]
      | no => exact ⟨k, j, l, _, .no, q1, q2, q3, q4, .inl rfl⟩
      | val d => exact ⟨k, j, l, _, .no, q1, q2, q3, q4, .inl rfl⟩
      | own d => exact ⟨k, j, l, _, .no, q1, q2, q3, q4, .inl rfl⟩
      | scr d => exact ⟨k, j, l, _, .no, q1, q2, q3, q4, .inl rfl⟩
/-- behind the call -/
theorem StR.back {vs : List V} {ws : List W} {as as' : Sl} (R : StR K T F r σ H) (A : ArgsR K F r σ H vs ws as) (n : nLent as ≤ 1) (li : lentIn ws as r = true) (R' : StR K T F' as' (vs.map some) H') (S' : Stp NoZ F as (vs.map some) H F' as' (vs.map some) H') :
    StR K T F' (backA ws as as' r) σ H' ∧ Stp (fun b => ∃ l, (V.ref b, W.f l) ∈ vs.zip ws) F r σ H F' (backA ws as as' r) σ H' ∧ ∀ b, Owned (backA ws as as' r) σ b → Owned r σ b := by
  have hl1 := A.len
  have hl2 : as'.length = as.length := by rw [R'.len, List.length_map, hl1.1]
  have no : ∀ {i : Nat} {l : List D}, as[i]? ≠ some (SV.own l) := fun {i l} e => by
    obtain ⟨v, w, _, _, h⟩ := A.get e
    cases h
  have atv : ∀ {k : Nat} {v : V}, vs[k]? = some v → (vs.map some)[k]? = some (some v) := fun {k v} e => by rw [List.getElem?_map, e]; rfl
  -- a lent list is the caller's, or new
  have ow : ∀ b, Owned as (vs.map some) b → ∃ (k : Nat) (l : List D), as[k]? = some (SV.lent l) ∧ vs[k]? = some (V.ref b) ∧ ((∃ j, ws[k]? = some (W.s j) ∧ OwnAt r σ j b) ∨ ((∃ m, ws[k]? = some (W.f m)) ∧ ¬ Owned r σ b)) := fun b ⟨i, l, h1, h2⟩ => by
    rcases h1 with h1 | h1
    · exact absurd h1 no
    · obtain ⟨v, w, e1, e2, h⟩ := A.get h1
      have ev : v = .ref b := by
        rw [atv e1] at h2
        simpa using h2
      subst ev
      refine ⟨i, l, h1, e1, ?_⟩
      cases h with
      | slot f1 f2 f3 f4 f5 =>
        cases f3
        subst f1
        obtain ⟨m, hm⟩ := lentIn_get li n h1 e2
        exact .inl ⟨_, e2, m, hm, f2⟩
      | new f1 f2 f3 f4 f5 f6 =>
        obtain ⟨m, f1⟩ := f1
        subst f1
        cases f2
        exact .inr ⟨⟨m, e2⟩, f5⟩
  have lst : ∀ b, Owned as (vs.map some) b → ∃ us, H b = some (.lst us) := fun b ⟨i, l, h1, h2⟩ => by
    rcases h1 with h1 | h1
    · exact absurd h1 no
    · obtain ⟨v, w, e1, e2, h⟩ := A.get h1
      have ev : v = .ref b := by
        rw [atv e1] at h2
        simpa using h2
      subst ev
      cases h with
      | slot f1 f2 f3 f4 f5 => cases f3; exact ⟨_, f4⟩
      | new f1 f2 f3 f4 f5 f6 => cases f2; exact ⟨_, f3⟩
  -- a list of the caller that is not lent
  have free : ∀ j b, OwnAt r σ j b → (∀ (k : Nat) (l : List D), as[k]? = some (SV.lent l) → ws[k]? ≠ some (W.s j)) → F' b = none ∧ ∀ us, H b = some (.lst us) → H' b = some (.lst us) := fun j b o nk => by
    have nO : ¬ Owned as (vs.map some) b := fun q => by
      obtain ⟨k, l, q1, q2, q3 | ⟨_, q3⟩⟩ := ow b q
      · obtain ⟨j', q4, q5⟩ := q3
        have ej := R.apart _ _ _ q5 o
        subst ej
        exact nk k l q1 q4
      · exact q3 ⟨j, o⟩
    obtain ⟨e1, us, e2⟩ := R.ownH o
    refine ⟨?_, fun us' e => S'.keep b _ e lst_ne_tbl nO fun z => z⟩
    cases q : F' b with
    | none => rfl
    | some u =>
      rcases S'.new b (by rw [q]; simp) with z | z | z | z
      · exact absurd e1 z
      · exact (z.no e2).elim
      · exact absurd z nO
      · exact z.elim
  have slotOf : ∀ (i : Nat) (sv : SV), r[i]? = some sv → (∀ (k : Nat) (l : List D), as[k]? = some (SV.lent l) → ws[k]? ≠ some (W.s i)) → SlotR K F' H' (σ[i]?) sv := fun i sv e nk => by
    have z := R.slot i sv e
    cases sv with
    | no => trivial
    | val d =>
      obtain ⟨v, e1, e2⟩ := z
      exact ⟨v, e1, rp_mono S'.ext _ _ e2⟩
    | own l =>
      obtain ⟨b, us, e1, e2, e3, e4⟩ := z
      obtain ⟨g1, g2⟩ := free i b ⟨l, .inl e, e1⟩ nk
      exact ⟨b, us, e1, g1, g2 _ e3, rpAll_mono S'.ext _ _ e4⟩
    | lent l =>
      obtain ⟨b, us, e1, e2, e3, e4⟩ := z
      obtain ⟨g1, g2⟩ := free i b ⟨l, .inr e, e1⟩ nk
      exact ⟨b, us, e1, g1, g2 _ e3, rpAll_mono S'.ext _ _ e4⟩
    | scr l =>
      obtain ⟨b, us, e1, e3, e4⟩ := z
      exact ⟨b, us, e1, sqL_mono S'.ext e3, rpAll_mono S'.ext _ _ e4⟩
  have stp : ∀ r2 : Sl, (∀ i b, OwnAt r2 σ i b → OwnAt r σ i b) → (∀ (i : Nat) (l' : List D), r2[i]? = some (SV.lent l') → ∃ l, r[i]? = some (SV.lent l)) → Stp (fun b => ∃ l, (V.ref b, W.f l) ∈ vs.zip ws) F r σ H F' r2 σ H' := fun r2 h1 h2 => by
    have oz : ∀ b, Owned as (vs.map some) b → Owned r σ b ∨ ∃ l, (V.ref b, W.f l) ∈ vs.zip ws := fun b o => by
      obtain ⟨k, l, q1, q2, q3 | ⟨⟨m, q3⟩, _⟩⟩ := ow b o
      · obtain ⟨j, _, q4⟩ := q3
        exact .inl ⟨j, q4⟩
      · exact .inr ⟨m, List.mem_of_getElem? (i := k) (by rw [List.getElem?_zip_eq_some]; exact ⟨q2, q3⟩)⟩
    refine ⟨S'.ext, fun b h => ?_, fun b o e nt nO nZ => S'.keep b o e nt (fun q => ?_) fun z => z, S'.grow, fun b ⟨i, o⟩ => .inl ⟨i, h1 i b o⟩, fun i l' e => ?_⟩
    · rcases S'.new b h with z | z | z | z
      · exact .inl z
      · exact .inr (.inl z)
      · exact .inr (.inr (oz b z))
      · exact z.elim
    · rcases oz b q with z | z
      · exact nO z
      · exact nZ z
    · obtain ⟨l, q⟩ := h2 i l' e
      exact ⟨l, q, rfl⟩
  rcases back_is (vs := vs) hl1.2 hl2 n li with ⟨q1, q2⟩ | ⟨k, j, l, b, sv, q1, q2, q3, q4, q5⟩
  · rw [q1]
    exact ⟨⟨R'.sub, R'.ntb, R.len, fun i sv e => slotOf i sv e fun k l => q2 k i l, R.apart, R'.tabs⟩, stp r (fun _ _ o => o) (fun i l e => ⟨l, e⟩), fun _ o => o⟩
  · rw [q4]
    obtain ⟨m0, hm0⟩ := lentIn_get li n q1 q2
    have hj : j < r.length := by rcases hm0 with z | z <;> exact (List.getElem?_eq_some_iff.mp z).1
    -- where the lent list stands
    obtain ⟨v, w, e1, e2, hA⟩ := A.get q1
    rw [q2] at e2
    cases e2
    obtain ⟨b0, ev, hs⟩ : ∃ b0, v = .ref b0 ∧ σ[j]? = some (some (.ref b0)) := by
      cases hA with
      | slot f1 f2 f3 f4 f5 => cases f1; exact ⟨_, f3, f2⟩
      | new f1 => obtain ⟨m, f1⟩ := f1; cases f1
    subst ev
    have oa : ∀ i b, OwnAt (r.set j sv) σ i b → OwnAt r σ i b := fun i b ⟨m, h1, h2⟩ => by
      by_cases hi : i = j
      · subst hi
        exact ⟨m0, hm0, h2⟩
      · rw [List.getElem?_set_ne (Ne.symm hi)] at h1
        exact ⟨m, h1, h2⟩
    refine ⟨⟨R'.sub, R'.ntb, by rw [List.length_set]; exact R.len, fun i sv' e => ?_, fun i i' b h1 h2 => R.apart i i' b (oa i b h1) (oa i' b h2), R'.tabs⟩, stp _ oa (fun i l' e => ?_), fun b ⟨i, o⟩ => ⟨i, oa i b o⟩⟩
    · by_cases hi : i = j
      · subst hi
        rw [List.getElem?_set_self hj] at e
        cases e
        rcases q5 with rfl | ⟨l', m, rfl, q5⟩
        · trivial
        · obtain ⟨a', us, g1, g2, g3, g4⟩ := R'.slot k _ q3
          rw [atv e1] at g1
          cases g1
          rcases q5 with ⟨_, rfl⟩ | ⟨_, rfl⟩
          · exact ⟨b0, us, hs, g2, g3, g4⟩
          · exact ⟨b0, us, hs, g2, g3, g4⟩
      · rw [List.getElem?_set_ne (Ne.symm hi)] at e
        refine slotOf i sv' e fun k' l' h1 h2 => ?_
        rw [nLent_one n h1 q1, q2] at h2
        cases h2
        exact hi rfl
    · by_cases hi : i = j
      · subst hi
        rw [List.getElem?_set_self hj] at e
        rcases q5 with rfl | ⟨l2, m, rfl, ⟨_, rfl⟩ | ⟨z, rfl⟩⟩
        · cases e
        · cases e
        · exact ⟨m, z⟩
      · rw [List.getElem?_set_ne (Ne.symm hi)] at e
        exact ⟨l', e⟩
end
end SR
/-! The engine, part 6: calls of defs and of built-ins, walks, targets. -/
namespace SR
open PySem PySem.Spec PyProof.Rows L2
theorem RelW.stepN {K : PySem.W.Frag} {Z : Addr → Prop} {F F' : Hp} {r r' : Sl} {σ : L2.St} {H H' : Hp} {v : V} {w : W} (h : RelW K F r σ H v w) (n : ∀ l, w ≠ .f l) (s : Stp Z F r σ H F' r' σ H') : RelW K F' r' σ H' v w := by
  cases w with
  | d x => exact rp_mono s.ext _ _ h
  | s i => exact h
  | f l => exact absurd rfl (n l)
theorem argAll_len : ∀ {ws : List W} {lp : List Pk} {as r r' : Sl}, argAll r lp ws = some (as, r') → as.length = lp.length
  | [], [], _, _, _, e => by
    simp only [argAll, Option.some.injEq, Prod.mk.injEq] at e
    obtain ⟨rfl, rfl⟩ := e
    rfl
  | [], _ :: _, _, _, _, e => by cases e
  | _ :: _, [], _, _, _, e => by cases e
  | w :: ws, k :: lp, _, _, _, e => by
    simp only [argAll] at e
    split at e
    · split at e
      · rename_i q
        simp only [Option.some.injEq, Prod.mk.injEq] at e
        obtain ⟨rfl, rfl⟩ := e
        exact congrArg Nat.succ (argAll_len q)
      · cases e
    · cases e
section
variable {X : Cx} {G : Gx} {Wx : WX} {fs : List FI} {pos p : Pos}
/-- a call, by the values -/
theorem call_sp {f : FI} (lpl : f.lp.length = f.ps.length) {F F1 : Hp} {r r1 : Sl} {σ : L2.St} {H H1 : Hp} {Q : VK} {ws : List W} {vs : List V} (S1 : Stp NoZ F r σ H F1 r1 σ H1) (R1 : StR X.K G.T F1 r1 σ H1) (rs : Paired (RelW X.K F1 r1 σ H1) vs ws)
    (frs : Paired (FrS H) vs ws) (ol : OnlyLast ws) (h1 : Post X.K G Wx (callF f ws r1) F r σ H fun w r' F' H' => ∀ v, RelW X.K F' r' σ H' v w → FrS H v w → Q v H') : spD X.K G f.ps.length f.fn vs H1 Q (WE Wx σ) := by
  unfold callF at h1
  split at h1
  · exact h1.elim
  · rename_i as r2 e
    split at h1
    · rename_i hn
      obtain ⟨F2, R2, S2, A⟩ := R1.args rs ol e
      have S02 : Stp NoZ F r σ H F2 r2 σ H1 := S1.trans S2 fun b hb => .inl (frL_of frs b hb)
      refine ⟨F2, as, by rw [A.len.1, argAll_len e, lpl], R2.entry A hn.1 hn.2, ?_⟩
      split at h1
      · rename_i v as' e4
        try rw [e4]
        intro u F' H' R' S' ru fu
        obtain ⟨R3, S3, o3⟩ := R2.back A hn.1 hn.2 R' S'
        refine h1 F' H' R3 (S02.trans S3 fun b hb => .inl (frL_of frs b hb)) u ?_ ?_
        · cases v with
          | dat d => exact ru
          | frs l =>
            obtain ⟨a, us, e5, e6, e7, e8, e9⟩ := ru
            refine ⟨a, us, e5, e6, e7, fun o => ?_, e9⟩
            obtain ⟨i, o⟩ := o3 a o
            obtain ⟨_, us', e10⟩ := R2.ownH o
            exact (fu a e5).no e10
        · cases v with
          | dat d => trivial
          | frs l => exact fun a ea => S02.grow a (fu a ea)
      · rename_i c q as' e4
        try rw [e4]
        intro F' H' cls d R' S' ex
        obtain ⟨R3, S3, _⟩ := R2.back A hn.1 hn.2 R' S'
        exact h1 F' H' cls d R3 (S02.trans S3 fun b hb => .inl (frL_of frs b hb)) ex
      · exact h1.elim
    · exact h1.elim
theorem se_call {f : FI} {j : Nat} {e : Expr} {es : List Expr} {cs : CEs} (FO : FunOk X G f) (hj : fs[j]? = some f) (hr : Room f.lv X.A) (tk : Takes X Wx) (hg : Gl X f.name) (ha : SA X G Wx (e :: es) (evEs fs cs))
    (hdb : (f.name == ("__debug__" : Str)) = false) (he : starEach (e :: es) X.env = (false, eval e X.env) :: starEach es X.env) (hpl : (backTo pos (starEach es X.env)).any (·.1) = false) :
    SE X G Wx (.Call (.Name f.name p) (e :: es) [] pos) (evE fs (.call j cs)) := by
  obtain ⟨fa, fd, hm, hk, hb, _, F⟩ := FO.ex
  refine pe_imp (pe_callS F hr hg hm hk hb (fun σ => passAt tk σ) ha hdb he hpl) ?_
  rintro σ H Q ⟨F, r, R, h⟩
  simp only [evE, hj] at h
  exact ⟨F, r, R, (Post.un Stp.refl h).mono fun ws r1 F1 H1 ⟨R1, S1, _, h1⟩ vs rs frs ol => call_sp FO.lpl S1 R1 rs frs ol h1⟩
/-! ### keywords -/
theorem vals_perm {xs : List V} {us : List Value} (r : Vals xs us) : ∀ q : List Nat, Vals (permV xs q) (permV us q)
  | [] => .nil
  | i :: is => by
    unfold permV
    cases e : xs[i]? with
    | none =>
      rw [r.none_of e]
      exact vals_perm r is
    | some x =>
      obtain ⟨u, e2, rr⟩ := r.get e
      rw [e2]
      exact .cons rr (vals_perm r is)
def tKwS (sp : Sp) (n m : Nat) (perm : List Nat) (E : L2.St → XK) (t tk : TA) : TE := fun σ H Q => t σ H fun vs H1 => tk σ H1 fun zs H2 => vs.length = n ∧ zs.length = m ∧ sp (permV (vs ++ zs) perm) H2 Q (E σ)
section
variable {CX : CXT} {k n : Nat} {f : Addr} {fd : FuncData} {ps ks : List Str} {sp : Sp} {E : L2.St → XK} {x : Str} {e : Expr} {es : List Expr} {kws : List Keyword} {t tk : TA} {perm : List Nat}
theorem run_kwS {pins : List (Addr × Obj)} {σ : L2.St} {H : Hp} {s : Shared} {Q : VK} {us ws : List Value} {vs zs : List V} (F : FnOk X.prog X.w X.K X.mg X.base CX k f fd ps sp) (hr : Room k X.A)
    (hb : ∀ us ws : List Value, us.length = n → ws.length = ks.length → bindArgs fd ⟨us, ks.zip ws⟩ = pure (ps.zip (permV (us ++ ws) perm))) (hx : ∀ σ, PassesAt CX X σ (E σ)) (I : Inv X pins σ H s) (rv : Vals vs us) (rz : Vals zs ws)
    (l1 : vs.length = n) (l2 : zs.length = ks.length) (h : sp (permV (vs ++ zs) perm) H Q (E σ)) : wpAny (model X.prog X.w) X.A (call (.ref f) us (ks.zip ws)) (EP X pins σ Q) X.xe s := by
  have b := BindsTo.of_eq (s := s) (hb us ws (by rw [← rv.length, l1]) (by rw [← rz.length, l2]))
  refine wpAny_call (codeAny_mono (F.run X.A X.stack s H ⟨us, ks.zip ws⟩ _ _ Q (E σ) hr I.env0 b (vals_perm (rv.append rz) perm) h) fun r s' hq => ?_)
  cases r with
  | error e => exact hx σ pins H s e s' I hq
  | ok fl =>
    cases fl with
    | ret u => exact I.after hq
    | next => exact False.elim hq
    | brk => exact False.elim hq
    | cont => exact False.elim hq
theorem pe_kwS (F : FnOk X.prog X.w X.K X.mg X.base CX k f fd ps sp) (hr : Room k X.A) (hg : Gl X x) (hm : X.mg x = some (.ref f)) (hk : PySem.W.keepIn X.K (.ref f) = true)
    (hb : ∀ us ws : List Value, us.length = n → ws.length = ks.length → bindArgs fd ⟨us, ks.zip ws⟩ = pure (ps.zip (permV (us ++ ws) perm))) (hx : ∀ σ, PassesAt CX X σ (E σ)) (ha : PA X (e :: es) t) (hkw : PK X kws tk)
    (hall : (backToKw pos (keywordEach kws X.env)).all (·.1.isSome) = true) (hks : (backToKw pos (keywordEach kws X.env)).filterMap (·.1) = ks) (hdb : (x == ("__debug__" : Str)) = false) (he : starEach (e :: es) X.env = (false, eval e X.env) :: starEach es X.env)
    (hpl : ((backTo pos (starEach (e :: es) X.env)).any (·.1) || (backToKw pos (keywordEach kws X.env)).any (·.1.isNone)) = false) : PE X (.Call (.Name x p) (e :: es) kws pos) (tKwS sp n ks.length perm E t tk) := by
  refine ⟨fun pins s σ H Q I h => ?_⟩
  refine wpAny_Call_Name_kw (ld_glob I hg hm ?_ hdb)
  refine PySem.W.callWith_KW (h₀ := X.base) I.ok.mod.kin hk hall (thn (ha.run pos pins s σ H _ I h) fun us s1 ⟨vs, H1, I1, r, q⟩ => ?_) hpl he
  refine thn (hkw.run pos pins s1 σ H1 _ I1 q) fun ws s2 ⟨zs, H2, I2, rz, l1, l2, q2⟩ => ⟨I2.kIn, ?_⟩
  rw [hks]
  exact run_kwS F hr hb hx I2 r rz l1 l2 q2
theorem pe_kwS0 (F : FnOk X.prog X.w X.K X.mg X.base CX k f fd ps sp) (hr : Room k X.A) (hg : Gl X x) (hm : X.mg x = some (.ref f)) (hk : PySem.W.keepIn X.K (.ref f) = true)
    (hb : ∀ us ws : List Value, us.length = 0 → ws.length = ks.length → bindArgs fd ⟨us, ks.zip ws⟩ = pure (ps.zip (permV (us ++ ws) perm))) (hx : ∀ σ, PassesAt CX X σ (E σ)) (hkw : PK X kws tk)
    (hall : (backToKw pos (keywordEach kws X.env)).all (·.1.isSome) = true) (hks : (backToKw pos (keywordEach kws X.env)).filterMap (·.1) = ks) (hdb : (x == ("__debug__" : Str)) = false)
    (hpl : ((backTo pos (starEach [] X.env)).any (·.1) || (backToKw pos (keywordEach kws X.env)).any (·.1.isNone)) = false) : PE X (.Call (.Name x p) [] kws pos) (tKwS sp 0 ks.length perm E tNil tk) := by
  refine ⟨fun pins s σ H Q I h => ?_⟩
  refine wpAny_Call_Name_kw (ld_glob I hg hm ?_ hdb)
  refine PySem.W.callWith_KW0 (h₀ := X.base) I.ok.mod.kin hk hall ?_ hpl
  refine thn (hkw.run pos pins s σ H _ I h) fun ws s2 ⟨zs, H2, I2, rz, l1, l2, q2⟩ => ⟨I2.kIn, ?_⟩
  rw [hks]
  exact run_kwS F hr hb hx I2 .nil rz l1 l2 q2
end
def lenEs : CEs → Nat
  | .nil => 0
  | .cons _ es => lenEs es + 1
theorem evEs_len : ∀ {cs : CEs} {r r' : Sl} {ws : List W}, evEs fs cs r = .ok ws r' → ws.length = lenEs cs
  | .nil, _, _, _, e => by
    simp only [evEs] at e
    cases e
    rfl
  | .cons c .nil, r, _, _, e => by
    simp only [evEs] at e
    cases q : evE fs c r with
    | ok w r1 =>
      rw [q] at e
      cases e
      rfl
    | err _ _ _ => rw [q] at e; cases e
    | bad => rw [q] at e; cases e
  | .cons c (.cons c2 cs), r, _, _, e => by
    rw [show evEs fs (.cons c (.cons c2 cs)) r = (evE fs c r).bind fun w r1 => (evEs fs (.cons c2 cs) r1).bind fun ws r2 => .ok (stl w :: ws) r2 from by simp only [evEs]] at e
    cases q : evE fs c r with
    | ok w r1 =>
      rw [q] at e
      simp only [R.bind] at e
      cases q2 : evEs fs (.cons c2 cs) r1 with
      | ok ws r2 =>
        rw [q2] at e
        cases e
        exact congrArg Nat.succ (evEs_len q2)
      | err _ _ _ => rw [q2] at e; cases e
      | bad => rw [q2] at e; cases e
    | err _ _ _ => rw [q] at e; cases e
    | bad => rw [q] at e; cases e
theorem evEs_ne {c : CE} {cs : CEs} : ∀ r : Sl, ∀ ws r', evEs fs (.cons c cs) r = .ok ws r' → ws ≠ [] := fun r ws r' e z => by
  have h := evEs_len e
  subst z
  cases h
/-- all new lists settled -/
theorem StR.settledAll {K : PySem.W.Frag} {σ : L2.St} {H : Hp} : ∀ {ws : List W} {vs : List V} {F : Hp} {r : Sl}, StR K G.T F r σ H → Paired (RelW K F r σ H) vs ws → OnlyLast ws →
    ∃ F', StR K G.T F' r σ H ∧ Stp (fun b => ∃ l, (V.ref b, W.f l) ∈ vs.zip ws) F r σ H F' r σ H ∧ Paired (RelW K F' r σ H) vs (ws.map stl)
  | [], _, F, r, R, .nil, _ => ⟨F, R, Stp.refl, .nil⟩
  | w :: ws, v :: vs, F, r, R, .cons h hs, o => by
    obtain ⟨F1, R1, S1, p1⟩ := R.settled h
    cases ws with
    | nil =>
      cases hs
      refine ⟨F1, R1, (Stp.refl).trans S1 fun b ⟨q1, l, q2⟩ => .inr ⟨l, ?_⟩, .cons p1 .nil⟩
      rw [q1, q2]
      exact List.mem_cons_self
    | cons w2 ws =>
      have nf : ∀ l, w ≠ .f l := o.1
      have hs1 : Paired (RelW K F1 r σ H) vs (w2 :: ws) := Paired.mapP hs fun u y q => RelW.step q (fun hz => by obtain ⟨a, _, _, l, z⟩ := hz; exact nf l z) S1
      obtain ⟨F2, R2, S2, p2⟩ := StR.settledAll R1 hs1 o.2
      have p1' : RelW K F2 r σ H v (stl w) := p1.stepN stl_notf S2
      exact ⟨F2, R2, ((Stp.refl).trans S1 fun b ⟨_, l, q⟩ => absurd q (nf l)).trans S2 fun b ⟨l, q⟩ => .inr ⟨l, List.mem_cons_of_mem _ q⟩, .cons p1' p2⟩
end
end SR
/-! The engine, part 7: calls with keywords, built-in functions, isinstance, walks, targets. -/
namespace SR
open PySem PySem.Spec PyProof.Rows L2 RZ
section
variable {X : Cx} {G : Gx} {Wx : WX} {fs : List FI} {pos p : Pos}
/-! ### keywords -/
abbrev SK (X : Cx) (G : Gx) (Wx : WX) (kws : List Keyword) (te : Sl → R (List W)) : Prop := L2.PK X kws (tOfs X.K G Wx te)
theorem pk_imp {kws : List Keyword} {t t' : TA} (h : L2.PK X kws t) (i : ∀ σ H Q, t' σ H Q → t σ H Q) : L2.PK X kws t' := ⟨fun pos pins s σ H Q I q => h.run pos pins s σ H Q I (i σ H Q q)⟩
theorem sk_nil : SK X G Wx [] (evEs fs .nil) := by
  refine pk_imp pk_nil ?_
  rintro σ H Q ⟨F, r, R, h⟩
  simp only [evEs] at h
  exact h F H R Stp.refl [] .nil .nil trivial
theorem sk_one {e : Expr} {c : CE} {nm : Option Str} {kp : Pos} (he : SE X G Wx e (evE fs c)) : SK X G Wx [⟨nm, e, kp⟩] (evEs fs (.cons c .nil)) := by
  refine pk_imp (pk_cons he pk_nil) ?_
  rintro σ H Q ⟨F, r, R, h⟩
  simp only [evEs] at h
  refine ⟨F, r, R, (Post.un Stp.refl h).mono fun w r1 F1 H1 ⟨R1, S1, _, h1⟩ v rv fv => ?_⟩
  exact h1 F1 H1 R1 S1 [v] (.cons rv .nil) (.cons fv .nil) trivial
theorem sk_cons {e : Expr} {k2 : Keyword} {kws : List Keyword} {c c2 : CE} {cs : CEs} {nm : Option Str} {kp : Pos} (he : SE X G Wx e (evE fs c)) (hes : SK X G Wx (k2 :: kws) (evEs fs (.cons c2 cs))) : SK X G Wx (⟨nm, e, kp⟩ :: k2 :: kws) (evEs fs (.cons c (.cons c2 cs))) := by
  refine pk_imp (pk_cons he hes) ?_
  rintro σ H Q ⟨F, r, R, h⟩
  rw [show evEs fs (.cons c (.cons c2 cs)) r = (evE fs c r).bind fun w r1 => (evEs fs (.cons c2 cs) r1).bind fun ws r2 => .ok (stl w :: ws) r2 from by simp only [evEs]] at h
  refine ⟨F, r, R, (Post.un Stp.refl h).mono fun w r1 F1 H1 ⟨R1, S1, _, h1⟩ v rv fv => ?_⟩
  obtain ⟨F2, R2, S2, q2⟩ := R1.settled rv
  have S02 : Stp NoZ F r σ H F2 r1 σ H1 := S1.trans S2 fun b hb => .inl (fv.of b hb)
  refine ⟨F2, r1, R2, ?_⟩
  have h2 := Post.un S02 h1
  cases e3 : evEs fs (.cons c2 cs) r1 with
  | ok ws r3 =>
    rw [e3] at h2
    intro F3 H3 R3 S3 vs rs frs ol
    obtain ⟨_, S3', S03, h3⟩ := h2 F3 H3 R3 S3
    refine h3 F3 H3 R3 S03 (v :: vs) (.cons (q2.step0 S3) rs) (.cons ?_ (Paired.mapP frs fun _ _ z => z.back S02)) ?_
    · cases w <;> trivial
    · have hn := evEs_ne r1 ws r3 e3
      cases ws with
      | nil => exact absurd rfl hn
      | cons w2 ws2 => exact ⟨stl_notf, ol⟩
  | err c p r3 => rw [e3] at h2; exact h2
  | bad => rw [e3] at h2; exact h2
theorem paired_append {α β : Type} {P : α → β → Prop} : ∀ {a c : List α} {b d : List β}, Paired P a b → Paired P c d → Paired P (a ++ c) (b ++ d)
  | _, _, _, _, .nil, h => h
  | _, _, _, _, .cons x y, h => .cons x (paired_append y h)
theorem paired_get {α β : Type} {P : α → β → Prop} : ∀ {a : List α} {b : List β} {i : Nat} {y : β}, Paired P a b → b[i]? = some y → ∃ x, a[i]? = some x ∧ P x y
  | _, _, _, _, .nil, e => by simp at e
  | _, _, 0, _, .cons h _, e => by
    simp at e
    subst e
    exact ⟨_, rfl, h⟩
  | _, _, i + 1, _, .cons _ hs, e => by
    obtain ⟨x, a, b⟩ := paired_get (i := i) hs (by simpa using e)
    exact ⟨x, by simpa using a, b⟩
theorem paired_perm {P : V → W → Prop} {vs : List V} {ws : List W} (h : Paired P vs ws) : ∀ {q : List Nat} {qs : List W}, permW ws q = some qs → Paired P (permV vs q) qs
  | [], _, e => by
    simp only [permW, Option.some.injEq] at e
    subst e
    exact .nil
  | i :: is, _, e => by
    simp only [permW] at e
    split at e
    · rename_i w rr e1 e2
      cases e
      obtain ⟨x, a, b⟩ := paired_get h e1
      unfold permV
      rw [a]
      exact .cons b (paired_perm h e2)
    · cases e
theorem onlyLast_of : ∀ {ws : List W}, (∀ w ∈ ws, ∀ l, w ≠ .f l) → OnlyLast ws
  | [], _ => trivial
  | [_], _ => trivial
  | w :: v :: ws, h => ⟨h w List.mem_cons_self, onlyLast_of fun x hx => h x (List.mem_cons_of_mem _ hx)⟩
theorem frs_of {H : Hp} : ∀ {vs : List V} {ws : List W}, vs.length = ws.length → (∀ w ∈ ws, ∀ l, w ≠ .f l) → Paired (FrS H) vs ws
  | [], [], _, _ => .nil
  | v :: vs, w :: ws, e, h => .cons (by
      cases w with
      | f l => exact absurd rfl (h _ List.mem_cons_self l)
      | _ => trivial) (frs_of (Nat.succ.inj e) fun x hx => h x (List.mem_cons_of_mem _ hx))
theorem permW_sub {ws : List W} : ∀ {q : List Nat} {qs : List W}, permW ws q = some qs → ∀ w ∈ qs, w ∈ ws
  | [], _, e, w, hw => by
    simp only [permW, Option.some.injEq] at e
    subst e
    cases hw
  | i :: is, _, e, w, hw => by
    simp only [permW] at e
    split at e
    · rename_i w' rr e1 e2
      cases e
      rcases List.mem_cons.mp hw with rfl | hw
      · exact List.mem_of_getElem? e1
      · exact permW_sub e2 w hw
    · cases e
theorem pairedN {K : PySem.W.Frag} {Z : Addr → Prop} {F F' : Hp} {r r' : Sl} {σ : L2.St} {H H' : Hp} (s : Stp Z F r σ H F' r' σ H') : ∀ {vs : List V} {ws : List W}, Paired (RelW K F r σ H) vs ws → (∀ w ∈ ws, ∀ l, w ≠ .f l) → Paired (RelW K F' r' σ H') vs ws
  | _, _, .nil, _ => .nil
  | _, _, .cons h hs, n => .cons (h.stepN (n _ List.mem_cons_self) s) (pairedN s hs fun w hw => n w (List.mem_cons_of_mem _ hw))
/-- what is common to both forms -/
theorem kw_core {f : FI} {n : Nat} {cs ks : CEs} {kn : List Str} {perm : List Nat} (FO : FunOk X G f) {σ : L2.St} {H : Hp} {Q : VK} (hn : lenEs cs = n) (hk : lenEs ks = kn.length)
    (h : tOf X.K G Wx (fun r => (evEs fs cs r).bind fun ws r1 => (evEs fs ks r1).bind fun zs r2 => match permW (ws.map stl ++ zs.map stl) perm with | some qs => callF f qs r2 | none => .bad) σ H Q) :
    tOfs X.K G Wx (evEs fs cs) σ H fun vs H1 => tOfs X.K G Wx (evEs fs ks) σ H1 fun zs H2 => vs.length = n ∧ zs.length = kn.length ∧ spD X.K G f.ps.length f.fn (permV (vs ++ zs) perm) H2 Q (WE Wx σ) := by
  obtain ⟨F, r, R, h⟩ := h
  have h0 := Post.un Stp.refl h
  refine ⟨F, r, R, ?_⟩
  cases e1 : evEs fs cs r with
  | err c q r1 => rw [e1] at h0; exact h0
  | bad => rw [e1] at h0; exact h0
  | ok ws r1 =>
    rw [e1] at h0
    intro F1 H1 R1 S1 vs rs frs ol
    obtain ⟨_, _, _, h1⟩ := h0 F1 H1 R1 S1
    obtain ⟨F2, R2, S2, rs2⟩ := R1.settledAll rs ol
    have S02 : Stp NoZ F r σ H F2 r1 σ H1 := S1.trans S2 fun b hb => .inl (frL_of frs b hb)
    refine ⟨F2, r1, R2, ?_⟩
    have h2 := Post.un S02 h1
    cases e2 : evEs fs ks r1 with
    | err c q r2 => rw [e2] at h2; exact h2
    | bad => rw [e2] at h2; exact h2
    | ok zs r2 =>
      rw [e2] at h2
      intro F3 H3 R3 S3 us rz frz oz
      obtain ⟨_, _, S03, h3⟩ := h2 F3 H3 R3 S3
      obtain ⟨F4, R4, S4, rz2⟩ := R3.settledAll rz oz
      have frz0 : Paired (FrS H) us zs := Paired.mapP frz fun _ _ z => z.back S02
      have S04 : Stp NoZ F r σ H F4 r2 σ H3 := S03.trans S4 fun b hb => .inl (frL_of frz0 b hb)
      have notf : ∀ w ∈ ws.map stl ++ zs.map stl, ∀ l, w ≠ .f l := fun w hw => by
        rcases List.mem_append.mp hw with hw | hw <;> (obtain ⟨y, _, rfl⟩ := List.mem_map.mp hw; exact stl_notf)
      have rs3 : Paired (RelW X.K F4 r2 σ H3) vs (ws.map stl) := pairedN S4 (Paired.mapP rs2 fun v w q => q.step0 S3) (fun w hw => notf w (List.mem_append_left _ hw))
      refine ⟨by rw [rs.length, evEs_len e1, hn], by rw [rz.length, evEs_len e2, hk], ?_⟩
      split at h3
      · rename_i qs e3
        have al := paired_append rs3 rz2
        have pq := paired_perm al e3
        have nq : ∀ w ∈ qs, ∀ l, w ≠ .f l := fun w hw => notf w (permW_sub e3 w hw)
        exact call_sp FO.lpl S04 R4 pq (frs_of pq.length nq) (onlyLast_of nq) h3
      · exact h3.elim
theorem se_callk {f : FI} {j n : Nat} {e : Expr} {es : List Expr} {kws : List Keyword} {cs ks : CEs} {kn : List Str} {perm : List Nat} (FO : FunOk X G f) (hj : fs[j]? = some f) (hr : Room f.lv X.A) (tk : Takes X Wx) (hg : Gl X f.name)
    (hq : (n, kn, perm) ∈ f.kws) (hn : lenEs cs = n) (hk : lenEs ks = kn.length) (ha : SA X G Wx (e :: es) (evEs fs cs)) (hw : SK X G Wx kws (evEs fs ks))
    (hall : (backToKw pos (keywordEach kws X.env)).all (·.1.isSome) = true) (hks : (backToKw pos (keywordEach kws X.env)).filterMap (·.1) = kn) (hdb : (f.name == ("__debug__" : Str)) = false) (he : starEach (e :: es) X.env = (false, eval e X.env) :: starEach es X.env)
    (hpl : ((backTo pos (starEach (e :: es) X.env)).any (·.1) || (backToKw pos (keywordEach kws X.env)).any (·.1.isNone)) = false) : SE X G Wx (.Call (.Name f.name p) (e :: es) kws pos) (evE fs (.callk j cs kn ks perm)) := by
  obtain ⟨fa, fd, hm, hkp, _, hb, F⟩ := FO.ex
  refine pe_imp (pe_kwS (n := n) (perm := perm) F hr hg hm hkp (hb _ hq) (fun σ => passAt tk σ) ha hw hall hks hdb he hpl) ?_
  rintro σ H Q ⟨F, r, R, h⟩
  simp only [evE, hj] at h
  exact kw_core FO hn hk ⟨F, r, R, h⟩
theorem se_callk0 {f : FI} {j : Nat} {kws : List Keyword} {ks : CEs} {kn : List Str} {perm : List Nat} (FO : FunOk X G f) (hj : fs[j]? = some f) (hr : Room f.lv X.A) (tk : Takes X Wx) (hg : Gl X f.name)
    (hq : (0, kn, perm) ∈ f.kws) (hk : lenEs ks = kn.length) (hw : SK X G Wx kws (evEs fs ks))
    (hall : (backToKw pos (keywordEach kws X.env)).all (·.1.isSome) = true) (hks : (backToKw pos (keywordEach kws X.env)).filterMap (·.1) = kn) (hdb : (f.name == ("__debug__" : Str)) = false)
    (hpl : ((backTo pos (starEach [] X.env)).any (·.1) || (backToKw pos (keywordEach kws X.env)).any (·.1.isNone)) = false) : SE X G Wx (.Call (.Name f.name p) [] kws pos) (evE fs (.callk j .nil kn ks perm)) := by
  obtain ⟨fa, fd, hm, hkp, _, hb, F⟩ := FO.ex
  refine pe_imp (pe_kwS0 (perm := perm) F hr hg hm hkp (hb _ hq) (fun σ => passAt tk σ) hw hall hks hdb hpl) ?_
  rintro σ H Q ⟨F, r, R, h⟩
  simp only [evE, hj] at h
  have z := kw_core FO (n := 0) (cs := .nil) rfl hk ⟨F, r, R, h⟩
  obtain ⟨F', r', R', h'⟩ := z
  simp only [evEs] at h'
  exact h' F' H R' Stp.refl [] .nil .nil trivial
/-! ### built-in functions -/
def bltN : Blt → Str
  | .len => "len"
  | .abs => "abs"
  | .min2 => "min"
  | .max2 => "max"
  | .min1 => "min"
  | .max1 => "max"
  | .sum => "sum"
  | .all => "all"
  | .any => "any"
  | .tuple => "tuple"
  | .list => "list"
  | .int => "int"
  | .sorted => "sorted"
theorem boot_blt (b : Blt) : bootBuiltins (bltN b) = some (bltV b) := by cases b <;> decide +kernel
theorem pe_blt {b : Blt} {e : Expr} {es : List Expr} {t : TA} {r : List V → Hp → VK → Prop} (hc : CallR X (bltV b) r) (hg : Gl X (bltN b)) (hm : X.mg (bltN b) = none) (ha : PA X (e :: es) t)
    (he : starEach (e :: es) X.env = (false, eval e X.env) :: starEach es X.env) (hpl : (backTo pos (starEach es X.env)).any (·.1) = false) : PE X (.Call (.Name (bltN b) p) (e :: es) [] pos) (tCB r t) := by
  have hv := boot_blt b
  have hn : bltN b ≠ "__name__" := by cases b <;> decide
  have hd : (bltN b == ("__debug__" : Str)) = false := by cases b <;> decide
  cases b <;> first | exact pe_callB hc hg hm hv ha hn hd he hpl | exact pe_callTy hc hg hm hv ha hn hd he hpl
theorem se_blt {b : Blt} {e : Expr} {es : List Expr} {cs : CEs} (hc : X.calm = true) (hg : Gl X (bltN b)) (hm : X.mg (bltN b) = none) (ha : SA X G Wx (e :: es) (evEs fs cs))
    (he : starEach (e :: es) X.env = (false, eval e X.env) :: starEach es X.env) (hpl : (backTo pos (starEach es X.env)).any (·.1) = false) : SE X G Wx (.Call (.Name (bltN b) p) (e :: es) [] pos) (evE fs (.blt b cs)) := by
  refine pe_imp (pe_blt (cr_blt hc b) hg hm ha he hpl) ?_
  rintro σ H Q ⟨F, r, R, h⟩
  simp only [evE] at h
  refine ⟨F, r, R, (Post.un Stp.refl h).mono fun ws r1 F1 H1 ⟨R1, S1, _, h1⟩ vs rs frs ol => ?_⟩
  split at h1
  · rename_i xs e1
    cases e2 : bltD b xs with
    | none => rw [e2] at h1; exact h1.elim
    | some w =>
      rw [e2] at h1
      refine ⟨F1, xs, w, R1.sub, R1.fixL rs e1, e2, fun v H' hv => ?_⟩
      obtain ⟨F2, R2, S2, p2, p3⟩ := R1.res hv
      exact h1 F2 H' R2 (S1.trans0 S2) v p2 (p3.back S1)
  · exact h1.elim
def tyS (t : Ty) : Str := PySem.Str.ofString (tyN t)
theorem boot_ty (t : Ty) : bootBuiltins (tyS t) = some (.type (tyN t)) := by cases t <;> decide +kernel
theorem se_isa {t : Ty} {e : Expr} {c : CE} {p2 : Pos} (hg : Gl X "isinstance") (hm : X.mg "isinstance" = none) (hg2 : Gl X (tyS t)) (hm2 : X.mg (tyS t) = none) (h : SE X G Wx e (evE fs c))
    (he : starEach [e, .Name (tyS t) p2] X.env = (false, eval e X.env) :: starEach [.Name (tyS t) p2] X.env) : SE X G Wx (.Call (.Name "isinstance" p) [e, .Name (tyS t) p2] [] pos) (evE fs (.isa t c)) := by
  have ht : PE X (.Name (tyS t) p2) (tC (.ty (tyN t))) := pe_bltn hg2 hm2 (boot_ty t) rfl (by cases t <;> decide) (by cases t <;> decide)
  refine pe_imp (pe_callB call_isi hg hm PyProof.Rows.boot_isinstance (pa_cons h (pa_cons ht pa_nil (by rfl)) he) (by decide) (by decide) he (by rfl)) ?_
  rintro σ H Q ⟨F, r, R, h⟩
  simp only [evE] at h
  refine ⟨F, r, R, (Post.un Stp.refl h).mono fun w r1 F1 H1 ⟨R1, S1, _, h1⟩ v rv fv => ?_⟩
  split at h1
  · rename_i x e1
    obtain ⟨n, q1, q2⟩ := cur_ty R1.sub (R1.fixx rv e1)
    exact ⟨v, .ty (tyN t), .type n, .type (tyN t), isaD t x, rfl, .ty _, q1, kit_ty (q2 t), h1 F1 H1 R1 S1 _ (.bl _) trivial⟩
  · exact h1.elim
/-! ### walks -/
theorem rangeD_len : ∀ (n : Nat) (lo : Int), (rangeD lo n).length = n
  | 0, _ => rfl
  | n + 1, lo => congrArg Nat.succ (rangeD_len n (lo + 1))
theorem rangeD_get : ∀ (n : Nat) (lo : Int) (i : Nat), i < n → (rangeD lo n)[i]? = some (.int (lo + i))
  | 0, _, _, h => absurd h (Nat.not_lt_zero _)
  | n + 1, lo, 0, _ => by simp [rangeD]
  | n + 1, lo, i + 1, h => by
    have z := rangeD_get n (lo + 1) i (by omega)
    simp only [rangeD, List.getElem?_cons_succ, z]
    congr 2
    omega
theorem walk_dl {K : PySem.W.Frag} {F : Hp} {a : Addr} {vs : List V} {l : List D} (h1 : F a = some (.lst vs)) (h2 : RpAll K F vs l) : WalkD K F (Itl K a) l := by
  refine ⟨_, _, RpAll.len h2 ▸ walk_list (xs := vs), fun H s => .inl (.inl (s _ _ h1)), fun i H x H' hi ⟨e, y⟩ => ?_⟩
  subst e
  obtain ⟨d, e1, e2⟩ := RpAll.get' h2 y
  exact ⟨d, e1, .here e2⟩
theorem walk_dt {K : PySem.W.Frag} {F : Hp} {a : Addr} {vs : List V} {l : List D} (h1 : SqT K F a vs) (h2 : RpAll K F vs l) : WalkD K F (Itt K a) l := by
  refine ⟨_, _, RpAll.len h2 ▸ walk_tup (xs := vs), fun H s => sqT_mono s h1, fun i H x H' hi ⟨e, y⟩ => ?_⟩
  subst e
  obtain ⟨d, e1, e2⟩ := RpAll.get' h2 y
  exact ⟨d, e1, .here e2⟩
theorem walk_dr {K : PySem.W.Frag} {F : Hp} (lo : Int) (n : Nat) : WalkD K F (Itr lo n) (rangeD lo n) := by
  refine ⟨fun _ => True, YFn fun i => .int (lo + i), ?_, fun _ _ => trivial, fun i H x H' hi ⟨e, y⟩ => ?_⟩
  · rw [rangeD_len]
    exact walk_range
  · subst e
    subst y
    rw [rangeD_len] at hi
    exact ⟨_, rangeD_get n lo i hi, .here (.int _)⟩
/-- behind the kept value: the list's or the tuple's walk -/
theorem kept_walk {F F1 : Hp} {r r1 : Sl} {σ : L2.St} {H H1 : Hp} {w : W} {v : V} {ok : List D → Sl → Hp → Hp → Prop} {g : List D → List D} (R1 : StR X.K G.T F1 r1 σ H1) (S1 : Stp NoZ F r σ H F1 r1 σ H1) (rv : RelW X.K F1 r1 σ H1 v w) (fv : FrS H v w)
    (h1 : Post X.K G Wx (itmI g r1 w) F r σ H ok) :
    ∃ F2 r2 l, StR X.K G.T F2 r2 σ H1 ∧ ok (g l) r2 F2 H1 ∧ ((∃ a vs, v = .ref a ∧ F2 a = some (.lst vs) ∧ RpAll X.K F2 vs l ∧ ∃ x r', keepW r1 w = some (.list x, r')) ∨ (∃ a vs, v = .ref a ∧ SqT X.K F2 a vs ∧ RpAll X.K F2 vs l ∧ ∃ x r', keepW r1 w = some (.tuple x, r'))) := by
  unfold itmI at h1
  split at h1
  · rename_i l r2 e
    obtain ⟨F2, R2, S02, p2⟩ := R1.kept' S1 rv fv e
    cases p2 with | lst q1 q2 => exact ⟨F2, r2, l, R2, h1 F2 H1 R2 S02, .inl ⟨_, _, rfl, q1, q2, _, _, e⟩⟩
  · rename_i l r2 e
    obtain ⟨F2, R2, S02, p2⟩ := R1.kept' S1 rv fv e
    cases p2 with | tup q1 q2 => exact ⟨F2, r2, l, R2, h1 F2 H1 R2 S02, .inr ⟨_, _, rfl, q1, q2, _, _, e⟩⟩
  · exact h1.elim
/-- two rules, by what is kept -/
theorem si_either {tg e it : Expr} {c : CE} {g : List D → List D} {Jl Jt : Addr → It} (he : SE X G Wx e (evE fs c))
    (hl : PI X tg it fun σ H Rk => tOf X.K G Wx (evE fs c) σ H fun v H1 => ∃ a xs, v = .ref a ∧ SqL X.K H1 a xs ∧ Rk (Jl a) H1)
    (ht : PI X tg it fun σ H Rk => tOf X.K G Wx (evE fs c) σ H fun v H1 => ∃ a xs, v = .ref a ∧ SqT X.K H1 a xs ∧ Rk (Jt a) H1)
    (wl : ∀ (F : Hp) a vs l, F a = some (.lst vs) → RpAll X.K F vs l → WalkD X.K F (Jl a) (g l)) (wt : ∀ (F : Hp) a vs l, SqT X.K F a vs → RpAll X.K F vs l → WalkD X.K F (Jt a) (g l)) :
    PI X tg it (tOfI X.K G Wx fun r => (evE fs c r).bind fun w r1 => itmI g r1 w) := by
  refine ⟨fun pins s σ H Rk I q => ?_⟩
  obtain ⟨F, r, R, h⟩ := q
  have h0 := Post.un Stp.refl h
  have mkL : (∀ w r1 l r2, evE fs c r = .ok w r1 → keepW r1 w = some (.tuple l, r2) → False) → _ := fun nt => hl.run pins s σ H Rk I ⟨F, r, R, by
    cases e1 : evE fs c r with
    | bad => rw [e1] at h0; exact h0.elim
    | err c' p' r1 => rw [e1] at h0; exact h0
    | ok w r1 =>
      rw [e1] at h0
      intro F1 H1 R1 S1 v rv fv
      obtain ⟨_, _, _, h1⟩ := h0 F1 H1 R1 S1
      obtain ⟨F2, r3, l, R2, q, ⟨a, vs, e3, e4, e5, x, r', e6⟩ | ⟨a, vs, e3, e4, e5, x, r', e6⟩⟩ := kept_walk R1 S1 rv fv h1
      · exact ⟨a, vs, e3, .inl (.inl (R2.sub _ _ e4)), q _ (wl _ _ _ _ e4 e5)⟩
      · exact (nt w r1 _ _ e1 e6).elim⟩
  by_cases nt : ∀ w r1 l r2, evE fs c r = .ok w r1 → keepW r1 w = some (.tuple l, r2) → False
  · exact mkL nt
  · refine ht.run pins s σ H Rk I ⟨F, r, R, ?_⟩
    simp only [Classical.not_forall, Classical.not_not] at nt
    obtain ⟨w, r1, l0, r2, e1, e2, _⟩ := nt
    rw [e1] at h0 ⊢
    intro F1 H1 R1 S1 v rv fv
    obtain ⟨_, _, _, h1⟩ := h0 F1 H1 R1 S1
    obtain ⟨F2, r3, l, R2, q, ⟨a, vs, e3, e4, e5, x, r', e6⟩ | ⟨a, vs, e3, e4, e5, x, r', e6⟩⟩ := kept_walk R1 S1 rv fv h1
    · rw [e2] at e6
      cases e6
    · exact ⟨a, vs, e3, sqT_mono R2.sub e4, q _ (wt _ _ _ _ e4 e5)⟩
theorem si_seq {tg e : Expr} {c : CE} (he : SE X G Wx e (evE fs c)) : SI X G Wx tg e (evI fs (.seq c)) := by
  have z := si_either (g := fun l => l) (Jl := Itl X.K) (Jt := Itt X.K) (tg := tg) he
    ⟨fun pins s σ H Rk I ⟨F, r, R, h⟩ => (pi_list he).run pins s σ H Rk I ⟨F, r, R, h.mono fun w r' F' H' q v rv fv => let ⟨a, xs, e1, e2, e3⟩ := q v rv fv; ⟨a, e1, ⟨xs, e2⟩, e3⟩⟩⟩
    ⟨fun pins s σ H Rk I ⟨F, r, R, h⟩ => (pi_tup he).run pins s σ H Rk I ⟨F, r, R, h.mono fun w r' F' H' q v rv fv => let ⟨a, xs, e1, e2, e3⟩ := q v rv fv; ⟨a, e1, ⟨xs, e2⟩, e3⟩⟩⟩
    (fun _ _ _ _ a b => walk_dl a b) (fun _ _ _ _ a b => walk_dt a b)
  exact pi_imp z fun σ H Rk ⟨F, r, R, h⟩ => ⟨F, r, R, by simpa only [evI] using h⟩
theorem si_rng1 {tg a : Expr} {c : CE} (hg : Gl X "range") (hm : X.mg "range" = none) (ha : SE X G Wx a (evE fs c)) (hs : starEach [a] X.env = [(false, eval a X.env)]) : SI X G Wx tg (.Call (.Name "range" p) [a] [] pos) (evI fs (.rng1 c)) := by
  refine pi_imp (pi_range1 hg hm (pa_cons ha pa_nil hs) hs) ?_
  rintro σ H Rk ⟨F, r, R, h⟩
  simp only [evI] at h
  refine ⟨F, r, R, (Post.un Stp.refl h).mono fun w r1 F1 H1 ⟨R1, S1, _, h1⟩ v rv fv => ?_⟩
  split at h1
  · split at h1
    · rename_i hz
      cases rv
      exact ⟨_, rfl, hz.1, hz.2, h1 F1 H1 R1 S1 _ (walk_dr _ _)⟩
    · exact h1.elim
  · exact h1.elim
theorem si_rng2 {tg a b : Expr} {c d : CE} (hg : Gl X "range") (hm : X.mg "range" = none) (ha : SE X G Wx a (evE fs c)) (hb : SE X G Wx b (evE fs d)) (hs : starEach [a, b] X.env = [(false, eval a X.env), (false, eval b X.env)]) (hs2 : starEach [b] X.env = [(false, eval b X.env)]) :
    SI X G Wx tg (.Call (.Name "range" p) [a, b] [] pos) (evI fs (.rng2 c d)) := by
  refine pi_imp (pi_range2 hg hm (pa_cons ha (pa_cons hb pa_nil hs2) (by rw [hs, hs2])) hs hs2) ?_
  rintro σ H Rk ⟨F, r, R, h⟩
  simp only [evI] at h
  refine ⟨F, r, R, (Post.un Stp.refl h).mono fun w r1 F1 H1 ⟨R1, S1, _, h1⟩ v rv fv => ⟨F1, r1, R1, (Post.un S1 h1).mono fun w2 r2 F2 H2 ⟨R2, S2, S02, h2⟩ v2 rv2 fv2 => ?_⟩⟩
  split at h2
  · split at h2
    · rename_i hz
      cases rv
      cases rv2
      exact ⟨_, _, rfl, hz, h2 F2 H2 R2 S02 _ (walk_dr _ _)⟩
    · exact h2.elim
  · exact h2.elim
theorem enumD_len : ∀ (l : List D) (n : Int), (enumD n l).length = l.length
  | [], _ => rfl
  | _ :: l, n => congrArg Nat.succ (enumD_len l (n + 1))
theorem enumD_get : ∀ (l : List D) (n : Int) (i : Nat) (d : D), l[i]? = some d → (enumD n l)[i]? = some (.tuple [.int (n + i), d])
  | [], _, _, _, h => by simp at h
  | x :: l, n, 0, d, h => by
    simp at h
    subst h
    simp [enumD]
  | x :: l, n, i + 1, d, h => by
    have z := enumD_get l (n + 1) i d (by simpa using h)
    simp only [enumD, List.getElem?_cons_succ, z]
    congr 4
    omega
theorem zipD_len : ∀ (l m : List D), (zipD l m).length = min l.length m.length
  | [], _ => by simp [zipD]
  | _ :: _, [] => by simp [zipD]
  | _ :: l, _ :: m => by
    simp only [zipD, List.length_cons, zipD_len l m]
    omega
theorem zipD_get : ∀ (l m : List D) (i : Nat) (x y : D), l[i]? = some x → m[i]? = some y → (zipD l m)[i]? = some (.tuple [x, y])
  | [], _, _, _, _, h, _ => by simp at h
  | _ :: _, [], _, _, _, _, h => by simp at h
  | _ :: l, _ :: m, 0, x, y, h, g => by
    simp at h g
    subst h g
    rfl
  | _ :: l, _ :: m, i + 1, x, y, h, g => by
    simp only [zipD, List.getElem?_cons_succ]
    exact zipD_get l m i x y (by simpa using h) (by simpa using g)
theorem walk_de {K : PySem.W.Frag} {F : Hp} {a : Addr} {vs : List V} {l : List D} (h1 : F a = some (.lst vs)) (h2 : RpAll K F vs l) : WalkD K F (Ite K a) (enumD 0 l) := by
  refine ⟨fun H => SqL K H a vs, YPair (fun i => some (.int (i : Nat))) (fun i => vs[i]?), ?_, fun H s => .inl (.inl (s _ _ h1)), fun i H v H' hi ⟨T, x, y, e1, e2, e3, e4, e5⟩ => ?_⟩
  · rw [enumD_len, ← RpAll.len h2]
    exact walk_enum (xs := vs)
  · subst e1 e3
    cases e4
    obtain ⟨d, q1, q2⟩ := RpAll.get' h2 e5
    refine ⟨_, enumD_get l 0 i d q1, ?_⟩
    have e0 : (0 : Int) + (i : Nat) = (i : Nat) := by omega
    rw [e0]
    exact .tup e2 (.cons (.int _) (.cons q2 .nil))
theorem walk_dz {K : PySem.W.Frag} {F : Hp} {a b : Addr} {vs us : List V} {l m : List D} (h1 : F a = some (.lst vs)) (h2 : RpAll K F vs l) (g1 : F b = some (.lst us)) (g2 : RpAll K F us m) : WalkD K F (Itz K a b) (zipD l m) := by
  refine ⟨_, _, walk_zip (xs := vs) (ys := us) (by rw [zipD_len, RpAll.len h2, RpAll.len g2]), fun H s => ⟨.inl (.inl (s _ _ h1)), .inl (.inl (s _ _ g1))⟩, fun i H v H' hi ⟨T, x, y, e1, e2, e3, e4, e5⟩ => ?_⟩
  subst e1 e3
  obtain ⟨d, q1, q2⟩ := RpAll.get' h2 e4
  obtain ⟨d', q3, q4⟩ := RpAll.get' g2 e5
  exact ⟨_, zipD_get l m i d d' q1 q3, .tup e2 (.cons q2 (.cons q4 .nil))⟩
theorem walk_zipT {K : PySem.W.Frag} {a b : Addr} {xs ys : List V} {n : Nat} (hn : n = min xs.length ys.length) : Walk (ItzT K a b) n (fun H => SqT K H a xs ∧ SqT K H b ys) (YPair (fun i => xs[i]?) (fun i => ys[i]?)) := by
  subst hn
  refine ⟨fun i _ hi q => ?_, fun _ q => ⟨xs, ys, q.1, q.2, by omega⟩, fun i H v H' _ q y => ?_⟩
  · exact ⟨xs, ys, xs[i]'(by omega), ys[i]'(by omega), q.1, q.2, List.getElem?_eq_getElem _, List.getElem?_eq_getElem _⟩
  · obtain ⟨T, x, y, q1, q2, q3, q4, q5⟩ := y
    exact ⟨T, x, y, q1, q2, q3, q4 xs q.1, q5 ys q.2⟩
theorem walk_dzT {K : PySem.W.Frag} {F : Hp} {a b : Addr} {vs us : List V} {l m : List D} (h1 : SqT K F a vs) (h2 : RpAll K F vs l) (g1 : SqT K F b us) (g2 : RpAll K F us m) : WalkD K F (ItzT K a b) (zipD l m) := by
  refine ⟨_, _, walk_zipT (xs := vs) (ys := us) (by rw [zipD_len, RpAll.len h2, RpAll.len g2]), fun H s => ⟨sqT_mono s h1, sqT_mono s g1⟩, fun i H v H' hi ⟨T, x, y, e1, e2, e3, e4, e5⟩ => ?_⟩
  subst e1 e3
  obtain ⟨d, q1, q2⟩ := RpAll.get' h2 e4
  obtain ⟨d', q3, q4⟩ := RpAll.get' g2 e5
  exact ⟨_, zipD_get l m i d d' q1 q3, .tup e2 (.cons q2 (.cons q4 .nil))⟩
theorem si_zip {a b : Expr} {elts : List Expr} {kk : Nat} {tp : Pos} {c d : CE} (hg : Gl X "zip") (hm : X.mg "zip" = none) (ha : SE X G Wx a (evE fs c)) (hb : SE X G Wx b (evE fs d)) (hs : starEach [a, b] X.env = (false, eval a X.env) :: starEach [b] X.env) (hs2 : starEach [b] X.env = (false, eval b X.env) :: starEach [] X.env)
    (hpl : (backTo pos (starEach [b] X.env)).any (·.1) = false) : SI X G Wx (.Tuple elts kk tp) (.Call (.Name "zip" p) [a, b] [] pos) (evI fs (.zip c d)) := by
  refine pi_imp (pi_zipA hg hm (pa_cons ha (pa_cons hb pa_nil hs2) hs) hs hpl) ?_
  rintro σ H Rk ⟨F, r, R, h⟩
  simp only [evI] at h
  refine ⟨F, r, R, (Post.un Stp.refl h).mono fun w r1 F1 H1 ⟨R1, S1, _, h1⟩ v rv fv => ?_⟩
  obtain ⟨F2, R2, S2, q2⟩ := R1.settled rv
  have S02 : Stp NoZ F r σ H F2 r1 σ H1 := S1.trans S2 fun b hb => .inl (fv.of b hb)
  refine ⟨F2, r1, R2, (Post.un S02 h1).mono fun w2 r2 F3 H3 ⟨R3, S3, S03, h3⟩ v2 rv2 fv2 => ?_⟩
  have frs : Paired (FrS H) [v, v2] [stl w, w2] := .cons (by cases w <;> trivial) (.cons (fv2.back S02) .nil)
  unfold zipI at h3
  split at h3
  · rename_i l m r3 e1
    obtain ⟨F4, R4, S4, p4⟩ := R3.keptAll (vs := [v, v2]) (.cons (q2.step0 S3) (.cons rv2 .nil)) ⟨stl_notf, trivial⟩ e1
    have S04 : Stp NoZ F r σ H F4 r3 σ H3 := S03.trans S4 fun b hb => .inl (frL_of frs b hb)
    cases p4 with
    | cons p5 p6 =>
      cases p6 with
      | cons p6 _ =>
        cases p5 with
        | lst a1 a2 =>
          cases p6 with
          | lst b1 b2 => exact ⟨_, _, _, _, rfl, .inl ⟨.inl (.inl (R4.sub _ _ a1)), .inl (.inl (R4.sub _ _ b1)), h3 F4 H3 R4 S04 _ (walk_dz a1 a2 b1 b2)⟩⟩
  · rename_i l m r3 e1
    obtain ⟨F4, R4, S4, p4⟩ := R3.keptAll (vs := [v, v2]) (.cons (q2.step0 S3) (.cons rv2 .nil)) ⟨stl_notf, trivial⟩ e1
    have S04 : Stp NoZ F r σ H F4 r3 σ H3 := S03.trans S4 fun b hb => .inl (frL_of frs b hb)
    cases p4 with
    | cons p5 p6 =>
      cases p6 with
      | cons p6 _ =>
        cases p5 with
        | tup a1 a2 =>
          cases p6 with
          | tup b1 b2 => exact ⟨_, _, _, _, rfl, .inr ⟨sqT_mono R4.sub a1, sqT_mono R4.sub b1, h3 F4 H3 R4 S04 _ (walk_dzT a1 a2 b1 b2)⟩⟩
  · exact h3.elim
/-! ### targets -/
mutual
/-- the slots of a target -/
def tgS : Tg → List Nat
  | .nm i => [i]
  | .tp ts => tgsS ts
def tgsS : Tgs → List Nat
  | .nil => []
  | .cons t ts => tgS t ++ tgsS ts
end
/-- a target by data: sl the slots that it may change -/
def tgOf (K : PySem.W.Frag) (G : Gx) (sl : List Nat) (st : D → Sl → Option Sl) : TG := fun v σ H Q => ∃ F r d r2, StR K G.T F r σ H ∧ Rp K F v d ∧ st d r = some r2 ∧
  ∀ σ2, StR K G.T F r2 σ2 H → Stp NoZ F r σ H F r2 σ2 H → (∀ i, i ∉ sl → σ2[i]? = σ[i]?) → σ2.length = σ.length → Q σ2 H
def tgsOf (K : PySem.W.Frag) (G : Gx) (sl : List Nat) (st : List D → Sl → Option Sl) : TGs := fun vs σ H Q => ∃ F r ds r2, StR K G.T F r σ H ∧ RpAll K F vs ds ∧ st ds r = some r2 ∧
  ∀ σ2, StR K G.T F r2 σ2 H → Stp NoZ F r σ H F r2 σ2 H → (∀ i, i ∉ sl → σ2[i]? = σ[i]?) → σ2.length = σ.length → Q σ2 H
theorem pg_imp {tg : Expr} {t t' : TG} (h : PG X tg t) (i : ∀ v σ H Q, t' v σ H Q → t v σ H Q) : PG X tg t' := ⟨fun pins s σ H v u Q I r q => h.run pins s σ H v u Q I r (i v σ H Q q)⟩
theorem pgs_imp {tg : List Expr} {t t' : TGs} (h : PGs X tg t) (i : ∀ v σ H Q, t' v σ H Q → t v σ H Q) : PGs X tg t' := ⟨fun pins s σ H v u Q I r q => h.run pins s σ H v u Q I r (i v σ H Q q)⟩
/-- a slot is set to settled data -/
theorem StR.setVal {K : PySem.W.Frag} {F : Hp} {r : Sl} {σ : L2.St} {H : Hp} {i : Nat} {v : V} {d : D} (R : StR K G.T F r σ H) (hi : i < r.length) (h : Rp K F v d) (nl : ∀ l, r[i]? ≠ some (.lent l)) :
    StR K G.T F (r.set i (.val d)) (σ.set i (some v)) H ∧ Stp NoZ F r σ H F (r.set i (.val d)) (σ.set i (some v)) H := by
  have hs : i < σ.length := by rw [← R.len]; exact hi
  have oa : ∀ j b, OwnAt (r.set i (.val d)) (σ.set i (some v)) j b → OwnAt r σ j b := fun j b ⟨l, h1, h2⟩ => by
    by_cases hj : j = i
    · subst hj
      rw [List.getElem?_set_self hi] at h1
      rcases h1 with h1 | h1 <;> cases h1
    · rw [List.getElem?_set_ne (Ne.symm hj)] at h1 h2
      exact ⟨l, h1, h2⟩
  refine ⟨⟨R.sub, R.ntb, by rw [List.length_set, List.length_set]; exact R.len, fun j sv e => ?_, fun j k b h1 h2 => R.apart j k b (oa j b h1) (oa k b h2), R.tabs⟩,
    ⟨fun _ _ z => z, fun _ z => .inl z, fun _ _ z _ _ _ => z, fun _ z => z, fun b ⟨j, o⟩ => .inl ⟨j, oa j b o⟩, fun j l e => ?_⟩⟩
  · by_cases hj : j = i
    · subst hj
      rw [List.getElem?_set_self hi] at e
      cases e
      rw [List.getElem?_set_self hs]
      exact ⟨v, rfl, h⟩
    · rw [List.getElem?_set_ne (Ne.symm hj)] at e ⊢
      exact R.slot j sv e
  · by_cases hj : j = i
    · subst hj
      rw [List.getElem?_set_self hi] at e
      cases e
    · rw [List.getElem?_set_ne (Ne.symm hj)] at e ⊢
      exact ⟨l, e, rfl⟩
theorem sg_name {i : Nat} {x : Str} (hN : X.N.Nodup) (hi : X.N[i]? = some x) (hx : Loc X.env.scope x) (hf : X.fn x = true ∨ X.env.scope.names.lookup x = some .local) : PG X (.Name x pos) (tgOf X.K G [i] (setTg (.nm i))) := by
  refine pg_imp (pg_name hN hi hx hf) ?_
  rintro v σ H Q ⟨F, r, d, r2, R, h, e, q⟩
  simp only [setTg] at e
  split at e
  · cases e
  · cases e
  · rename_i sv e1 e2 n1
    cases e
    have hl : i < r.length := (List.getElem?_eq_some_iff.mp n1).1
    obtain ⟨R2, S2⟩ := R.setVal hl h fun l z => by
      rw [z] at n1
      cases n1
      exact e1 l rfl
    exact q _ R2 S2 (fun j hj => List.getElem?_set_ne (fun z => hj (by rw [z]; exact List.mem_cons_self))) (List.length_set ..)
  · cases e
end
end SR
/-! The engine: enumerate over a tuple (the hand layer has it over a list). -/
namespace SR
open PySem PySem.Spec PyProof.Rows L2
set_option maxHeartbeats 1000000 in
theorem meets_enumerate_newT {v : Value} {o : Obj} {H : Heap → Prop} (B : Begins v o H) :
    Meets (Builtin.«enumerate.__new__» ⟨[.type "enumerate", v], []⟩) (fun _ R s => H s.heap ∧
      R (.ok (.ret (.ref (s.heap.push o).objs.size))) { s with heap := (s.heap.push o).push { cls := .type "enumerate", data := .fields #[.none, .bool false, .ref s.heap.objs.size, rawInt 0, .none, .none] } }) :=
  .of_wp fun prog w A R s h => by
    obtain ⟨hp, g, d, tk, os⟩ := s; obtain ⟨h1, h⟩ := h
    have hsub := sub_enumerate
    have q1 : ∀ {A' : Around} {E : Value → Shared → Prop} {Q : Value → Shared → Prop}, Q (.ref hp.objs.size) ⟨hp.push o, g, d, tk, os⟩ → wpAny (model prog w) A' (pyIter v) Q E ⟨hp, g, d, tk, os⟩ :=
      fun q => B.iter prog w _ _ ⟨hp, g, d, tk, os⟩ _ h1 q
    wp_walk using q1
    refine wpAny_stack_any fun st => wpAny_pure ?_
    split
    · rename_i c _ _ _ _ _
      cases (c == Value.type "enumerate")
      · wp_walk using q1
        exact ⟨_, rfl, h⟩
      · wp_walk using q1
        exact ⟨_, rfl, h⟩
    · wp_walk using q1
      exact ⟨_, rfl, h⟩
theorem call_enumerate_tup {prog : Program} {w : World} {A : Around} {E : Value → Shared → Prop} {s : Shared} {l : Addr} {items : Array Value} {Q : Value → Shared → Prop} (hL : s.heap.IsTuple l items)
    (h : ∀ h', IsEnum h' (s.heap.objs.size + 1) s.heap.objs.size 0 .none → h'.IsTupleIter s.heap.objs.size l 0 → h'.objs.size = s.heap.objs.size + 2 →
      (∀ b o, s.heap.get? b = some o → h'.get? b = some o) → Q (.ref (s.heap.objs.size + 1)) { s with heap := h' }) :
    wpAny (model prog w) A (call (.type "enumerate") [.ref l]) Q E s := by
  refine callType_new F.called_enumerate (by decide) (F.typeCall_enumerate_1 _) (F.newCall_enumerate_1 _) (fun obj => F.args_object_init_2 obj _) F.entry_enumerate_new
    (meets_enumerate_newT (begins_tuple l items)) ⟨hL, ?_⟩
  have hz : (s.heap.push { cls := .type "tuple_iterator", data := .fields #[.ref l, .int 0 0] }).objs.size = s.heap.objs.size + 1 := Heap.size_push ..
  show _ ∧ _
  rw [hz]
  have he : IsEnum ((s.heap.push { cls := .type "tuple_iterator", data := .fields #[.ref l, .int 0 0] }).push
      { cls := .type "enumerate", data := .fields #[.none, .bool false, .ref s.heap.objs.size, rawInt 0, .none, .none] }) (s.heap.objs.size + 1) s.heap.objs.size 0 .none := by
    have := Heap.get?_push_size (s.heap.push { cls := .type "tuple_iterator", data := .fields #[.ref l, .int 0 0] })
      (o := { cls := .type "enumerate", data := .fields #[.none, .bool false, .ref s.heap.objs.size, rawInt 0, .none, .none] }) rfl
    rw [hz] at this; exact this
  refine ⟨⟨_, he, rfl⟩, h _ he ⟨_, Heap.get?_push_of_some _ (Heap.get?_push_size _ rfl), rfl, rfl⟩ (by rw [Heap.size_push, hz]) fun b o x => Heap.get?_push_of_some _ (Heap.get?_push_of_some _ x)⟩
/-- the end of it -/
theorem wpAny_pyNext_enum_endT {prog : Program} {w : World} {A : Around} {E : Value → Shared → Prop} {s : Shared} {e it l : Addr} {i : Nat} {c : Int} {items : Array Value} {old : Value} {Q : Option Value → Shared → Prop} (hh : A.handled = none) (he : IsEnum s.heap e it c old) (hit : s.heap.IsTupleIter it l i)
    (hL : s.heap.IsTuple l items) (hx : items[i]? = none) (hQ : ∀ h', Heap.ExtBut it s.heap h' → Q none { s with heap := h' }) : wpAny (model prog w) A (pyNext (.ref e)) Q E s := by
  have hT : s.TypeIs (.ref e) "enumerate" := ⟨_, he, rfl⟩
  unfold pyNext
  refine wpAny_bind (wpAny_attempt (wpAny_callSpecial?_slot (name := Str.ofString "__next__") hT F.slot_enumerate_next
    (wpAny_call_entry F.slot_enumerate_next hT F.entry_enumerate_next ?_ (F.args_enumerate_next_1 _))))
  show wpAny _ _ (field (.ref e) 2 >>= _) _ _ _
  refine wpAny_bind (wpAny_field he rfl (x := .ref it) rfl ?_)
  refine wpAny_bind (wpAny_nextOf_tuple_end hh hit hL hx fun h' x he' hx' => ?_)
  obtain ⟨o, ho, hc⟩ := hx'
  refine wpAny_bind (wpAny_isInstance (T := "StopIteration") (b := true) ⟨o, ho, hc⟩ isSubtype_stop ?_)
  exact wpAny_pure (hQ _ he')
/-- the tuple at a, each item in a new pair -/
def IteT (K : PySem.W.Frag) (a : Addr) : It :=
  ⟨fun i H => ∃ (xs : List V) (x : V), SqT K H a xs ∧ xs[i]? = some x, fun i H v H' => ∃ T x, v = .ref T ∧ H T = none ∧ H' = upd H T (.tup [.int (i : Nat), x]) ∧ ∀ xs, SqT K H a xs → xs[i]? = some x, fun i H => ∃ xs : List V, SqT K H a xs ∧ xs.length ≤ i⟩
theorem turn_enumT {P : Program} {w : World} {K : PySem.W.Frag} {elts : List Expr} {kk : Nat} {tpos : Pos} (a e it : Addr) (hna : a ≠ it) (hnea : a ≠ e) :
    Turn P w K (.Tuple elts kk tpos) (IteT K a) [e, it] e (fun i h => (∃ old, IsEnum h e it ((i : Nat) : Int) old) ∧ h.IsTupleIter it a i ∧ e ≠ it) where
  mem := by simp
  obj := fun i h st b hb => by
    obtain ⟨⟨old, he⟩, ⟨o, ho, hc, hd⟩, _⟩ := st
    have e' : b = e ∨ b = it := by simpa using hb
    rcases e' with z | z
    · rw [z]; exact ⟨_, he, fun v q => nomatch q⟩
    · rw [z]; exact ⟨o, ho, fun v q => by rw [hd] at q; cases q⟩
  keep := fun i h h' st k => let ⟨⟨old, he⟩, hi, hne⟩ := st; ⟨⟨old, k e (by simp) _ he⟩, hi.at fun o q => k it (by simp) o q, hne⟩
  item := by
    intro X hP hw hK hc i pins s σ H E I hf st hg
    subst hP hw hK
    obtain ⟨⟨old, he⟩, hit, hne⟩ := st
    obtain ⟨xs, x, hq, hx⟩ := hg
    obtain ⟨its, rv, p, hz⟩ := I.tuple hq
    obtain ⟨u, hu, ru⟩ := rv.get hx
    have hel : e < s.heap.objs.size := Heap.lt_size he
    have hil : it < s.heap.objs.size := by obtain ⟨_, q, _⟩ := hit; exact Heap.lt_size q
    have p' : s.heap.IsTuple a its.toArray := p
    have hi : i < its.toArray.size := by
      have := (List.getElem?_eq_some_iff.mp hu).1
      simpa using this
    refine wpAny_pyNext_enum_itemD (Draws.tuple (A := X.A.in1) (I.ok.hd hc) it a hna its.toArray) he ⟨hit, p'⟩ hi hne (by
      intro hm
      rcases List.mem_cons.mp hm with q | hm
      · exact hne q
      · exact hnea (List.mem_singleton.mp hm).symm) fun y h' tk hP ho hst hT hsz hk => ?_
    have ey : y = u := by
      have hP : its.toArray[i]? = some y := hP
      rw [List.getElem?_toArray, hu] at hP
      exact (Option.some.inj hP).symm
    subst ey
    refine ⟨_, rfl, wpAny_letOwnedTupleGo_enum (s := { s with heap := h', toks := tk + 1 }) ho fun h'' he' sb => ?_⟩
    have hT2 : h''.get? s.heap.objs.size = some { cls := .type "tuple", data := .seq #[.int i tk, y] } := (sb.2 _ (Nat.ne_of_gt hel)).trans hT
    have new : ObjOk X.prog X.w (upd H s.heap.objs.size (.tup [.int (i : Nat), x])) h'' s.heap.objs.size (.tup [.int (i : Nat), x]) :=
      ⟨by show 2 ≤ sizeLine; decide, [.int i tk, y], .cons ⟨_, rfl⟩ (.cons ru .nil), ⟨_, hT2, rfl, _, rfl⟩⟩
    have I1 : Inv X pins σ (upd H s.heap.objs.size (.tup [.int (i : Nat), x])) { s with heap := h'', toks := tk + 1 } :=
      I.turnedNew (ch := [e, it]) (fun b ob hb q => (sb.2 b (fun z => hb (by simp [z]))).trans (hk b ob (fun z => hb (by simp [z])) (fun z => hb (by simp [z])) q)) hf (Nat.le_refl _) new
    refine ⟨.ref s.heap.objs.size, _, I1, rfl, ⟨_, x, rfl, I.hok.fresh (Nat.le_refl _), rfl, fun ys hy => by rw [I.tuple_inj hy hq]; exact hx⟩, ⟨⟨y, ?_⟩, hst.1.at fun o q => (sb.2 it (Ne.symm hne)).trans q, hne⟩, fun b hb => ?_⟩
    · have e1 : ((i + 1 : Nat) : Int) = (i : Int) + 1 := by omega
      rw [e1]; exact he'
    · have hb' : b < s.heap.objs.size := by
        have e' : b = e ∨ b = it := by simpa using hb
        rcases e' with z | z
        · rw [z]; exact hel
        · rw [z]; exact hil
      rw [upd_ne (Nat.ne_of_lt hb')]
      exact (hf b hb).1
  done := by
    intro X hP hw hK hc i pins s σ H E I hf st hg
    subst hP hw hK
    obtain ⟨⟨old, he⟩, hit, hne⟩ := st
    obtain ⟨xs, hq, hx⟩ := hg
    obtain ⟨its, rv, p, hz⟩ := I.tuple hq
    obtain ⟨f0, f1, f2, f3, f4, f5⟩ := hf it (by simp)
    have hl := rv.length
    obtain ⟨_, hlt⟩ := hf it (by simp)
    have hz' : its.toArray.size ≤ i := by simp; omega
    exact wpAny_pyNext_enum_endT (I.ok.hd hc) he hit (show s.heap.IsTuple a its.toArray from p) (by simp; omega) fun h' eb => ⟨rfl, I.turned (t' := s.toks) (fun b o hb q => eb b o hb q) f0 f1 f3 f4 f5⟩
  self := fun A i s Q E st h => let ⟨⟨_, he⟩, _⟩ := st; wpAny_pyIter_enum he h
def iEnumT (K : PySem.W.Frag) (ta : TA) : TI := fun σ H R => ta σ H fun vs H1 => ∃ a xs, vs = [.ref a] ∧ SqT K H1 a xs ∧ R (IteT K a) H1
theorem pi_enumT {X : Cx} {e : Expr} {ta : TA} {p pos tpos : Pos} {elts : List Expr} {kk : Nat} (hg : Gl X "enumerate") (hm : X.mg "enumerate" = none) (ha : PA X [e] ta) (hs : starEach [e] X.env = [(false, eval e X.env)]) :
    PI X (.Tuple elts kk tpos) (.Call (.Name "enumerate" p) [e] [] pos) (iEnumT X.K ta) := by
  refine ⟨fun pins s σ H R I h => ?_⟩
  refine Call_ (ld_blt I hg hm boot_enumerate (PyProof.Rows.callWith_type1 (thn (ha.run pos pins s σ H _ I h) fun us s1 ⟨vs, H1, I1, r1, q1⟩ => ?_) hs rfl))
  obtain ⟨a, xs, ex, hq, q⟩ := q1
  subst ex
  cases r1 with
  | cons r rr =>
    cases rr
    cases r
    obtain ⟨its, rv, p', hz⟩ := I1.tuple hq
    have pT : s1.heap.IsTuple a its.toArray := p'
    have hal : a < s1.heap.objs.size := by obtain ⟨_, z, _⟩ := id pT; exact Heap.lt_size z
    refine call_enumerate_tup pT fun h' he hit hsz hk => wpAny_pyIter_enum he ?_
    have I2 : Inv X pins σ H1 { s1 with heap := h' } := I1.kept (t' := s1.toks) hk
    refine ⟨s1.heap.objs.size + 1, [s1.heap.objs.size + 1, s1.heap.objs.size], _, _, H1, rfl, I2, turn_enumT a (s1.heap.objs.size + 1) s1.heap.objs.size (Nat.ne_of_lt hal) (Nat.ne_of_lt (Nat.lt_succ_of_lt hal)), ⟨⟨.none, he⟩, hit, Nat.succ_ne_self _⟩, fun b hb => ?_, q⟩
    have e' : b = s1.heap.objs.size + 1 ∨ b = s1.heap.objs.size := by simpa using hb
    have hle : s1.heap.objs.size ≤ b := by
      rcases e' with z | z
      · rw [z]; exact Nat.le_add_right _ _
      · rw [z]; exact Nat.le_refl _
    exact I1.fpOk hle (I1.hok.fresh hle)
theorem walk_enumT {K : PySem.W.Frag} {a : Addr} {xs : List V} : Walk (IteT K a) xs.length (fun H => SqT K H a xs) (YPair (fun i => some (.int (i : Nat))) (fun i => xs[i]?)) := by
  refine ⟨fun i _ hi q => ⟨xs, xs[i], q, by simp [hi]⟩, fun _ q => ⟨xs, q, Nat.le_refl _⟩, fun i H v H' _ q y => ?_⟩
  obtain ⟨T, x, h1, h2, h3, h4⟩ := y
  exact ⟨T, .int (i : Nat), x, h1, h2, h3, rfl, h4 xs q⟩
end SR
/-! The engine, part 8: enumerate, targets that are tuples, comprehensions. -/
namespace SR
open PySem PySem.Spec PyProof.Rows L2 RZ
/-! ### wiped slots -/
theorem wipe_get {σ : L2.St} {i : Nat} : ∀ {vs : List Nat}, i ∉ vs → (wipe σ vs)[i]? = σ[i]?
  | [], _ => rfl
  | v :: vs, h => by
    unfold wipe
    rw [List.getElem?_set_ne (fun e => h (by rw [e]; exact List.mem_cons_self))]
    exact wipe_get fun m => h (List.mem_cons_of_mem _ m)
theorem wipe_in {σ : L2.St} {i : Nat} : ∀ {vs : List Nat}, i ∈ vs → i < σ.length → (wipe σ vs)[i]? = some none
  | v :: vs, h, l => by
    unfold wipe
    by_cases e : v = i
    · subst e
      rw [List.getElem?_set_self (by rw [wipe_length]; exact l)]
    · rw [List.getElem?_set_ne e]
      rcases List.mem_cons.mp h with z | z
      · exact absurd z.symm e
      · exact wipe_in z l
theorem wipeS_len {r : Sl} : ∀ {vs : List Nat}, (wipeS r vs).length = r.length
  | [] => rfl
  | v :: vs => by unfold wipeS; rw [List.length_set, wipeS_len]
theorem wipeS_get {r : Sl} {i : Nat} : ∀ {vs : List Nat}, i ∉ vs → (wipeS r vs)[i]? = r[i]?
  | [], _ => rfl
  | v :: vs, h => by
    unfold wipeS
    rw [List.getElem?_set_ne (fun e => h (by rw [e]; exact List.mem_cons_self))]
    exact wipeS_get fun m => h (List.mem_cons_of_mem _ m)
theorem wipeS_in {r : Sl} {i : Nat} {sv : SV} : ∀ {vs : List Nat}, i ∈ vs → (wipeS r vs)[i]? = some sv → sv = .no
  | v :: vs, h, e => by
    unfold wipeS at e
    by_cases q : v = i
    · subst q
      by_cases l : v < (wipeS r vs).length
      · rw [List.getElem?_set_self l] at e
        exact (Option.some.inj e).symm
      · rw [List.getElem?_eq_none (by rw [List.length_set]; omega)] at e
        cases e
    · rw [List.getElem?_set_ne q] at e
      rcases List.mem_cons.mp h with z | z
      · exact absurd z.symm q
      · exact wipeS_in z e
theorem backS_len {r0 r : Sl} : ∀ {vs : List Nat}, (backS r0 r vs).length = r.length
  | [] => rfl
  | v :: vs => by unfold backS; rw [List.length_set, backS_len]
theorem backS_get {r0 r : Sl} {i : Nat} : ∀ {vs : List Nat}, i ∉ vs → (backS r0 r vs)[i]? = r[i]?
  | [], _ => rfl
  | v :: vs, h => by
    unfold backS
    rw [List.getElem?_set_ne (fun e => h (by rw [e]; exact List.mem_cons_self))]
    exact backS_get fun m => h (List.mem_cons_of_mem _ m)
theorem backS_in {r0 r : Sl} {i : Nat} {sv : SV} : ∀ {vs : List Nat}, i ∈ vs → (backS r0 r vs)[i]? = some sv → sv = .no ∨ ∃ d, sv = .val d ∧ r0[i]? = some (.val d)
  | v :: vs, h, e => by
    unfold backS at e
    by_cases q : v = i
    · subst q
      by_cases l : v < (backS r0 r vs).length
      · rw [List.getElem?_set_self l] at e
        have e := (Option.some.inj e).symm
        split at e
        · rename_i d z
          exact .inr ⟨d, e, z⟩
        · exact .inl e
      · rw [List.getElem?_eq_none (by rw [List.length_set]; omega)] at e
        cases e
    · rw [List.getElem?_set_ne q] at e
      rcases List.mem_cons.mp h with z | z
      · exact absurd z.symm q
      · exact backS_in z e
theorem wipe_of {σ σ2 : L2.St} {vs : List Nat} (hl : σ2.length = σ.length) (h : ∀ i, i ∉ vs → σ2[i]? = (wipe σ vs)[i]?) : wipe σ2 vs = wipe σ vs := by
  apply List.ext_getElem?
  intro i
  by_cases m : i ∈ vs
  · by_cases l : i < σ.length
    · rw [wipe_in m l, wipe_in m (by rw [hl]; exact l)]
    · rw [List.getElem?_eq_none (by rw [wipe_length]; omega), List.getElem?_eq_none (by rw [wipe_length]; omega)]
  · rw [wipe_get m, h i m]
section
variable {K : PySem.W.Frag} {T : List (Addr × Str)} {Z : Addr → Prop} {F F' : Hp} {r r' : Sl} {σ σ' : L2.St} {H H' : Hp} {vs : List Nat}
theorem ownAt_wiped {j : Nat} {b : Addr} (o : OwnAt (wipeS r vs) (wipe σ vs) j b) : OwnAt r σ j b ∧ j ∉ vs := by
  obtain ⟨l, h1, h2⟩ := o
  have m : j ∉ vs := fun m => by
    rcases h1 with h1 | h1
    · cases wipeS_in m h1
    · cases wipeS_in m h1
  rw [wipeS_get m] at h1
  rw [wipe_get m] at h2
  exact ⟨⟨l, h1, h2⟩, m⟩
theorem StR.wiped (R : StR K T F r σ H) (vs : List Nat) : StR K T F (wipeS r vs) (wipe σ vs) H ∧ Stp Z F r σ H F (wipeS r vs) (wipe σ vs) H := by
  refine ⟨⟨R.sub, R.ntb, by rw [wipeS_len, wipe_length]; exact R.len, fun i sv e => ?_, fun i j b h1 h2 => R.apart i j b (ownAt_wiped h1).1 (ownAt_wiped h2).1, R.tabs⟩,
    ⟨fun _ _ z => z, fun _ z => .inl z, fun _ _ z _ _ _ => z, fun _ z => z, fun b ⟨j, o⟩ => .inl ⟨j, (ownAt_wiped o).1⟩, fun i l e => ?_⟩⟩
  · by_cases m : i ∈ vs
    · cases wipeS_in m e
      trivial
    · rw [wipeS_get m] at e
      rw [wipe_get m]
      exact R.slot i sv e
  · by_cases m : i ∈ vs
    · cases wipeS_in m e
    · rw [wipeS_get m] at e
      rw [wipe_get m]
      exact ⟨l, e, rfl⟩
theorem ownAt_back {r0 : Sl} {j : Nat} {b : Addr} (o : OwnAt (backS r0 r vs) σ j b) : OwnAt r (wipe σ vs) j b ∧ j ∉ vs := by
  obtain ⟨l, h1, h2⟩ := o
  have m : j ∉ vs := fun m => by
    rcases h1 with h1 | h1
    · rcases backS_in m h1 with z | ⟨d, z, _⟩ <;> cases z
    · rcases backS_in m h1 with z | ⟨d, z, _⟩ <;> cases z
  rw [backS_get m] at h1
  rw [← wipe_get m] at h2
  exact ⟨⟨l, h1, h2⟩, m⟩
/-- behind the block -/
theorem StR.unwiped {F0 : Hp} {H0 : Hp} {r0 : Sl} (R0 : StR K T F0 r0 σ H0) (R : StR K T F r (wipe σ vs) H) (s : Same F0 F) : StR K T F (backS r0 r vs) σ H ∧ Stp Z F r (wipe σ vs) H F (backS r0 r vs) σ H := by
  refine ⟨⟨R.sub, R.ntb, by rw [backS_len, R.len, wipe_length], fun i sv e => ?_, fun i j b h1 h2 => R.apart i j b (ownAt_back h1).1 (ownAt_back h2).1, R.tabs⟩,
    ⟨fun _ _ z => z, fun _ z => .inl z, fun _ _ z _ _ _ => z, fun _ z => z, fun b ⟨j, o⟩ => .inl ⟨j, (ownAt_back o).1⟩, fun i l e => ?_⟩⟩
  · by_cases m : i ∈ vs
    · rcases backS_in m e with rfl | ⟨d, rfl, q⟩
      · trivial
      · obtain ⟨v, e1, e2⟩ := R0.slot i _ q
        exact ⟨v, e1, rp_mono s _ _ e2⟩
    · rw [backS_get m] at e
      rw [← wipe_get m]
      exact R.slot i sv e
  · by_cases m : i ∈ vs
    · rcases backS_in m e with z | ⟨d, z, _⟩ <;> cases z
    · rw [backS_get m] at e
      rw [wipe_get m]
      exact ⟨l, e, rfl⟩
theorem relF {v : V} {l : List D} (h : RelW K F r σ H v (.f l)) (q : ¬ ∃ a, v = .ref a ∧ Z a) (s : Stp Z F r σ H F' r' σ' H') : RelW K F' r' σ' H' v (.f l) := by
  obtain ⟨a, vs, rfl, h1, h2, h3, h4⟩ := h
  refine ⟨a, vs, rfl, s.keep a _ h1 (fun ps e => by cases e) h3 (fun z => q ⟨a, rfl, z⟩), ?_, fun w => ?_, rpAll_mono s.ext _ _ h4⟩
  · cases e : F' a with
    | none => rfl
    | some o =>
      rcases s.new a (by rw [e]; simp) with z | z | z | z
      · exact absurd h2 z
      · exact (z.no h1).elim
      · exact absurd z h3
      · exact absurd ⟨a, rfl, z⟩ q
  · rcases s.own a w with z | z
    · exact h3 z
    · exact z.no h1
theorem relF0 {v : V} {l : List D} (h : RelW K F r σ H v (.f l)) (s : Stp NoZ F r σ H F' r' σ' H') : RelW K F' r' σ' H' v (.f l) := relF h (fun ⟨_, _, z⟩ => z) s
theorem resV_mono {w : W} {v : V} (s : Same F F') (h : ResV K F H w v H') : ResV K F' H w v H' := by
  cases h with
  | here h => exact .here (rp_mono s _ _ h)
  | tup h1 h2 => exact .tup h1 (rpAll_mono s _ _ h2)
  | lst h1 h2 => exact .lst h1 (rpAll_mono s _ _ h2)
end
section
variable {X : Cx} {G : Gx} {Wx : WX} {fs : List FI} {pos p : Pos}
/-! ### enumerate -/
theorem walk_deT {K : PySem.W.Frag} {F : Hp} {a : Addr} {vs : List V} {l : List D} (h1 : SqT K F a vs) (h2 : RpAll K F vs l) : WalkD K F (IteT K a) (enumD 0 l) := by
  refine ⟨fun H => SqT K H a vs, YPair (fun i => some (.int (i : Nat))) (fun i => vs[i]?), ?_, fun H s => sqT_mono s h1, fun i H v H' hi ⟨T, x, y, e1, e2, e3, e4, e5⟩ => ?_⟩
  · rw [enumD_len, ← RpAll.len h2]
    exact walk_enumT (xs := vs)
  · subst e1 e3
    cases e4
    obtain ⟨d, q1, q2⟩ := RpAll.get' h2 e5
    refine ⟨_, enumD_get l 0 i d q1, ?_⟩
    have e0 : (0 : Int) + (i : Nat) = (i : Nat) := by omega
    rw [e0]
    exact .tup e2 (.cons (.int _) (.cons q2 .nil))
theorem si_enum {e : Expr} {elts : List Expr} {kk : Nat} {tp : Pos} {c : CE} (hg : Gl X "enumerate") (hm : X.mg "enumerate" = none) (he : SE X G Wx e (evE fs c)) (hs : starEach [e] X.env = [(false, eval e X.env)]) :
    SI X G Wx (.Tuple elts kk tp) (.Call (.Name "enumerate" p) [e] [] pos) (evI fs (.enum c)) := by
  have z := si_either (g := enumD 0) (Jl := Ite X.K) (Jt := IteT X.K) (tg := .Tuple elts kk tp) (it := .Call (.Name "enumerate" p) [e] [] pos) he
    ⟨fun pins s σ H Rk I ⟨F, r, R, h⟩ => (pi_enum hg hm (pa_cons he pa_nil hs) hs).run pins s σ H Rk I ⟨F, r, R, h.mono fun w r' F' H' q v rv fv => let ⟨a, xs, e1, e2, e3⟩ := q v rv fv; ⟨a, xs, by rw [e1], e2, e3⟩⟩⟩
    ⟨fun pins s σ H Rk I ⟨F, r, R, h⟩ => (pi_enumT hg hm (pa_cons he pa_nil hs) hs).run pins s σ H Rk I ⟨F, r, R, h.mono fun w r' F' H' q v rv fv => let ⟨a, xs, e1, e2, e3⟩ := q v rv fv; ⟨a, xs, by rw [e1], e2, e3⟩⟩⟩
    (fun _ _ _ _ a b => walk_de a b) (fun _ _ _ _ a b => walk_deT a b)
  exact pi_imp z fun σ H Rk ⟨F, r, R, h⟩ => ⟨F, r, R, by simpa only [evI] using h⟩
/-! ### comprehensions -/
def tOfB (K : PySem.W.Frag) (G : Gx) (Wx : WX) (tc : Sl → R Bool) : TT := fun σ H Q => ∃ F r, StR K G.T F r σ H ∧ Post K G Wx (tc r) F r σ H fun b r' F' H' => Q b H'
def compR (own : List Nat) (ti : Sl → R (List D)) (set : D → Sl → Option Sl) (tc : Sl → R Bool) (te : Sl → R W) : Sl → R W := fun r => (ti r).bind fun xs r1 => if xs.length ≤ sizeLine then
    ((compL own set tc te xs [] (wipeS r1 own)).calm).bind fun acc r2 => .ok (.f acc) (backS r1 r2 own)
  else .bad
abbrev noW : WX := fun _ _ _ _ => False
theorem lc_imp {K : PySem.W.Frag} {ti : Sl → R (List D)} {set : D → Sl → Option Sl} {tc : Sl → R Bool} {te : Sl → R W} {sl own : List Nat} (hsl : ∀ i ∈ sl, i ∈ own) :
    ∀ σ H Q, tOf K G Wx (compR own ti set tc te) σ H Q → tLc (tOfI K G Wx ti) (tgOf K G sl set) (tOfB K G noW tc) (tOf K G noW te) own σ H Q := by
  rintro σ H Q ⟨F, r, R, h⟩
  unfold compR at h
  refine ⟨F, r, R, (Post.un Stp.refl h).mono fun xs r1 F1 H1 ⟨R1, S1, S1', h1⟩ J WD D hD => ?_⟩
  split at h1
  case isFalse => exact h1.elim
  rename_i hz
  cases hcomp : compL own set tc te xs [] (wipeS r1 own) with
  | bad => rw [hcomp] at h1; exact h1.elim
  | err c p r2 => rw [hcomp] at h1; exact h1.elim
  | ok acc r2 =>
    rw [hcomp] at h1
    have h1 : ∀ F' H', StR K G.T F' (backS r1 r2 own) σ H' → Stp NoZ F r σ H F' (backS r1 r2 own) σ H' → ∀ v, RelW K F' (backS r1 r2 own) σ H' v (.f acc) → FrS H v (.f acc) → Q v H' := h1
    obtain ⟨Gd, Y, w, hGd, hY⟩ := WD
    obtain ⟨Rw, Sw⟩ := R1.wiped (Z := NoZ) own
    have lw : (wipe σ own).length = σ.length := wipe_length ..
    refine lc_it w (fun i Hc => ∃ F2 rc accp, compL own set tc te (xs.drop i) accp rc = .ok acc r2 ∧ StR K G.T F2 rc (wipe σ own) Hc ∧ Stp NoZ F1 (wipeS r1 own) (wipe σ own) H1 F2 rc (wipe σ own) Hc ∧ RelW K F2 rc (wipe σ own) Hc (.ref D) (.f accp) ∧ accp.length ≤ i) ?_ ?_ ?_ ?_
    · obtain ⟨R2, S2, p2, _⟩ := Rw.newList hD (vs := []) (l := []) .nil
      exact ⟨F1, _, [], by simpa using hcomp, R2, S2, p2, Nat.le_refl _⟩
    · rintro i Hc hi ⟨F2, rc, accp, _, R2, S2, _, _⟩
      exact hGd Hc (S2.ext.trans R2.sub)
    · rintro i x Hc H' hi ⟨F2, rc, accp, e2, R2, S2, p2, l2⟩ hy
      obtain ⟨d, ed, rd⟩ := hY i Hc x H' hi hy
      obtain ⟨F3, R3, S3, p3, _⟩ := R2.res (resV_mono S2.ext rd)
      have hi' : i < xs.length := hi
      have ex : xs[i] = d := by
        rw [List.getElem?_eq_getElem hi'] at ed
        exact Option.some.inj ed
      rw [List.drop_eq_getElem_cons hi', ex] at e2
      rw [show compL own set tc te (d :: xs.drop (i + 1)) accp rc = match set d rc with
        | none => .bad
        | some r1 => (tc r1).bind fun b r2 => if b then (te r2).bind fun w r3 => match keepW r3 w with
            | some (y, r4) => compL own set tc te (xs.drop (i + 1)) (accp ++ [y]) (wipeS r4 own)
            | none => .bad
          else compL own set tc te (xs.drop (i + 1)) accp (wipeS r2 own) from rfl] at e2
      cases es : set d rc with
      | none => rw [es] at e2; cases e2
      | some r3 =>
        rw [es] at e2
        have e2 : ((tc r3).bind fun b r2 => if b then (te r2).bind fun w r3 => match keepW r3 w with
            | some (y, r4) => compL own set tc te (xs.drop (i + 1)) (accp ++ [y]) (wipeS r4 own)
            | none => .bad
          else compL own set tc te (xs.drop (i + 1)) accp (wipeS r2 own)) = .ok acc r2 := e2
        refine ⟨F3, rc, d, r3, R3, p3, es, fun σ2 R4 S4 hσ hl => ⟨wipe_of (hl.trans lw) fun j hj => hσ j fun m => hj (hsl j m), ?_⟩⟩
        have hw : wipe σ2 own = wipe σ own := wipe_of (hl.trans lw) fun j hj => hσ j fun m => hj (hsl j m)
        have p4 := relF0 (relF0 p2 S3) S4
        have S04 := (S2.trans0 S3).trans0 S4
        refine ⟨F3, r3, R4, ?_⟩
        cases et : tc r3 with
        | bad => rw [et] at e2; cases e2
        | err c p r4 => rw [et] at e2; cases e2
        | ok b r4 =>
          rw [et] at e2
          intro F5 H5 R5 S5
          have p5 := relF0 p4 S5
          have S05 := S04.trans0 S5
          have e2 : (if b then (te r4).bind fun w r3 => match keepW r3 w with
            | some (y, r4) => compL own set tc te (xs.drop (i + 1)) (accp ++ [y]) (wipeS r4 own)
            | none => .bad
          else compL own set tc te (xs.drop (i + 1)) accp (wipeS r4 own)) = .ok acc r2 := e2
          cases b with
          | false =>
            obtain ⟨R6, S6⟩ := R5.wiped (Z := NoZ) own
            have p6 := relF0 p5 S6
            rw [hw] at R6 S6 p6
            exact ⟨F5, _, accp, e2, R6, S05.trans0 S6, p6, by omega⟩
          | true =>
            have e2 : ((te r4).bind fun w r3 => match keepW r3 w with
              | some (y, r4) => compL own set tc te (xs.drop (i + 1)) (accp ++ [y]) (wipeS r4 own)
              | none => .bad) = .ok acc r2 := e2
            refine ⟨F5, r4, R5, ?_⟩
            cases ee : te r4 with
            | bad => rw [ee] at e2; cases e2
            | err c p r5 => rw [ee] at e2; cases e2
            | ok wv r5 =>
              rw [ee] at e2
              intro F6 H6 R6 S6 v rv fv
              have p6 := relF0 p5 S6
              have S06 := S05.trans0 S6
              have e2 : (match keepW r5 wv with
                | some (y, r4) => compL own set tc te (xs.drop (i + 1)) (accp ++ [y]) (wipeS r4 own)
                | none => .bad) = .ok acc r2 := e2
              split at e2
              case h_2 => cases e2
              rename_i y r6 ek
              obtain ⟨F7, R7, S7, p7⟩ := R6.kept rv ek
              have nD5 : ¬ Nt H5 D := fun z => by
                obtain ⟨a, us, ea, q1, _⟩ := p5
                cases ea
                exact z.no q1
              have p7' := relF p6 (fun hz => by
                obtain ⟨a, ea, za, l, zl⟩ := hz
                cases ea
                subst zl
                exact nD5 (fv D za)) S7
              obtain ⟨a, us, ea, q1, q2, q3, q4⟩ := p7'
              cases ea
              have S07 : Stp NoZ F1 (wipeS r1 own) (wipe σ own) H1 F7 r6 σ2 H6 := S06.trans S7 fun b hb => .inl (S05.grow b (fv.of b hb))
              have lu := RpAll.len q4
              refine ⟨us, q1, ?_, ?_⟩
              · have : accp.length < xs.length := by omega
                omega
              have R8 := R7.other (vs := us ++ [v]) q2 q1 q3
              have S8 : Stp (fun b => b = D) F7 r6 σ2 H6 F7 r6 σ2 (upd H6 D (.lst (us ++ [v]))) := step_other q1
              have S08 := S07.trans S8 fun b hb => .inl (by rw [hb]; exact Nt.of hD)
              have p8 : RelW K F7 r6 σ2 (upd H6 D (.lst (us ++ [v]))) (.ref D) (.f (accp ++ [y])) := ⟨D, _, rfl, upd_same, q2, q3, q4.app (.one p7)⟩
              obtain ⟨R9, S9⟩ := R8.wiped (Z := NoZ) own
              have p9 := relF0 p8 S9
              rw [hw] at R9 S9 p9
              exact ⟨F7, _, _, e2, R9, S08.trans0 S9, p9, by rw [List.length_append]; simp; omega⟩
    · rintro Hc ⟨F2, rc, accp, e2, R2, S2, p2, _⟩
      rw [List.drop_length] at e2
      cases e2
      obtain ⟨R3, S3⟩ := R1.unwiped (Z := NoZ) R2 S2.ext
      exact h1 F2 Hc R3 (((S1.trans0 Sw).trans0 S2).trans0 S3) _ (relF0 p2 S3) fun a ea => by
        cases ea
        exact S1.grow _ (Nt.of hD)
theorem se_lc {elt tg iter : Expr} {ifs : List Expr} {scope : Scope} {own : List (Str × Nat)} {ti : Sl → R (List D)} {set : D → Sl → Option Sl} {tc : Sl → R Bool} {te : Sl → R W} {sl : List Nat} (hc : X.calm = true) (hN : X.N.Nodup) (hi : SI X G Wx tg iter ti) (ok : BlkOk X.N X.env.scope scope own)
    (hsl : ∀ i ∈ sl, i ∈ own.map (·.2))
    (hg : ∀ (s : Shared) (H : Hp) (C : Addr) (cl : List (Str × Addr)) (fp : List Addr), PG (X.blk s H scope (compEnvC scope cl C X.env) fp) tg (tgOf X.K G sl set)) (ht : ∀ (s : Shared) (H : Hp) (C : Addr) (cl : List (Str × Addr)) (fp : List Addr), PTs (X.blk s H scope (compEnvC scope cl C X.env) fp) ifs (tOfB X.K G noW tc))
    (he : ∀ (s : Shared) (H : Hp) (C : Addr) (cl : List (Str × Addr)) (fp : List Addr), SE (X.blk s H scope (compEnvC scope cl C X.env) fp) G noW elt te) (hs : ∀ x, foldedSetIterable iter X.env x = pure x) :
    SE X G Wx (.ListComp elt [⟨tg, iter, ifs, 0⟩] scope pos) (compR (own.map (·.2)) ti set tc te) :=
  pe_imp (pe_lc hc hN hi ok hg ht he hs) (lc_imp hsl)
end
end SR
/-! The engine, part 9: statements. -/
namespace SR
open PySem PySem.Spec PyProof.Rows L2 RZ
/-- a list to be given out: new, or an own one -/
def FrR (H : Hp) (r : Sl) (σ : L2.St) (u : V) (w : W) : Prop := ∀ l, w = .f l → ∀ a, u = .ref a → Nt H a ∨ Owned r σ a
/-- behind a statement -/
def PostS (K : PySem.W.Frag) (G : Gx) (Wx : WX) (x : SR) (F : Hp) (r : Sl) (σ : L2.St) (H : Hp) (E : Ends) : Prop := match x with
  | .nx r' => ∀ F' σ' H', StR K G.T F' r' σ' H' → Stp NoZ F r σ H F' r' σ' H' → E.nx σ' H'
  | .bk r' => ∀ F' σ' H', StR K G.T F' r' σ' H' → Stp NoZ F r σ H F' r' σ' H' → E.bk σ' H'
  | .ct r' => ∀ F' σ' H', StR K G.T F' r' σ' H' → Stp NoZ F r σ H F' r' σ' H' → E.ct σ' H'
  | .rt v r' => ∀ u F' σ' H', StR K G.T F' r' σ' H' → Stp NoZ F r σ H F' r' σ' H' → RelW K F' r' σ' H' u (retW v) → FrR H r σ u (retW v) → E.rt u H'
  | .err c p r' => ∀ F' σ' H' cls d, StR K G.T F' r' σ' H' → Stp NoZ F r σ H F' r' σ' H' → Exc K G c p F' cls d H' → Wx cls (some d) σ' H'
  | .bad => False
def tsOf (K : PySem.W.Frag) (G : Gx) (Wx : WX) (ts : Sl → SR) : TS := fun E σ H => ∃ F r, StR K G.T F r σ H ∧ PostS K G Wx (ts r) F r σ H E
abbrev SS (X : Cx) (G : Gx) (Wx : WX) (st : Stmt) (ts : Sl → SR) : Prop := PS X st (tsOf X.K G Wx ts)
abbrev SSs (X : Cx) (G : Gx) (Wx : WX) (st : List Stmt) (ts : Sl → SR) : Prop := PSs X st (tsOf X.K G Wx ts)
theorem ps_imp {X : Cx} {e : Stmt} {t t' : TS} (h : PS X e t) (i : ∀ E σ H, t' E σ H → t E σ H) : PS X e t' := ⟨fun pins s σ H E I q => h.run pins s σ H E I (i E σ H q)⟩
theorem pss_imp {X : Cx} {e : List Stmt} {t t' : TS} (h : PSs X e t) (i : ∀ E σ H, t' E σ H → t E σ H) : PSs X e t' := ⟨fun pins s σ H E I q => h.run pins s σ H E I (i E σ H q)⟩
section
variable {K : PySem.W.Frag} {G : Gx} {Wx : WX} {F F1 F2 F' : Hp} {r r0 r1 r2 r' : Sl} {σ σ0 σ1 σ' : L2.St} {H H0 H1 H2 H' : Hp} {E : Ends} {T : List (Addr × Str)}
theorem FrR.back {u : V} {w : W} (h : FrR H' r' σ' u w) (S : Stp NoZ F r σ H F' r' σ' H') : FrR H r σ u w := fun l e a ea => by
  rcases h l e a ea with z | z
  · exact .inl (S.grow a z)
  · exact (S.own a z).symm
theorem PostS.base {x : SR} (S : Stp NoZ F r σ H F1 r1 σ1 H1) (h : PostS K G Wx x F r σ H E) : PostS K G Wx x F1 r1 σ1 H1 E := by
  cases x with
  | nx r' => exact fun F' σ' H' R' S' => h F' σ' H' R' (S.trans0 S')
  | bk r' => exact fun F' σ' H' R' S' => h F' σ' H' R' (S.trans0 S')
  | ct r' => exact fun F' σ' H' R' S' => h F' σ' H' R' (S.trans0 S')
  | rt v r' => exact fun u F' σ' H' R' S' rv fv => h u F' σ' H' R' (S.trans0 S') rv (fv.back S)
  | err c p r' => exact fun F' σ' H' cls d R' S' e => h F' σ' H' cls d R' (S.trans0 S') e
  | bad => exact h
/-- an expression, then a statement -/
theorem PostS.un {α : Type} {x : R α} {f : α → Sl → SR} (S : Stp NoZ F r σ H F1 r1 σ H1) (h : PostS K G Wx (x.sr f) F r σ H E) :
    Post K G Wx x F1 r1 σ H1 fun a r2 F2 H2 => StR K G.T F2 r2 σ H2 ∧ Stp NoZ F1 r1 σ H1 F2 r2 σ H2 ∧ Stp NoZ F r σ H F2 r2 σ H2 ∧ PostS K G Wx (f a r2) F r σ H E := by
  cases x with
  | ok a r2 => exact fun F2 H2 R2 S2 => ⟨R2, S2, S.trans0 S2, h⟩
  | err c p r2 => exact fun F' H' cls d R' S' E' => h F' σ H' cls d R' (S.trans0 S') E'
  | bad => exact h
/-- a slot is set -/
theorem StR.setSlot {i : Nat} {v : V} {sv : SV} (R : StR K T F r σ H) (hi : i < r.length) (hs : SlotR K F H (some (some v)) sv) (hn : ∀ l, sv ≠ .lent l) (hap : ∀ l b, sv = .own l → v = .ref b → ∀ j, OwnAt r σ j b → j = i) :
    StR K T F (r.set i sv) (σ.set i (some v)) H ∧ (∀ b, Owned (r.set i sv) (σ.set i (some v)) b → Owned r σ b ∨ (v = .ref b ∧ ∃ l, sv = .own l)) ∧
    (∀ (j : Nat) (l' : List D), (r.set i sv)[j]? = some (SV.lent l') → ∃ l, r[j]? = some (SV.lent l) ∧ (σ.set i (some v))[j]? = σ[j]?) := by
  have hs' : i < σ.length := by rw [← R.len]; exact hi
  have oa : ∀ j b, OwnAt (r.set i sv) (σ.set i (some v)) j b → (j ≠ i ∧ OwnAt r σ j b) ∨ (j = i ∧ v = .ref b ∧ ∃ l, sv = .own l) := fun j b ⟨l, h1, h2⟩ => by
    by_cases hj : j = i
    · subst hj
      rw [List.getElem?_set_self hi] at h1
      rw [List.getElem?_set_self hs'] at h2
      refine .inr ⟨rfl, by simpa using h2, ?_⟩
      rcases h1 with h1 | h1
      · exact ⟨l, by simpa using h1⟩
      · exact absurd (by simpa using h1) (hn l)
    · rw [List.getElem?_set_ne (Ne.symm hj)] at h1 h2
      exact .inl ⟨hj, l, h1, h2⟩
  refine ⟨⟨R.sub, R.ntb, by rw [List.length_set, List.length_set]; exact R.len, fun j tv e => ?_, fun j k b h1 h2 => ?_, R.tabs⟩, fun b ⟨j, o⟩ => ?_, fun j l e => ?_⟩
  · by_cases hj : j = i
    · subst hj
      rw [List.getElem?_set_self hi] at e
      rw [List.getElem?_set_self hs']
      cases e
      exact hs
    · rw [List.getElem?_set_ne (Ne.symm hj)] at e ⊢
      exact R.slot j tv e
  · rcases oa j b h1 with ⟨n1, o1⟩ | ⟨e1, e2, l, e3⟩
    · rcases oa k b h2 with ⟨n2, o2⟩ | ⟨e4, e5, l, e6⟩
      · exact R.apart j k b o1 o2
      · exact absurd (hap l b e6 e5 j o1) n1
    · rcases oa k b h2 with ⟨n2, o2⟩ | ⟨e4, e5, l, e6⟩
      · exact absurd (hap l b e3 e2 k o2) n2
      · rw [e1, e4]
  · rcases oa j b o with ⟨_, o⟩ | ⟨_, e1, e2⟩
    · exact .inl ⟨j, o⟩
    · exact .inr ⟨e1, e2⟩
  · by_cases hj : j = i
    · subst hj
      rw [List.getElem?_set_self hi] at e
      exact absurd (by simpa using e) (hn l)
    · rw [List.getElem?_set_ne (Ne.symm hj)] at e ⊢
      exact ⟨l, e, rfl⟩
/-- a slot forgotten -/
theorem StR.forget {j : Nat} (R : StR K T F r σ H) : StR K T F (r.set j .no) σ H ∧ (∀ k b, OwnAt (r.set j .no) σ k b → k ≠ j ∧ OwnAt r σ k b) ∧ (∀ (k : Nat) (l' : List D), (r.set j .no)[k]? = some (SV.lent l') → r[k]? = some (SV.lent l')) := by
  have at_ : ∀ (k : Nat) sv, (r.set j .no)[k]? = some sv → (k = j ∧ sv = .no) ∨ (k ≠ j ∧ r[k]? = some sv) := fun k sv e => by
    by_cases hk : k = j
    · subst hk
      by_cases hl : k < r.length
      · rw [List.getElem?_set_self hl] at e
        exact .inl ⟨rfl, (Option.some.inj e).symm⟩
      · rw [List.getElem?_eq_none (by rw [List.length_set]; omega)] at e
        cases e
    · rw [List.getElem?_set_ne (Ne.symm hk)] at e
      exact .inr ⟨hk, e⟩
  have oa : ∀ k b, OwnAt (r.set j .no) σ k b → k ≠ j ∧ OwnAt r σ k b := fun k b ⟨l, h1, h2⟩ => by
    rcases h1 with h1 | h1
    · rcases at_ k _ h1 with ⟨_, z⟩ | ⟨n, z⟩
      · cases z
      · exact ⟨n, l, .inl z, h2⟩
    · rcases at_ k _ h1 with ⟨_, z⟩ | ⟨n, z⟩
      · cases z
      · exact ⟨n, l, .inr z, h2⟩
  refine ⟨⟨R.sub, R.ntb, by rw [List.length_set]; exact R.len, fun k sv e => ?_, fun k m b h1 h2 => R.apart k m b (oa k b h1).2 (oa m b h2).2, R.tabs⟩, oa, fun k l e => ?_⟩
  · rcases at_ k _ e with ⟨_, rfl⟩ | ⟨n, z⟩
    · trivial
    · exact R.slot k sv z
  · rcases at_ k _ e with ⟨_, z⟩ | ⟨n, z⟩
    · cases z
    · exact z
/-- name = a value -/
theorem StR.setW {i : Nat} {own : Bool} {v : V} {w : W} (S : Stp NoZ F r σ H F1 r1 σ1 H1) (R : StR K T F1 r1 σ1 H1) (rv : RelW K F1 r1 σ1 H1 v w) (fv : FrS H v w) (e : setW r1 i own w = some r2) :
    ∃ F', StR K T F' r2 (σ1.set i (some v)) H1 ∧ Stp NoZ F r σ H F' r2 (σ1.set i (some v)) H1 ∧ Same F1 F' ∧ (∀ b us, H1 b = some (.lst us) → F1 b = none → ¬ Owned r1 σ1 b → F' b = none ∨ (v = .ref b ∧ ∀ x, w ≠ .d x)) ∧ (∀ b, Owned r2 (σ1.set i (some v)) b → Owned r1 σ1 b ∨ Nt H1 b ∨ (v = .ref b ∧ ∀ x, w ≠ .d x)) := by
  unfold SR.setW at e
  split at e
  case h_1 => cases e
  case h_2 => cases e
  case h_3 => cases e
  rename_i sv nl ns ei
  have hi : i < r1.length := (List.getElem?_eq_some_iff.mp ei).1
  split at e
  · rename_i l
    cases e
    obtain ⟨a, vs, rfl, h1, h2, h3, h4⟩ := rv
    obtain ⟨R2, o2, l2⟩ := R.setSlot (sv := .own l) (v := .ref a) hi ⟨a, vs, rfl, h2, h1, h4⟩ (fun l z => by cases z) fun l b _ z j o => by
      cases z
      exact absurd ⟨j, o⟩ h3
    refine ⟨F1, R2, ⟨S.ext, S.new, S.keep, S.grow, fun b o => ?_, fun j l e => ?_⟩, fun _ _ z => z, fun _ _ _ z _ => .inl z, fun b o => ?_⟩
    · rcases o2 b o with z | ⟨z, _⟩
      · exact S.own b z
      · cases z
        exact .inr (fv _ rfl)
    · obtain ⟨l', e1, e2⟩ := l2 j l e
      obtain ⟨l'', e3, e4⟩ := S.lent j l' e1
      exact ⟨l'', e3, e2.trans e4⟩
    · rcases o2 b o with z | ⟨z, _⟩
      · exact .inl z
      · exact .inr (.inr ⟨z, fun x q => by cases q⟩)
  · rename_i j
    have rv : σ1[j]? = some (some v) := rv
    split at e
    · rename_i l q
      cases e
      obtain ⟨a, vs, e1, e2, e3, e4⟩ := R.slot j _ q
      rw [rv] at e1
      cases e1
      obtain ⟨R2, o2, l2⟩ := R.forget (j := j)
      have hi2 : i < (r1.set j .no).length := by rw [List.length_set]; exact hi
      obtain ⟨R3, o3, l3⟩ := R2.setSlot (sv := .own l) (v := .ref a) hi2 ⟨a, vs, rfl, e2, e3, e4⟩ (fun l z => by cases z) fun l' b _ z k o => by
        cases z
        obtain ⟨n, o⟩ := o2 k _ o
        exact absurd (R.apart k j _ o ⟨l, .inl q, rv⟩) n
      have oo : ∀ b, Owned ((r1.set j .no).set i (.own l)) (σ1.set i (some (.ref a))) b → Owned r1 σ1 b := fun b o => by
        rcases o3 b o with ⟨k, z⟩ | ⟨z, _⟩
        · exact ⟨k, (o2 k b z).2⟩
        · cases z
          exact ⟨j, l, .inl q, rv⟩
      refine ⟨F1, R3, ⟨S.ext, S.new, S.keep, S.grow, fun b o => S.own b (oo b o), fun k l e => ?_⟩, fun _ _ z => z, fun _ _ _ z _ => .inl z, fun b o => .inl (oo b o)⟩
      obtain ⟨l', f1, f2⟩ := l3 k l e
      obtain ⟨l'', f3, f4⟩ := S.lent k l' (l2 k l' f1)
      exact ⟨l'', f3, f2.trans f4⟩
    · cases e
  · cases e
  · rename_i w
    split at e
    · rename_i x r3 ek
      cases e
      obtain ⟨F2, R2, S2, p2⟩ := R.kept rv ek
      have hi2 : i < r3.length := by rw [R2.len, ← R.len]; exact hi
      obtain ⟨R3, o3, l3⟩ := R2.setSlot (sv := .val x) (v := v) hi2 ⟨v, rfl, p2⟩ (fun l z => by cases z) fun l' b z => by cases z
      have S02 : Stp NoZ F r σ H F2 r3 σ1 H1 := S.trans S2 fun b hb => .inl (fv.of b hb)
      have o4 : ∀ b, Owned (r3.set i (.val x)) (σ1.set i (some v)) b → Owned r3 σ1 b := fun b o => by
        rcases o3 b o with z | ⟨_, l, z⟩
        · exact z
        · cases z
      refine ⟨F2, R3, ⟨S02.ext, S02.new, S02.keep, S02.grow, fun b o => S02.own b (o4 b o), fun k l e => ?_⟩, S2.ext, fun b us hb hF nO => ?_, fun b o => ?_⟩
      · obtain ⟨l', f1, f2⟩ := l3 k l e
        obtain ⟨l'', f3, f4⟩ := S02.lent k l' f1
        exact ⟨l'', f3, f2.trans f4⟩
      · cases hq : F2 b with
        | none => exact .inl rfl
        | some o =>
          rcases S2.new b (by rw [hq]; simp) with z | z | z | ⟨z, l, q⟩
          · exact absurd hF z
          · exact (z.no hb).elim
          · exact absurd z nO
          · exact .inr ⟨z, fun x q2 => by rw [q] at q2; cases q2⟩
      · rcases S2.own b (o4 b o) with z | z
        · exact .inl z
        · exact .inr (.inl z)
    · cases e
theorem set_end {i : Nat} {own : Bool} {v : V} {w : W} (S : Stp NoZ F r σ H F1 r1 σ1 H1) (R : StR K G.T F1 r1 σ1 H1) (rv : RelW K F1 r1 σ1 H1 v w) (fv : FrS H v w) (h : PostS K G Wx (okS (setW r1 i own w)) F r σ H E) : E.nx (σ1.set i (some v)) H1 := by
  cases e : SR.setW r1 i own w with
  | none => rw [e] at h; exact h.elim
  | some r2 =>
    rw [e] at h
    obtain ⟨F', R', S', _⟩ := StR.setW S R rv fv e
    exact h F' _ H1 R' S'
/-- an own or lent list at a slot -/
theorem StR.ownSlot {i : Nat} (R : StR K T F r σ H) (h : ownS r i = true) : ∃ b vs l, OwnAt r σ i b ∧ σ[i]? = some (some (.ref b)) ∧ H b = some (.lst vs) ∧ RpAll K F vs l ∧ (r[i]? = some (.own l) ∨ r[i]? = some (.lent l)) := by
  unfold ownS at h
  split at h
  · rename_i l q
    obtain ⟨a, vs, e1, e2, e3, e4⟩ := R.slot i _ q
    exact ⟨a, vs, l, ⟨l, .inl q, e1⟩, e1, e3, e4, .inl q⟩
  · rename_i l q
    obtain ⟨a, vs, e1, e2, e3, e4⟩ := R.slot i _ q
    exact ⟨a, vs, l, ⟨l, .inr q, e1⟩, e1, e3, e4, .inr q⟩
  · cases h
theorem app_end {i : Nat} {g : List D → Option (List D)} {b : Addr} (S : Stp NoZ F r σ H F1 r1 σ1 H1) (R : StR K G.T F1 r1 σ1 H1) (hb : σ1[i]? = some (some (.ref b))) (h : PostS K G Wx (okS (appL r1 i g)) F r σ H E) :
    ∃ l vs, H1 b = some (.lst vs) ∧ RpAll K F1 vs l ∧ ∃ m, g l = some m ∧ ∀ us, RpAll K F1 us m → E.nx σ1 (upd H1 b (.lst us)) := by
  unfold appL at h
  split at h
  · rename_i l q
    obtain ⟨a, vs, e1, e2, e3, e4⟩ := R.slot i _ q
    rw [hb] at e1
    cases e1
    cases eg : g l with
    | none => rw [eg] at h; exact h.elim
    | some m =>
      rw [eg] at h
      refine ⟨l, vs, e3, e4, m, eg, fun us hu => ?_⟩
      obtain ⟨R2, S2⟩ := R.wrote (sv := .own m) ⟨l, .inl q, hb⟩ (.inl ⟨l, q, rfl⟩) hu
      exact h F1 _ _ R2 (S.trans0 S2)
  · rename_i l q
    obtain ⟨a, vs, e1, e2, e3, e4⟩ := R.slot i _ q
    rw [hb] at e1
    cases e1
    cases eg : g l with
    | none => rw [eg] at h; exact h.elim
    | some m =>
      rw [eg] at h
      refine ⟨l, vs, e3, e4, m, eg, fun us hu => ?_⟩
      obtain ⟨R2, S2⟩ := R.wrote (sv := .lent m) ⟨l, .inr q, hb⟩ (.inr ⟨l, q, rfl⟩) hu
      exact h F1 _ _ R2 (S.trans0 S2)
  · exact h.elim
end
section
variable {X : Cx} {G : Gx} {Wx : WX} {fs : List FI} {pos p p2 p3 : Pos}
theorem ss_set {i : Nat} {x : Str} {e : Expr} {te : Sl → R W} {own : Bool} (hN : X.N.Nodup) (hi : X.N[i]? = some x) (hx : Loc X.env.scope x) (hf : X.fn x = true ∨ X.env.scope.names.lookup x = some .local) (he : SE X G Wx e te) (hs : swapsWith e (some (.Name x p)) pos.line X.env = pure false) :
    SS X G Wx (.Assign [.Name x p] e pos) (fun r => (te r).sr fun w r1 => okS (setW r1 i own w)) := by
  refine ps_imp (ps_set hN hi hx he hs hf) ?_
  rintro E σ H ⟨F, r, R, h⟩
  exact ⟨F, r, R, (PostS.un Stp.refl h).mono fun w r1 F1 H1 ⟨R1, S1, S1', h1⟩ v rv fv => set_end S1 R1 rv fv h1⟩
theorem ss_setLc {i : Nat} {y : Str} {elt tg iter : Expr} {ifs : List Expr} {scope : Scope} {own : List (Str × Nat)} {ti : Sl → R (List D)} {set : D → Sl → Option Sl} {tc : Sl → R Bool} {te : Sl → R W} {sl : List Nat} {ow : Bool} (hc : X.calm = true) (hN : X.N.Nodup) (hy : X.N[i]? = some y) (hyl : X.env.scope.names.lookup y = some .local)
    (hsw : swapsWith (.ListComp elt [⟨tg, iter, ifs, 0⟩] scope p) (some (.Name y p2)) pos.line X.env = pure true) (hi : SI X G Wx tg iter ti) (ok : BlkOk X.N X.env.scope scope own)
    (hsl : ∀ i ∈ sl, i ∈ own.map (·.2))
    (hg : ∀ (s : Shared) (H : Hp) (C : Addr) (cl : List (Str × Addr)) (fp : List Addr), PG (X.blk s H scope (compEnvC scope cl C X.env) fp) tg (tgOf X.K G sl set)) (ht : ∀ (s : Shared) (H : Hp) (C : Addr) (cl : List (Str × Addr)) (fp : List Addr), PTs (X.blk s H scope (compEnvC scope cl C X.env) fp) ifs (tOfB X.K G noW tc))
    (he : ∀ (s : Shared) (H : Hp) (C : Addr) (cl : List (Str × Addr)) (fp : List Addr), SE (X.blk s H scope (compEnvC scope cl C X.env) fp) G noW elt te) (hs : ∀ x, foldedSetIterable iter X.env x = pure x) :
    SS X G Wx (.Assign [.Name y p2] (.ListComp elt [⟨tg, iter, ifs, 0⟩] scope p) pos) (fun r => (compR (own.map (·.2)) ti set tc te r).sr fun w r1 => okS (setW r1 i ow w)) := by
  refine ps_imp (ps_setLc (te := tOf X.K G noW te) hc hN hy hyl hsw hi ok hg ht he hs) ?_
  rintro E σ H ⟨F, r, R, h⟩
  exact lc_imp (Wx := Wx) hsl σ H _ ⟨F, r, R, (PostS.un Stp.refl h).mono fun w r1 F1 H1 ⟨R1, S1, S1', h1⟩ v rv fv => set_end S1 R1 rv fv h1⟩
theorem ss_asg {tg e : Expr} {te : Sl → R W} {sl : List Nat} {set : D → Sl → Option Sl} (he : SE X G Wx e te) (hg : PG X tg (tgOf X.K G sl set)) (hs : swapsWithSole [tg] e pos.line X.env = pure false) (hw : swappedStores [tg] e X.env = pure none)
    (h1 : (assignEach [tg] X.env).map (·.2) = [assign tg X.env]) : SS X G Wx (.Assign [tg] e pos) (fun r => (te r).sr fun w r1 => match w with | .d x => okS (set x r1) | _ => .bad) := by
  refine ps_imp (ps_asg he hg hs hw h1) ?_
  rintro E σ H ⟨F, r, R, h⟩
  refine ⟨F, r, R, (PostS.un Stp.refl h).mono fun w r1 F1 H1 ⟨R1, S1, S1', h1⟩ v rv fv => ?_⟩
  cases w with
  | d x =>
    have h1 : PostS X.K G Wx (okS (set x r1)) F r σ H E := h1
    cases e2 : set x r1 with
    | none => rw [e2] at h1; exact h1.elim
    | some r2 =>
      rw [e2] at h1
      exact ⟨F1, r1, x, r2, R1, rv, e2, fun σ2 R2 S2 _ _ => h1 F1 σ2 H1 R2 (S1.trans0 S2)⟩
  | _ => exact h1.elim
theorem ss_par2 {i j : Nat} {x y : Str} {a b : Expr} {ta tb : Sl → R W} {oi oj : Bool} {kt k2 : Nat} {pt pt2 : Pos} (hc : X.calm = true) (hN : X.N.Nodup) (hi : X.N[i]? = some x) (hj : X.N[j]? = some y) (hij : i ≠ j)
    (hx : X.env.scope.names.lookup x = some .local) (hy : X.env.scope.names.lookup y = some .local) (ha : SE X G Wx a ta) (hb : SE X G Wx b tb) (h1 : starEach [a, b] X.env = (false, eval a X.env) :: starEach [b] X.env) (h2 : starEach [b] X.env = (false, eval b X.env) :: starEach [] X.env)
    (hw : swappedStores [.Tuple [.Name x p, .Name y p2] kt pt] (.Tuple [a, b] k2 pt2) X.env = pure (some [x, y])) :
    SS X G Wx (.Assign [.Tuple [.Name x p, .Name y p2] kt pt] (.Tuple [a, b] k2 pt2) pos) (fun r => (ta r).sr fun wa r1 => (tb r1).sr fun wb r2 => if nos wa && nos wb then match setW r2 i oi wa with
      | some r3 => okS (setW r3 j oj wb)
      | none => .bad
      else .bad) := by
  refine ps_imp (ps_par hc hN hi hj hij hx hy (pa_cons ha (pa_cons hb pa_nil h2) h1) hw) ?_
  rintro E σ H ⟨F, r, R, h⟩
  refine ⟨F, r, R, (PostS.un Stp.refl h).mono fun wa r1 F1 H1 ⟨R1, S1, S1', h1⟩ va ra fa => ⟨F1, r1, R1, (PostS.un S1 h1).mono fun wb r2 F2 H2 ⟨R2, S2, S02, h2⟩ vb rb fb => ⟨va, vb, rfl, ?_⟩⟩⟩
  split at h2
  case isFalse => exact h2.elim
  rename_i hn
  simp only [Bool.and_eq_true] at hn
  cases e : SR.setW r2 i oi wa with
  | none => rw [e] at h2; exact h2.elim
  | some r3 =>
    rw [e] at h2
    obtain ⟨F3, R3, S3, x3, n3, o3⟩ := StR.setW S02 R2 (ra.step0 S2) fa e
    refine set_end S3 R3 ?_ (fb.back S1) h2
    cases wb with
    | s j => cases hn.2
    | d z => exact rp_mono x3 _ _ rb
    | f l =>
      obtain ⟨a2, vs2, rfl, q1, q2, q3, q4⟩ := rb
      have nv : ¬ (va = .ref a2 ∧ ∀ x, wa ≠ .d x) := fun ⟨ev, nd⟩ => by
        subst ev
        cases wa with
        | s j => cases hn.1
        | d z => exact nd z rfl
        | f l' =>
          obtain ⟨a1, vs1, e1, g1, g2, g3, g4⟩ := ra
          cases e1
          exact (fb a2 rfl).no g1
      refine ⟨a2, vs2, rfl, q1, ?_, fun o => ?_, rpAll_mono x3 _ _ q4⟩
      · rcases n3 a2 vs2 q1 q2 q3 with z | z
        · exact z
        · exact absurd z nv
      · rcases o3 a2 o with z | z | z
        · exact q3 z
        · exact z.no q1
        · exact nv z
theorem ss_par3 {i j k : Nat} {x y z : Str} {a b c : Expr} {te : Sl → R (List W)} {kt k2 : Nat} {pt pt2 : Pos} (hc : X.calm = true) (hN : X.N.Nodup) (hi : X.N[i]? = some x) (hj : X.N[j]? = some y) (hk : X.N[k]? = some z) (hij : i ≠ j) (hik : i ≠ k) (hjk : j ≠ k)
    (hx : X.env.scope.names.lookup x = some .local) (hy : X.env.scope.names.lookup y = some .local) (hz : X.env.scope.names.lookup z = some .local) (ha : SA X G Wx [a, b, c] te)
    (hw : swappedStores [.Tuple [.Name x p, .Name y p2, .Name z p3] kt pt] (.Tuple [a, b, c] k2 pt2) X.env = pure (some [x, y, z])) :
    SS X G Wx (.Assign [.Tuple [.Name x p, .Name y p2, .Name z p3] kt pt] (.Tuple [a, b, c] k2 pt2) pos) (fun r => (te r).sr fun ws r1 => match ws with
    | [.d x, .d y, .d z] => (match setW r1 i false (.d x) with
      | some r2 => (match setW r2 j false (.d y) with
        | some r3 => okS (setW r3 k false (.d z))
        | none => .bad)
      | none => .bad)
    | _ => .bad) := by
  refine ps_imp (ps_par3 hc hN hi hj hk hij hik hjk hx hy hz ha hw) ?_
  rintro E σ H ⟨F, r, R, h⟩
  refine ⟨F, r, R, (PostS.un Stp.refl h).mono fun ws r1 F1 H1 ⟨R1, S1, S1', h1⟩ vs rs fs ol => ?_⟩
  split at h1
  · cases rs with
    | cons a1 rs =>
      cases rs with
      | cons a2 rs =>
        cases rs with
        | cons a3 rs =>
          cases rs
          refine ⟨_, _, _, rfl, ?_⟩
          split at h1
          · rename_i r2 e2
            obtain ⟨F2, R2, S2, x2, _⟩ := StR.setW S1 R1 a1 trivial e2
            split at h1
            · rename_i r3 e3
              obtain ⟨F3, R3, S3, x3, _⟩ := StR.setW S2 R2 (w := .d _) (rp_mono x2 _ _ a2) trivial e3
              exact set_end S3 R3 (w := .d _) (rp_mono (x2.trans x3) _ _ a3) trivial h1
            · exact h1.elim
          · exact h1.elim
  · exact h1.elim
/-- xs.append(e) -/
theorem ss_app {i : Nat} {x : Str} {e : Expr} {te : Sl → R W} {ap cp : Pos} (hN : X.N[i]? = some x) (hv : Vis X.env.scope x) (hd : (x == ("__debug__" : Str)) = false) (hcd : (x == ("__classdict__" : Str)) = false) (he : SE X G Wx e te) (h1 : starEach [e] X.env = (false, eval e X.env) :: starEach [] X.env)
    (hline : (ap.endLine == cp.line) = true) : SS X G Wx (.Expr (.Call (.Attribute (.Name x p) "append" ap) [e] [] cp) pos) (fun r => if ownS r i then (te r).sr fun w r1 => match keepW r1 w with
    | some (x, r2) => okS (appL r2 i fun l => if l.length < sizeLine then some (l ++ [x]) else none)
    | none => .bad
    else .bad) := by
  refine ps_imp (ps_expr (pe_bm PySem.F.plainAttrs_list PySem.F.slot_list_append PySem.F.type_list_append mt_append (pe_var hN hv hd hcd) (pa_cons he pa_nil h1) rfl (by rw [h1] <;> rfl) hline h1 rfl) rfl) ?_
  rintro E σ H ⟨F, r, R, h⟩
  dsimp only at h
  split at h
  case isFalse => exact h.elim
  rename_i ho
  obtain ⟨b, vs, l, oa, hs, hH, hl, _⟩ := R.ownSlot ho
  refine ⟨.ref b, hs, .inl ⟨rfl, vs, .inl (.inl hH)⟩, F, r, R, (PostS.un Stp.refl h).mono fun w r1 F1 H1 ⟨R1, S1, S1', h1⟩ v rv fv => ?_⟩
  split at h1
  · rename_i y r2 ek
    obtain ⟨F2, R2, S02, p2⟩ := R1.kept' S1 rv fv ek
    obtain ⟨l', vs', q1, q2, m, q3, q4⟩ := app_end S02 R2 hs h1
    have q3 : (if l'.length < sizeLine then some (l' ++ [y]) else none) = some m := q3
    split at q3
    · rename_i hz
      cases q3
      exact ⟨b, vs', v, rfl, rfl, q1, by rw [RpAll.len q2]; exact hz, q4 _ (q2.app (.one p2))⟩
    · cases q3
  · exact h1.elim
/-- xs.extend(e) -/
theorem ss_ext {i : Nat} {x : Str} {e : Expr} {te : Sl → R W} {ap cp : Pos} (hN : X.N[i]? = some x) (hv : Vis X.env.scope x) (hd : (x == ("__debug__" : Str)) = false) (hcd : (x == ("__classdict__" : Str)) = false) (he : SE X G Wx e te) (h1 : starEach [e] X.env = (false, eval e X.env) :: starEach [] X.env)
    (hline : (ap.endLine == cp.line) = true) : SS X G Wx (.Expr (.Call (.Attribute (.Name x p) "extend" ap) [e] [] cp) pos) (fun r => if ownS r i then (te r).sr fun w r1 => match fixX r1 w with
    | some (.list m) => okS (appL r1 i fun l => if l.length + m.length ≤ sizeLine then some (l ++ m) else none)
    | _ => .bad
    else .bad) := by
  refine ps_imp (ps_expr (pe_bm PySem.F.plainAttrs_list PySem.F.slot_list_extend PySem.F.type_list_extend mt_extend (pe_var hN hv hd hcd) (pa_cons he pa_nil h1) rfl (by rw [h1] <;> rfl) hline h1 rfl) rfl) ?_
  rintro E σ H ⟨F, r, R, h⟩
  dsimp only at h
  split at h
  case isFalse => exact h.elim
  rename_i ho
  obtain ⟨b, vs, l, oa, hs, hH, hl, _⟩ := R.ownSlot ho
  refine ⟨.ref b, hs, .inl ⟨rfl, vs, .inl (.inl hH)⟩, F, r, R, (PostS.un Stp.refl h).mono fun w r1 F1 H1 ⟨R1, S1, S1', h1⟩ v rv fv => ?_⟩
  split at h1
  · rename_i m ek
    obtain ⟨c, us, rfl, q5, q6⟩ := (R1.fixx rv ek).list
    obtain ⟨l', vs', q1, q2, m', q3, q4⟩ := app_end S1 R1 hs h1
    have q3 : (if l'.length + m.length ≤ sizeLine then some (l' ++ m) else none) = some m' := q3
    split at q3
    · rename_i hz
      cases q3
      exact ⟨b, c, vs', us, rfl, rfl, q1, q5, by rw [RpAll.len q2, RpAll.len q6]; exact hz, q4 _ (q2.app q6)⟩
    · cases q3
  · exact h1.elim
/-- xs[k] = e -/
theorem ss_put {i : Nat} {x : Str} {e k : Expr} {te tk : Sl → R W} {sp : Pos} (hN : X.N[i]? = some x) (hv : Vis X.env.scope x) (hd : (x == ("__debug__" : Str)) = false) (hcd : (x == ("__classdict__" : Str)) = false) (he : SE X G Wx e te) (hk : SE X G Wx k tk)
    (ha : ∀ v, assign (.Subscript (.Name x p) k sp) X.env v = (do
      let ov ← holding [v] (eval (.Name x p) X.env)
      let iv ← holding [v, ov] (eval k X.env)
      standAt sp
      holding [v, ov, iv] (setItem ov iv v)
      release [v, ov, iv] [])) (hs : swapsWithSole [.Subscript (.Name x p) k sp] e pos.line X.env = pure false) (hw : swappedStores [.Subscript (.Name x p) k sp] e X.env = pure none) :
    SS X G Wx (.Assign [.Subscript (.Name x p) k sp] e pos) (fun r => (te r).sr fun w r1 => if ownS r1 i then (tk r1).sr fun wk r2 => match wk with
    | .d (.int n) => (match keepW r2 w with
      | some (x, r3) => okS (appL r3 i fun l => (L2.ixN l.length n).map fun j => l.set j x)
      | none => .bad)
    | _ => .bad
    else .bad) := by
  refine ps_imp (ps_asg he (pg_sub (pe_var hN hv hd hcd) hk set_list ha) hs hw rfl) ?_
  rintro E σ H ⟨F, r, R, h⟩
  refine ⟨F, r, R, (PostS.un Stp.refl h).mono fun w r1 F1 H1 ⟨R1, S1, S1', h1⟩ v rv fv => ?_⟩
  split at h1
  case isFalse => exact h1.elim
  rename_i ho
  obtain ⟨b, vs, l, oa, hs, hH, hl, _⟩ := R1.ownSlot ho
  refine ⟨.ref b, hs, F1, r1, R1, (PostS.un S1 h1).mono fun wk r2 F2 H2 ⟨R2, S2, S02, h2⟩ vk rk fk => ?_⟩
  split at h2
  · cases rk
    split at h2
    · rename_i y r3 ek
      obtain ⟨F3, R3, S03, p3⟩ := R2.kept' S02 (rv.step0 S2) fv ek
      obtain ⟨l', vs', q1, q2, m, q3, q4⟩ := app_end S03 R3 hs h2
      rw [Option.map_eq_some_iff] at q3
      obtain ⟨j, q5, rfl⟩ := q3
      exact ⟨b, vs', _, j, rfl, rfl, q1, by rw [RpAll.len q2]; exact q5, q4 _ (q2.put j p3)⟩
    · exact h2.elim
  · exact h2.elim
/-- name += e, ints -/
theorem ss_aug {i : Nat} {x : Str} {e : Expr} {te : Sl → R W} {o : Operator} (ho : o = .Add ∨ o = .Sub) (hN : X.N.Nodup) (hi : X.N[i]? = some x) (hx : Loc X.env.scope x) (hf : X.fn x = true ∨ X.env.scope.names.lookup x = some .local) (he : SE X G Wx e te) :
    SS X G Wx (.AugAssign (.Name x p) o e pos) (fun r => match r[i]? with
    | some (.val (.int n)) => (te r).sr fun w r1 => augW i o n w r1
    | _ => .bad) := by
  have key : ∀ (f : Int → Int → Int), PIp X o (ipI f) → (∀ n m, augI o n m = some (f n m)) → SS X G Wx (.AugAssign (.Name x p) o e pos) (fun r => match r[i]? with
    | some (.val (.int n)) => (te r).sr fun w r1 => augW i o n w r1
    | _ => .bad) := fun f hp hf2 => by
    refine ps_imp (ps_aug hN hi hx he hp hf) ?_
    rintro E σ H ⟨F, r, R, h⟩
    dsimp only at h
    split at h
    · rename_i n q
      obtain ⟨v, e1, e2⟩ := R.slot i _ q
      cases e2
      refine ⟨_, e1, F, r, R, (PostS.un Stp.refl h).mono fun w r1 F1 H1 ⟨R1, S1, S1', h1⟩ v rv fv => ?_⟩
      unfold augW at h1
      cases w with
      | d y =>
        cases y with
        | int m =>
          cases rv
          refine ⟨n, m, rfl, rfl, ?_⟩
          dsimp only at h1
          rw [hf2] at h1
          have hi2 : i < r1.length := by rw [R1.len, ← R.len]; exact (List.getElem?_eq_some_iff.mp q).1
          obtain ⟨R2, o2, l2⟩ := R1.setSlot (sv := .val (.int (f n m))) (v := .int (f n m)) hi2 ⟨_, rfl, .int _⟩ (fun l z => by cases z) fun l' b z => by cases z
          refine h1 F1 _ H1 R2 ⟨S1.ext, S1.new, S1.keep, S1.grow, fun b o => ?_, fun k l e => ?_⟩
          · rcases o2 b o with z | ⟨_, l, z⟩
            · exact S1.own b z
            · cases z
          · obtain ⟨l', f1, f2⟩ := l2 k l e
            obtain ⟨l'', f3, f4⟩ := S1.lent k l' f1
            exact ⟨l'', f3, f2.trans f4⟩
        | _ => exact h1.elim
      | _ => exact h1.elim
    · exact h.elim
  rcases ho with rfl | rfl
  · exact key (fun n m => n + m) ip_add fun _ _ => rfl
  · exact key (fun n m => n - m) ip_sub fun _ _ => rfl
theorem ss_expr {e : Expr} {te : Sl → R W} (he : SE X G Wx e te) (hs : swapsWith e none pos.line X.env = pure false) : SS X G Wx (.Expr e pos) (fun r => (te r).sr fun _ r1 => .nx r1) := by
  refine ps_imp (ps_expr he hs) ?_
  rintro E σ H ⟨F, r, R, h⟩
  exact ⟨F, r, R, (PostS.un Stp.refl h).mono fun w r1 F1 H1 ⟨R1, S1, S1', h1⟩ v rv fv => h1 F1 σ H1 R1 S1⟩
theorem ss_ret {e : Expr} {te : Sl → R W} (he : SE X G Wx e te) : SS X G Wx (.Return (some e) pos) (fun r => (te r).sr fun w r1 => retS r1 w) := by
  refine ps_imp (ps_ret he) ?_
  rintro E σ H ⟨F, r, R, h⟩
  refine ⟨F, r, R, (PostS.un Stp.refl h).mono fun w r1 F1 H1 ⟨R1, S1, S1', h1⟩ v rv fv => ?_⟩
  cases w with
  | d x => exact h1 v F1 σ H1 R1 S1 rv fun l e => by cases e
  | f l => exact h1 v F1 σ H1 R1 S1 rv fun l e a ea => .inl (fv a ea)
  | s i =>
    have h1 : PostS X.K G Wx (retS r1 (.s i)) F r σ H E := h1
    simp only [retS] at h1
    have rv : σ[i]? = some (some v) := rv
    split at h1
    · rename_i l q
      obtain ⟨a, vs, e1, e2, e3, e4⟩ := R1.slot i _ q
      rw [rv] at e1
      cases e1
      obtain ⟨R2, o2, l2⟩ := R1.forget (j := i)
      have oa : OwnAt r1 σ i a := ⟨l, .inl q, rv⟩
      refine h1 _ F1 σ H1 R2 ⟨S1.ext, S1.new, S1.keep, S1.grow, fun b ⟨k, o⟩ => S1.own b ⟨k, (o2 k b o).2⟩, fun k l e => S1.lent k l (l2 k l e)⟩ ⟨a, vs, rfl, e3, e2, fun ⟨k, o⟩ => ?_, e4⟩ fun l' e a' ea => ?_
      · obtain ⟨n, o⟩ := o2 k a o
        exact n (R1.apart k i a o oa)
      · cases ea
        exact (S1.own a ⟨i, oa⟩).symm
    · exact h1.elim
theorem ss_retN : SS X G Wx (.Return none pos) (exS fs (.ret (.lit .none))) := by
  refine ps_imp ps_retN ?_
  rintro E σ H ⟨F, r, R, h⟩
  exact h .non F σ H R Stp.refl .non fun l e => by cases e
theorem ss_if {c : Expr} {a b : List Stmt} {tc : Sl → R W} {ta tb : Sl → SR} (hc : ST X G Wx c tc) (ha : SSs X G Wx a ta) (hb : SSs X G Wx b tb) : SS X G Wx (.If c a b pos) (fun r => (tc r).sr fun w r1 => match asBool w with
    | some true => ta r1
    | some false => tb r1
    | none => .bad) := by
  refine ps_imp (ps_if hc ha hb) ?_
  rintro E σ H ⟨F, r, R, h⟩
  refine ⟨F, r, R, (PostS.un Stp.refl h).mono fun w r1 F1 H1 ⟨R1, S1, S1', h1⟩ => ?_⟩
  split at h1
  · rename_i e
    refine ⟨true, e, ?_⟩
    refine iteT ?_
    exact ⟨F1, r1, R1, h1.base S1⟩
  · rename_i e
    refine ⟨false, e, ?_⟩
    refine iteF ?_
    exact ⟨F1, r1, R1, h1.base S1⟩
  · exact h1.elim
theorem ss_brk : SS X G Wx (.Break pos) (exS fs .brk) := ps_imp ps_break fun E σ H ⟨F, r, R, h⟩ => h F σ H R Stp.refl
theorem ss_cnt : SS X G Wx (.Continue pos) (exS fs .cnt) := ps_imp ps_continue fun E σ H ⟨F, r, R, h⟩ => h F σ H R Stp.refl
theorem ss_pass : SS X G Wx (.Pass pos) (exS fs .pass) := ps_imp ps_pass fun E σ H ⟨F, r, R, h⟩ => h F σ H R Stp.refl
theorem sss_nil : SSs X G Wx [] (exSs fs .nil) := pss_imp pss_nil fun E σ H ⟨F, r, R, h⟩ => by
  simp only [exSs] at h
  exact h F σ H R Stp.refl
theorem sss_cons {st : Stmt} {sts : List Stmt} {c : CS} {cs : CSs} (h1 : SS X G Wx st (exS fs c)) (h2 : SSs X G Wx sts (exSs fs cs)) : SSs X G Wx (st :: sts) (exSs fs (.cons c cs)) := by
  refine pss_imp (pss_cons h1 h2) ?_
  rintro E σ H ⟨F, r, R, h⟩
  simp only [exSs] at h
  refine ⟨F, r, R, ?_⟩
  cases e : exS fs c r with
  | nx r1 =>
    rw [e] at h
    exact fun F' σ' H' R' S' => ⟨F', r1, R', PostS.base S' h⟩
  | bk r1 => rw [e] at h; exact h
  | ct r1 => rw [e] at h; exact h
  | rt v r1 => rw [e] at h; exact h
  | err c p r1 => rw [e] at h; exact h
  | bad => rw [e] at h; exact h
/-- for -/
theorem ss_for {tg iter : Expr} {body : List Stmt} {ti : Sl → R (List D)} {set : D → Sl → Option Sl} {tb : Sl → SR} {sl : List Nat} (hp : PassesOwn (model X.prog X.w) X.A X.env X.xe) (hc : X.calm = true) (hi : SI X G Wx tg iter ti) (hg : PG X tg (tgOf X.K G sl set)) (hb : SSs X G Wx body tb)
    (hs : ∀ x, foldedSetIterable iter X.env x = pure x) : SS X G Wx (.For tg iter body [] pos) (fun r => (ti r).sr fun xs r1 => forL set tb xs r1) := by
  refine ps_imp (ps_for hp hc hi hg hb hs) ?_
  rintro E σ H ⟨F, r, R, h⟩
  refine ⟨F, r, R, (PostS.un Stp.refl h).mono fun xs r1 F1 H1 ⟨R1, S1, S1', h1⟩ J WD => ?_⟩
  obtain ⟨Gd, Y, w, hGd, hY⟩ := WD
  refine for_it w (fun i σc Hc => ∃ F2 rc, PostS X.K G Wx (forL set tb (xs.drop i) rc) F r σ H E ∧ StR X.K G.T F2 rc σc Hc ∧ Stp NoZ F r σ H F2 rc σc Hc ∧ Same F1 F2) ?_ ?_ ?_ ?_
  · exact ⟨F1, r1, by simpa using h1, R1, S1, fun _ _ z => z⟩
  · rintro i σc Hc hi ⟨F2, rc, _, R2, _, x2⟩
    exact hGd Hc (x2.trans R2.sub)
  · rintro i x σc Hc H' hi ⟨F2, rc, h2, R2, S2, x2⟩ hy
    obtain ⟨d, ed, rd⟩ := hY i Hc x H' hi hy
    obtain ⟨F3, R3, S3, p3, _⟩ := R2.res (resV_mono x2 rd)
    have hi' : i < xs.length := hi
    have ex : xs[i] = d := by
      rw [List.getElem?_eq_getElem hi'] at ed
      exact Option.some.inj ed
    rw [List.drop_eq_getElem_cons hi', ex] at h2
    have h2 : PostS X.K G Wx (match set d rc with
      | none => .bad
      | some r1 => match tb r1 with
        | .nx r2 => forL set tb (xs.drop (i + 1)) r2
        | .ct r2 => forL set tb (xs.drop (i + 1)) r2
        | .bk r2 => .nx r2
        | .rt v r2 => .rt v r2
        | .err c p r2 => .err c p r2
        | .bad => .bad) F r σ H E := h2
    cases es : set d rc with
    | none => rw [es] at h2; exact h2.elim
    | some r3 =>
      rw [es] at h2
      refine ⟨F3, rc, d, r3, R3, p3, es, fun σ2 R4 S4 _ _ => ?_⟩
      have S04 := (S2.trans0 S3).trans0 S4
      refine ⟨F3, r3, R4, ?_⟩
      have h2 : PostS X.K G Wx (match tb r3 with
        | .nx r2 => forL set tb (xs.drop (i + 1)) r2
        | .ct r2 => forL set tb (xs.drop (i + 1)) r2
        | .bk r2 => .nx r2
        | .rt v r2 => .rt v r2
        | .err c p r2 => .err c p r2
        | .bad => .bad) F r σ H E := h2
      cases et : tb r3 with
      | nx r4 =>
        rw [et] at h2
        exact fun F' σ' H' R' S' => ⟨F', r4, h2, R', S04.trans0 S', (x2.trans S3.ext).trans S'.ext⟩
      | ct r4 =>
        rw [et] at h2
        exact fun F' σ' H' R' S' => ⟨F', r4, h2, R', S04.trans0 S', (x2.trans S3.ext).trans S'.ext⟩
      | bk r4 =>
        rw [et] at h2
        exact fun F' σ' H' R' S' => h2 F' σ' H' R' (S04.trans0 S')
      | rt v r4 =>
        rw [et] at h2
        exact fun u F' σ' H' R' S' rv fv => h2 u F' σ' H' R' (S04.trans0 S') rv (fv.back S04)
      | err c p r4 =>
        rw [et] at h2
        exact fun F' σ' H' cls d R' S' ex => h2 F' σ' H' cls d R' (S04.trans0 S') ex
      | bad => rw [et] at h2; exact h2
  · rintro σc Hc ⟨F2, rc, h2, R2, S2, _⟩
    rw [List.drop_length] at h2
    exact h2 F2 σc Hc R2 S2
end
end SR
/-! The engine, part A: the rule for a def. -/
namespace SR
open PySem PySem.Spec PyProof.Rows L2 RZ
section
variable {K : PySem.W.Frag} {T : List (Addr × Str)} {F F' : Hp} {as r' : Sl} {σa σ' : L2.St} {H H' : Hp} {n : Nat}
theorem keepsL_get : ∀ {as r : Sl} {i : Nat}, keepsL as r = true → (∀ l, as[i]? = some (SV.lent l) → ∃ l', r[i]? = some (SV.lent l')) ∧ ∀ l, as[i]? ≠ some (SV.own l)
  | [], _, i, _ => ⟨fun l e => by simp at e, fun l e => by simp at e⟩
  | a :: as, r, i, h => by
    cases a with
    | lent l0 =>
      cases r with
      | nil => cases h
      | cons b r =>
        cases b with
        | lent l1 =>
          have h : keepsL as r = true := h
          cases i with
          | zero => exact ⟨fun l e => ⟨l1, rfl⟩, fun l e => by simp at e⟩
          | succ i =>
            have q := keepsL_get (i := i) h
            exact ⟨fun l e => by simpa using q.1 l (by simpa using e), fun l e => q.2 l (by simpa using e)⟩
        | _ => cases h
    | own l0 => cases r <;> cases h
    | no =>
      have h : keepsL as r.tail = true := by cases r <;> exact h
      cases i with
      | zero => exact ⟨fun l e => by simp at e, fun l e => by simp at e⟩
      | succ i =>
        have q := keepsL_get (i := i) h
        refine ⟨fun l e => ?_, fun l e => q.2 l (by simpa using e)⟩
        obtain ⟨l', e'⟩ := q.1 l (by simpa using e)
        exact ⟨l', by cases r <;> simpa using e'⟩
    | val d =>
      have h : keepsL as r.tail = true := by cases r <;> exact h
      cases i with
      | zero => exact ⟨fun l e => by simp at e, fun l e => by simp at e⟩
      | succ i =>
        have q := keepsL_get (i := i) h
        refine ⟨fun l e => ?_, fun l e => q.2 l (by simpa using e)⟩
        obtain ⟨l', e'⟩ := q.1 l (by simpa using e)
        exact ⟨l', by cases r <;> simpa using e'⟩
    | scr d =>
      have h : keepsL as r.tail = true := by cases r <;> exact h
      cases i with
      | zero => exact ⟨fun l e => by simp at e, fun l e => by simp at e⟩
      | succ i =>
        have q := keepsL_get (i := i) h
        refine ⟨fun l e => ?_, fun l e => q.2 l (by simpa using e)⟩
        obtain ⟨l', e'⟩ := q.1 l (by simpa using e)
        exact ⟨l', by cases r <;> simpa using e'⟩
theorem proj_get : ∀ {as r : Sl} {i : Nat} {sv : SV}, (proj as r)[i]? = some sv → ∃ a, as[i]? = some a ∧ (sv = .no ∨ (∃ l l', a = .lent l ∧ r[i]? = some (SV.lent l') ∧ sv = .lent l') ∨ (∃ d, a = .val d ∧ sv = .val d) ∨ ∃ l, a = .scr l ∧ sv = .scr l)
  | [], _, i, _, e => by simp [proj] at e
  | a :: as, r, 0, sv, e => by
    simp only [proj, List.getElem?_cons_zero, Option.some.injEq] at e
    refine ⟨a, rfl, ?_⟩
    subst e
    split
    · rename_i l l' q
      exact .inr (.inl ⟨l, l', rfl, by cases r <;> simpa using q, rfl⟩)
    · exact .inr (.inr (.inl ⟨_, rfl, rfl⟩))
    · exact .inr (.inr (.inr ⟨_, rfl, rfl⟩))
    · exact .inl rfl
  | a :: as, r, i + 1, sv, e => by
    simp only [proj, List.getElem?_cons_succ] at e
    obtain ⟨a', e1, e2⟩ := proj_get e
    refine ⟨a', by simpa using e1, ?_⟩
    rcases e2 with e2 | ⟨l, l', e2, e3, e4⟩ | e2 | e2
    · exact .inl e2
    · exact .inr (.inl ⟨l, l', e2, by cases r <;> simpa using e3, e4⟩)
    · exact .inr (.inr (.inl e2))
    · exact .inr (.inr (.inr e2))
theorem proj_len : ∀ {as r : Sl}, (proj as r).length = as.length
  | [], _ => rfl
  | _ :: as, r => congrArg Nat.succ (proj_len (as := as) (r := r.tail))
/-- with the def's other slots -/
theorem pad_get {i : Nat} {sv : SV} (e : (as ++ List.replicate n SV.no)[i]? = some sv) : as[i]? = some sv ∨ sv = .no := by
  by_cases h : i < as.length
  · rw [List.getElem?_append_left h] at e
    exact .inl e
  · rw [List.getElem?_append_right (Nat.le_of_not_lt h), List.getElem?_replicate] at e
    split at e
    · exact .inr (Option.some.inj e).symm
    · cases e
theorem pad_own {i : Nat} {b : Addr} (hl : as.length = σa.length) : OwnAt (as ++ List.replicate n .no) (σa ++ List.replicate n none) i b ↔ OwnAt as σa i b := by
  constructor
  · rintro ⟨l, h1, h2⟩
    have hi : as[i]? = some (SV.own l) ∨ as[i]? = some (SV.lent l) := by
      rcases h1 with h1 | h1
      · rcases pad_get h1 with z | z
        · exact .inl z
        · cases z
      · rcases pad_get h1 with z | z
        · exact .inr z
        · cases z
    have il : i < as.length := by rcases hi with z | z <;> exact (List.getElem?_eq_some_iff.mp z).1
    rw [List.getElem?_append_left (by omega)] at h2
    exact ⟨l, hi, h2⟩
  · rintro ⟨l, h1, h2⟩
    have il : i < as.length := by rcases h1 with z | z <;> exact (List.getElem?_eq_some_iff.mp z).1
    exact ⟨l, by rw [List.getElem?_append_left il]; exact h1, by rw [List.getElem?_append_left (by omega)]; exact h2⟩
theorem StR.padded (R : StR K T F as σa H) (n : Nat) : StR K T F (as ++ List.replicate n .no) (σa ++ List.replicate n none) H where
  sub := R.sub
  ntb := R.ntb
  len := by simp [R.len]
  slot := fun i sv e => by
    rcases pad_get e with z | z
    · have il := (List.getElem?_eq_some_iff.mp z).1
      rw [List.getElem?_append_left (by rw [← R.len]; exact il)]
      exact R.slot i sv z
    · subst z
      trivial
  apart := fun i j b h1 h2 => R.apart i j b ((pad_own R.len).mp h1) ((pad_own R.len).mp h2)
  tabs := R.tabs
theorem StR.projd (R : StR K T F as σa H) (R' : StR K T F' r' σ' H') (S : Stp NoZ F (as ++ List.replicate n .no) (σa ++ List.replicate n none) H F' r' σ' H') (hk : keepsL as r' = true) :
    StR K T F' (proj as r') σa H' ∧ Stp NoZ F as σa H F' (proj as r') σa H' ∧ (∀ b, Owned (proj as r') σa b → Owned r' σ' b) ∧ (∀ b, Owned as σa b → Owned r' σ' b) := by
  have own0 : ∀ b, Owned (as ++ List.replicate n .no) (σa ++ List.replicate n none) b ↔ Owned as σa b := fun b => ⟨fun ⟨i, o⟩ => ⟨i, (pad_own R.len).mp o⟩, fun ⟨i, o⟩ => ⟨i, (pad_own R.len).mpr o⟩⟩
  have lentAt : ∀ (i : Nat) l', r'[i]? = some (SV.lent l') → i < as.length → σ'[i]? = σa[i]? := fun i l' e il => by
    obtain ⟨l, e1, e2⟩ := S.lent i l' e
    rw [e2, List.getElem?_append_left (by rw [← R.len]; exact il)]
  have oa : ∀ i b, OwnAt (proj as r') σa i b → OwnAt r' σ' i b ∧ ∃ l, as[i]? = some (SV.lent l) := fun i b ⟨l, h1, h2⟩ => by
    rcases h1 with h1 | h1
    · obtain ⟨a, e1, e2 | ⟨l1, l2, e2, e3, e4⟩ | ⟨d, _, e2⟩ | ⟨l1, _, e2⟩⟩ := proj_get h1 <;> first | (cases e4; done) | (cases e2; done)
    · obtain ⟨a, e1, e2 | ⟨l1, l2, e2, e3, e4⟩ | ⟨d, _, e2⟩ | ⟨l1, _, e2⟩⟩ := proj_get h1
      · cases e2
      · subst e2
        exact ⟨⟨l2, .inr e3, by rw [lentAt i l2 e3 (List.getElem?_eq_some_iff.mp e1).1]; exact h2⟩, l1, e1⟩
      · cases e2
      · cases e2
  have oR : ∀ b, Owned as σa b → Owned r' σ' b := fun b ⟨i, l, h1, h2⟩ => by
    rcases h1 with h1 | h1
    · exact absurd h1 ((keepsL_get hk).2 l)
    · obtain ⟨l', e⟩ := (keepsL_get hk).1 l h1
      exact ⟨i, l', .inr e, by rw [lentAt i l' e (List.getElem?_eq_some_iff.mp h1).1]; exact h2⟩
  refine ⟨⟨R'.sub, R'.ntb, by rw [proj_len]; exact R.len, fun i sv e => ?_, fun i j b h1 h2 => R'.apart i j b (oa i b h1).1 (oa j b h2).1, R'.tabs⟩,
    ⟨S.ext, fun b h => ?_, fun b o h n q z => S.keep b o h n (fun w => q ((own0 b).mp w)) z, S.grow, fun b ⟨i, o⟩ => ?_, fun i l' e => ?_⟩, fun b ⟨i, o⟩ => ⟨i, (oa i b o).1⟩, oR⟩
  · obtain ⟨a, e1, e2 | ⟨l1, l2, e2, e3, e4⟩ | ⟨d, e2, e3⟩ | ⟨l1, e2, e3⟩⟩ := proj_get e
    · subst e2
      trivial
    · subst e4
      have q := R'.slot i _ e3
      obtain ⟨b, vs, f1, f2, f3, f4⟩ := q
      exact ⟨b, vs, by rw [← lentAt i l2 e3 (List.getElem?_eq_some_iff.mp e1).1]; exact f1, f2, f3, f4⟩
    · subst e2 e3
      obtain ⟨v, f1, f2⟩ := R.slot i _ e1
      exact ⟨v, f1, rp_mono S.ext _ _ f2⟩
    · subst e2 e3
      obtain ⟨b, vs, f1, f2, f3⟩ := R.slot i _ e1
      exact ⟨b, vs, f1, sqL_mono S.ext f2, rpAll_mono S.ext _ _ f3⟩
  · rcases S.new b h with z | z | z | z
    · exact .inl z
    · exact .inr (.inl z)
    · exact .inr (.inr (.inl ((own0 b).mp z)))
    · exact z.elim
  · rcases S.own b ⟨i, (oa i b o).1⟩ with z | z
    · exact .inl ((own0 b).mp z)
    · exact .inr z
  · obtain ⟨a, e1, e2 | ⟨l1, l2, e2, e3, e4⟩ | ⟨d, _, e2⟩ | ⟨l1, _, e2⟩⟩ := proj_get e
    · cases e2
    · subst e2
      exact ⟨l1, e1, rfl⟩
    · cases e2
    · cases e2
end
section
variable {P : Program} {w : World} {K : PySem.W.Frag} {mg : Str → Option Value} {base : Heap} {G : Gx}
/-- a def, by its body -/
theorem fn_ok {x qual : Str} {st : Stmt} {f : Addr} {N ps : List Str} {k : Nat} {fs : List FI} {body : CSs} {kV doc pm cdv ct oc : Value} {an od : Option Addr} {osl : Array (Option Value)}
    (lk : K.lookup f = some ⟨oc, od, .func (PySem.W.fnOf x qual (defArgs st) (defBody st) (defScope st) .none kV doc pm an cdv ct), osl⟩) (hcd : PySem.W.codeIn K cdv qual = true) (Sc : FnScope N ps (defScope st)) (hl : ps.length ≤ N.length)
    (hbody : ∀ (X : Cx) (Wx : WX), X.prog = P → X.w = w → X.K = K → X.mg = mg → X.base = base → X.N = N → X.env.scope = defScope st → X.env.code = cdv → X.env.qual = qual ++ ".<locals>." → X.calm = true → (∀ y, X.fn y = true) → Room k X.A → Takes X Wx → PassesOwn (model X.prog X.w) X.A X.env X.xe → SSs X G Wx (defBody st) (exSs fs body)) :
    FnOk P w K mg base (L2.CX P w) (k + 1) f (PySem.W.fnOf x qual (defArgs st) (defBody st) (defScope st) .none kV doc pm an cdv ct) ps (spD K G ps.length (runB N.length fs body)) := by
  refine fn_of lk hcd Sc (fun vs H Q E ⟨F, as, h, _⟩ => h) fun A outer s H vs Q E hr hsp => ?_
  refine ⟨_, hbody (cxOf (L2.CX P w) P w K mg base N qual (defScope st) f cdv A outer s H E) (fun cls d _ H' => E cls d H') rfl rfl rfl rfl rfl rfl rfl rfl rfl rfl (fun _ => rfl) hr (takes_of rfl rfl rfl rfl) (passes_of rfl), ?_⟩
  obtain ⟨F, as, hv, R, h⟩ := hsp
  have hla : as.length = vs.length := by rw [R.len, List.length_map]
  have R0 := R.padded (N.length - vs.length)
  refine ⟨F, _, R0, ?_⟩
  unfold runB at h
  rw [hla] at h
  cases e : exSs fs body (as ++ List.replicate (N.length - vs.length) SV.no) with
  | bad => rw [e] at h; exact h.elim
  | bk r => rw [e] at h; exact h.elim
  | ct r => rw [e] at h; exact h.elim
  | nx r =>
    rw [e] at h
    dsimp only [endB] at h
    intro F' σ' H' R' S'
    by_cases hk : keepsL as r = true
    · rw [if_pos hk] at h
      obtain ⟨R2, S2, _, _⟩ := R.projd R' S' hk
      exact h .non F' H' R2 S2 .non trivial
    · rw [if_neg hk] at h
      exact h.elim
  | rt v r =>
    rw [e] at h
    dsimp only [endB] at h
    intro u F' σ' H' R' S' rv fv
    by_cases hk : keepsL as r = true
    · rw [if_pos hk] at h
      obtain ⟨R2, S2, o2, o3⟩ := R.projd R' S' hk
      refine h u F' H' R2 S2 ?_ ?_
      · cases v with
        | dat d => exact rv
        | frs l =>
          obtain ⟨a, us, e1, e2, e3, e4, e5⟩ := rv
          exact ⟨a, us, e1, e2, e3, fun o => e4 (o2 a o), e5⟩
      · cases v with
        | dat d => trivial
        | frs l =>
          intro a ea
          obtain ⟨a', us, e1, e2, e3, e4, e5⟩ := rv
          rcases fv l rfl a ea with z | ⟨i, o⟩
          · exact z
          · rw [ea] at e1
            cases e1
            exact absurd (o3 a ⟨i, (pad_own (by rw [hla, List.length_map])).mp o⟩) e4
    · rw [if_neg hk] at h
      exact h.elim
  | err c p r =>
    rw [e] at h
    dsimp only at h
    intro F' σ' H' cls d R' S' ex
    by_cases hk : keepsL as r = true
    · rw [if_pos hk] at h
      obtain ⟨R2, S2, _, _⟩ := R.projd R' S' hk
      exact h F' H' cls d R2 S2 ex
    · rw [if_neg hk] at h
      exact h.elim
end
end SR
set_option maxHeartbeats 2000000
/-! The engine, part E: BadArgument, an own error below an own error below ValueError; its __init__ says super().__init__(name), self.name = name. -/
namespace PySem
namespace BadX
open PySem.W PySem.Calls PyProof.Rows PySem.HandSPX
/-! ### the text of __init__ -/
def iA (p1 p2 : Pos) : Arguments := { posonlyargs := [], args := [{ arg := "self", annotation := none, pos := p1 }, { arg := "name", annotation := none, pos := p2 }], vararg := none, kwonlyargs := [], kw_defaults := [], kwarg := none, defaults := [] }
def iB (a1 a2 a3 a4 a5 a6 q1 q2 q3 q4 : Pos) : List Stmt := [.Expr (.Call (.Attribute (.Call (.Name "super" a1) [] [] a2) "__init__" a3) [.Name "name" a4] [] a5) a6, .Assign [.Attribute (.Name "self" q1) "name" q2] (.Name "name" q3) q4]
def iS : Scope := { kind := .function, names := [(PySem.Str.ofString "self", .local), (PySem.Str.ofString "name", .local), (PySem.Str.ofString "__class__", .free), (PySem.Str.ofString "super", .globalImplicit)], isGenerator := false, isCoroutine := false, more := [] }
/-- what the written part says of BadArgument, at C, and of its __init__, at fI; cc: the cell of the class, cda: the code object -/
structure BadTxt (prog : Program) (K : Frag) (mg : Str → Option Value) (C fI cc cda : Addr) : Prop where
  gC : mg "BadArgument" = some (.ref C)
  cls : ∃ nm q N bs bm sn sub ab col dd k0 k1 k2 k3 k5, K.lookup C = some (excClassObj nm q C N bs bm true sn sub ab col dd k0 k1 k2 k3 k5 "ValueError.__new__") ∧ refsVE bm = true
  sa : findIn K (.ref C) "__setattr__" = some (some (.builtin "object.__setattr__"))
  ga : findIn K (.ref C) "__getattribute__" = some (some (.builtin "BaseException.__getattribute__"))
  gg : findIn K (.ref C) "__getattr__" = some none
  noN : findIn K (.ref C) "name" = some none
  iC : findIn K (.ref C) "__init__" = some (some (.ref fI))
  tC : typeIn K (.ref fI) = some (.type "function")
  kC : keepIn K (.ref C) = true
  exC : subIn K (.ref C) (.type "BaseException") = some true
  veC : subIn K (.ref C) (.type "ValueError") = some true
  tyC : typeIn K (.ref C) = some (.type "type")
  hdC : hasDictIn K C = true
  te : exmOne K (.ref C) (.ref C) = some true
  sup : ks_superIn K C C "__init__" = some (some (.builtin "ValueError.__init__"))
  slf : mroIn K C (.ref C) = some true
  opq : nsIn K cStatics "thirdparty.any" = some none
  msup : mg "super" = none
  cell : ∃ cl cld csl, K.lookup cc = some ⟨cl, cld, .cell (some (.ref C)), csl⟩
  code : ∃ (ccl : Value) (cdd : Option Addr) (vs : Array Value) (ccs : Array (Option Value)) (file : Str) (tf : Tok), K.lookup cda = some ⟨ccl, cdd, .fields vs, ccs⟩ ∧ vs[2]? = some (.str file tf) ∧ ((prog.main.file : Str) == file) = true
  top : (prog.main.scope.names.lookup ("super" : Str)).isSome = false
  fn : ∃ (oc : Value) (od : Option Addr) (doc pm : Value) (an : Option Addr) (ct : Value) (osl : Array (Option Value)) (p1 p2 a1 a2 a3 a4 a5 a6 q1 q2 q3 q4 : Pos), (a3.endLine == a5.line) = true ∧
    K.lookup fI = some ⟨oc, od, .func (ksFn "__init__" "BadArgument.__init__" (iA p1 p2) (iB a1 a2 a3 a4 a5 a6 q1 q2 q3 q4) iS .none .none doc pm an (.ref cda) ct cc), osl⟩ ∧ codeIn K (.ref cda) "BadArgument.__init__" = true
theorem one_size (v : Value) : [v].length ≤ sizeLine := by
  rw [sizeLine_eq]
  exact (by decide : 1 ≤ 16777216)
theorem kept_but {K : Frag} {h h' : Heap} {x : Addr} (X : K.In h) (hx : K.lookup x = none) (k : ∀ b o, b ≠ x → h.get? b = some o → h'.get? b = some o) : K.In h' := fun a o e =>
  k a o (fun z => by rw [z, hx] at e; cases e) (X a o e)
theorem ldK {M : Model} {s : Shared} {env : Env} {m : Str → Option Value} {x : Str} {pos : Pos} {v : Value} {Q : Value → Shared → Prop} {A : Around} {E : Value → Shared → Prop} (hn : s.heap.Ns env.locals m) (hv : m x = some v) (h : Q v s)
    (hk : env.scope.kind = .function) (hl : env.kindOf x = some .local) (hd : (x == ("__debug__" : Str)) = false := by decide) :
    wpAny M A (eval (.Name x pos) env) Q E s := wpAny_Name (wpAny_loadName_local hk hl hn hv h) hd
/-- what __init__ leaves of a fresh exception at x -/
structure InitEnd (h h' : Heap) (x C dx : Addr) (v : Value) : Prop where
  keep : ∀ b o, b ≠ x → h.get? b = some o → h'.get? b = some o
  obj : ∃ t1, h'.get? x = some { cls := .ref C, dict := some dx, data := .fields #[.ref t1, .none, .none, .none, .bool false, .none] }
  dbig : h.objs.size ≤ dx
  dne : dx ≠ x
  ns : h'.Ns1 dx (fun y => if y = "name" then some v else none)
/-- a made BadArgument -/
structure OwnMade (h h' : Heap) (e C d : Addr) (v : Value) : Prop where
  keep : ∀ b o, h.get? b = some o → h'.get? b = some o
  new : h.objs.size ≤ e
  obj : ∃ oe vs, h'.get? e = some oe ∧ oe.cls = .ref C ∧ oe.dict = some d ∧ oe.data = .fields vs ∧ vs[1]? = some .none
  dbig : h.objs.size ≤ d
  dne : d ≠ e
  ns : h'.Ns1 d (fun y => if y = "name" then some v else none)
section
variable {prog : Program} {w : World} {A : Around} {E : Value → Shared → Prop} {R : Result → Shared → Prop} {s : Shared} {K : Frag} {mg mb : Str → Option Value} {C fI cc cda : Addr}
/-- ValueError.__init__, bound -/
theorem call_mwV {h : Heap} {g : Array GenState} {d : Drawn} {t : Nat} {os : OsState} {nm q : Str} {N : Addr} {bs bm : List Value} {hdct : Bool} {sn : List Str} {sub : List Value} {ab : Bool} {col : Option Bool} {dd : Option Addr} {k0 k1 k2 k3 k5 : Option Value} {u e t0 : Addr} {rest : List Value} {Q : Value → Shared → Prop}
    (hC : h.get? C = some (excClassObj nm q C N bs bm hdct sn sub ab col dd k0 k1 k2 k3 k5 "ValueError.__new__")) (he : h.get? e = some (excO C t0)) (hu : h.get? u = some (kxs_mw "ValueError.__init__" e)) (hrest : rest.length ≤ sizeLine)
    (hq : ∀ h' t1, (∀ b o, b ≠ e → h.get? b = some o → h'.get? b = some o) → h'.get? e = some (excO C t1) → Q .none ⟨h', g, d, t, os⟩) :
    wpAny (model prog w) A (call (.ref u) rest) Q E ⟨h, g, d, t, os⟩ := by
  have FB := F.excBase_ValueError
  refine wpAny_call (codeAny_of_tree ?_)
  show wpAny _ A.in1 (callAny (.ref u) ⟨rest, []⟩) _ _ _
  simp only [callAny]
  refine wpAny_bind (wpAny_load hu ?_)
  simp only [kxs_mw, show (Value.type "method-wrapper" == Value.type "method" || Value.type "method-wrapper" == Value.type "builtin_function_or_method" || Value.type "method-wrapper" == Value.type "method-wrapper") = true by decide, if_true]
  refine KFB.if_so (by decide) ?_
  refine wpAny_bind (check_bound_init FB.toExcCallFacts hC he rfl ?_)
  refine wpAny_bind (wpAny_pure (wpAny_pure ?_))
  refine ⟨plainId_quiet FB.init.plain _, codeAny_builtin FB.initEntry ?_⟩
  exact exc_init_tree (cls := .ref C) (t0 := t0) (dv := none) (c2 := .none) (c3 := .none) (b4 := .bool false) he hrest fun h' k e' t' => hq h' _ k e'
/-- the names at the entry -/
def mOf (x : Addr) (v : Value) : Str → Option Value := fun y => ([(PySem.Str.ofString "self", Value.ref x), (PySem.Str.ofString "name", v)] : List (Str × Value)).reverse.lookup y
theorem mOf_self (x : Addr) (v : Value) : mOf x v "self" = some (.ref x) := by first | rfl | kernel_rfl | (simp [mOf, List.lookup])
theorem mOf_name (x : Addr) (v : Value) : mOf x v "name" = some v := by first | rfl | kernel_rfl | (simp [mOf, List.lookup])
theorem bad_init (T : BadTxt prog K mg C fI cc cda) {x t0 : Addr} {v : Value} (X : K.In s.heap) (hG : s.heap.Ns mainGlobals mg) (hB : s.heap.Ns builtinsNs mb) (hsb : mb "super" = bootBuiltins "super") (hlim : s.heap.NoLimit) (hx : s.heap.get? x = some (excO C t0)) (hnx : K.lookup x = none) (hroom : A.depth < recursionLimit)
    (hq : ∀ h' tk dx, InitEnd s.heap h' x C dx v → R (.ok (.ret .none)) { s with heap := h', toks := tk }) :
    codeAny (model prog w) A (.call (.ref fI) ⟨[.ref x, v], []⟩) R s := by
  obtain ⟨oc, od, doc, pm, an, ct, osl, p1, p2, a1, a2, a3, a4, a5, a6, q1, q2, q3, q4, hline, ho, hcd⟩ := T.fn
  obtain ⟨nm, q, N, bs, bm, sn, sub, ab, col, dd, k0, k1, k2, k3, k5, hC, hbm⟩ := T.cls
  obtain ⟨ccl, cdd, vs, ccs, file, tf, hco, hvs, hfile⟩ := T.code
  obtain ⟨cl, cld, csl, hcell⟩ := T.cell
  have hcl : clsIn K C = some { name := nm, bases := bs, mro := .ref C :: bm, ns := N, qualname := q, hasDict := true, slotNames := sn, subclasses := sub, abstract := ab, collection := col, hasDel := false } := by unfold clsIn; rw [hC] <;> rfl
  refine ks_codeAny_call_defAt (fd := ksFn "__init__" "BadArgument.__init__" (iA p1 p2) (iB a1 a2 a3 a4 a5 a6 q1 q2 q3 q4) iS .none .none doc pm an (.ref cda) ct cc) (body := iB a1 a2 a3 a4 a5 a6 q1 q2 q3 q4) (binds := [("self", .ref x), ("name", v)]) hroom (X _ _ ho) rfl hlim (codeRec_of X hcd) rfl
    (BindsTo.of_eq (by first | rfl | with_unfolding_all rfl)) (show ∀ x ∈ iS.names, x.2 ≠ .cell from by decide) (locs rfl) (fun h₁ hn k => ?_) rfl rfl rfl
  have hxL : s.heap.objs.size ≠ x := Nat.ne_of_gt (Heap.lt_size hx)
  have X₁ : K.In h₁ := X.keeps k
  have hx₁ := k _ _ hx
  show _root_.PySem.wpAt (model prog w) (A.deeper (ksEnv "BadArgument.__init__" iS s.heap.objs.size fI (.ref cda) cc)) (.func (iB a1 a2 a3 a4 a5 a6 q1 q2 q3 q4) (ksEnv "BadArgument.__init__" iS s.heap.objs.size fI (.ref cda) cc)) (execs (iB a1 a2 a3 a4 a5 a6 q1 q2 q3 q4) (ksEnv "BadArgument.__init__" iS s.heap.objs.size fI (.ref cda) cc)) _ _ _
  have hkF : (ksEnv "BadArgument.__init__" iS s.heap.objs.size fI (.ref cda) cc).scope.kind = .function := rfl
  have hks : (ksEnv "BadArgument.__init__" iS s.heap.objs.size fI (.ref cda) cc).kindOf "super" = some .globalImplicit := by first | rfl | decide
  have hkc : (ksEnv "BadArgument.__init__" iS s.heap.objs.size fI (.ref cda) cc).kindOf "__class__" = some .free := by first | rfl | decide
  have hkn : (ksEnv "BadArgument.__init__" iS s.heap.objs.size fI (.ref cda) cc).kindOf "name" = some .local := by first | rfl | decide
  have hkx : (ksEnv "BadArgument.__init__" iS s.heap.objs.size fI (.ref cda) cc).kindOf "self" = some .local := by first | rfl | decide
  have hnL : h₁.Ns (ksEnv "BadArgument.__init__" iS s.heap.objs.size fI (.ref cda) cc).locals (mOf x v) := hn
  generalize hev : ksEnv "BadArgument.__init__" iS s.heap.objs.size fI (.ref cda) cc = ev at hkF hks hkc hkn hkx hnL ⊢
  have hfu : ev.func = some fI := by rw [← hev]
  have hcdE : ev.code = .ref cda := by rw [← hev]
  have hgl : ev.globals = mainGlobals := by rw [← hev]
  have hbl : ev.builtins = builtinsNs := by rw [← hev]
  have hce : ev.cells.lookup (PySem.Str.ofString "__class__") = some cc := by rw [← hev]; first | rfl | decide
  have hint : interactive ev = false := by rw [← hev] <;> rfl
  have hba : ∀ (o : Expr) (pos : Pos) (es : List Expr), True := fun _ _ _ => trivial
  have eS := mOf_self x v
  have eN := mOf_name x v
  generalize mOf x v = m at hnL eS eN
  unfold iB
  refine ks_wpAt_execs_cons (ks_wpAt_Expr_any ?_ hint rfl)
  -- super().__init__(name)
  refine ks_wpAt_MethodCall (pl := L2.plainOf (.Call (.Name "super" a1) [] [] a2) ev) ?_ ?_
  rotate_left
  · show (do
      let ov ← attributeBase (.Call (.Name "super" a1) [] [] a2) "__init__" ev (eval (.Call (.Name "super" a1) [] [] a2) ev)
      standAt a3.atName
      methodCall (.Call (.Name "super" a1) [] [] a2) "__init__" a3 a5 ev ov 1 (backTo a5 (starEach [.Name "name" a4] ev)) []) = _
    have e := fun ov => L2.mcall_line (o := .Call (.Name "super" a1) [] [] a2) (m := "__init__") (env := ev) (ov := ov) (n := 1) (args := backTo a5 (starEach [.Name "name" a4] ev)) (kws := []) rfl hline
    simp only [e]
  refine ks_wpAt_super_base (env := ev) (of := ⟨oc, od, .func (ksFn "__init__" "BadArgument.__init__" (iA p1 p2) (iB a1 a2 a3 a4 a5 a6 q1 q2 q3 q4) iS .none .none doc pm an (.ref cda) ct cc), osl⟩) (fd := ksFn "__init__" "BadArgument.__init__" (iA p1 p2) (iB a1 a2 a3 a4 a5 a6 q1 q2 q3 q4) iS .none .none doc pm an (.ref cda) ct cc) (ar := { arg := "self", annotation := none, pos := p1 })
    hks hkc (by decide) hfu (X₁ _ _ ho) rfl rfl hcdE (X₁ _ _ hco) rfl hvs hfile T.top ?_
  refine ks_loadName_global hkF hks (loadGlobal_builtin (v := .type "super") (by rw [hgl]; exact hG.keeps k) T.msup (by rw [hbl]; exact hB.keeps k) (hsb.trans (by decide +kernel)) ⟨rfl, ?_⟩)
  refine wpAny_loadName_free hkF hkc hce ⟨_, X₁ _ _ hcell, rfl⟩ ?_
  refine wpAny_loadName_local hkF hkx hnL eS ?_
  have I1 : InstAt h₁ x (excO C t0) C none := ⟨hx₁, rfl, rfl, trivial⟩
  refine ks_wpAny_isType_cls (X₁ _ _ hC) rfl ⟨rfl, ?_⟩
  refine ks_wpAny_call_super (X₁ _ _ hC) rfl hx₁ rfl (fun c e => by cases e) (looks_mroIn X₁ T.slf) (fun h₂ hso k₂ => ?_)
  have X₂ := X₁.keeps k₂
  have hx₂ := k₂ _ _ hx₁
  have I2 : InstAt h₂ x (excO C t0) C none := ⟨hx₂, rfl, rfl, trivial⟩
  have hI : Looks (model prog w) h₂ (isInstance (.ref x) (.type "ValueError")) true := I2.type.andThen (looks_subIn X₂ T.veC)
  have hsup := T.sup
  unfold ks_superIn at hsup
  rw [hcl] at hsup
  refine kxs_getMethod kxs_ValueError hso (looks_opaque X₂ T.opq) (l₀ := .ref C :: bm) (fun A Q E s k q => wpAny_bind ((looks_clsIn X₂ hcl) A _ E s k (wpAny_pure q))) rfl X₂ hsup hI (ks_ne X₂ I2 hcl) (by decide) ?_
  have k₃ : ∀ b o, h₂.get? b = some o → (h₂.push (kxs_mw "ValueError.__init__" x)).get? b = some o := fun b o e => Heap.get?_push_of_some _ e
  have hu₃ : (h₂.push (kxs_mw "ValueError.__init__" x)).get? h₂.objs.size = some (kxs_mw "ValueError.__init__" x) := Heap.get?_push_size _ rfl
  have hnL₃ : (h₂.push (kxs_mw "ValueError.__init__" x)).Ns ev.locals m := Heap.Ns.keeps hnL fun b o e => k₃ b o (k₂ b o e)
  generalize h₂.push (kxs_mw "ValueError.__init__" x) = h₃ at k₃ hu₃ hnL₃ ⊢
  have X₃ := X₂.keeps k₃
  have hx₃ := k₃ _ _ hx₂
  refine kxs_callWith (i := "ValueError.__init__") (x := x) rfl (evalArgs_plain ?_)
  show wpAny _ _ (spliced ((false, eval (.Name "name" a4) ev) :: backTo a5 (starEach [] ev))) _ _ _
  refine spliced_cons (ldK hnL₃ eN (spliced_nil ⟨hu₃, ?_⟩) hkF hkn)
  refine call_mwV (X₃ _ _ hC) hx₃ hu₃ (one_size v) fun h₄ t1 k₄ hx₄ => ?_
  have X₄ : K.In h₄ := kept_but X₃ hnx k₄
  have xL : ev.locals ≠ x := by rw [← hev]; exact hxL
  have hnL₄ : h₄.Ns ev.locals m := by
    obtain ⟨oL, es, ep, hL, r⟩ := hnL₃
    exact ⟨oL, es, ep, k₄ _ _ xL hL, r⟩
  -- self.name = name
  refine ks_wpAt_execs_cons (ks_wpAt_Assign_Attr ?_ rfl)
  refine wpAt_of_wpAny (ldK hnL₄ eN (ldK hnL₄ eS ?_ hkF hkx) hkF hkn)
  refine set_plain X₄ (ox := excO C t1) (od := none) ⟨hx₄, rfl, rfl, trivial⟩ T.sa ?_
  refine exc_osa X₄ hx₄ hcl (show refsVE (.ref C :: bm) = true from hbm) rfl T.noN (fun h₅ tk₅ dx k₅ dn dne hx₅ hn₅ => ?_)
  have all : ∀ b o, b ≠ x → s.heap.get? b = some o → h₅.get? b = some o := fun b o hb e => k₅ b o hb (k₄ b o hb (k₃ _ _ (k₂ _ _ (k _ _ e))))
  have eL : ev.locals = s.heap.objs.size := by rw [← hev]
  have z : s.heap.objs.size < h₄.objs.size := eL ▸ hnL₄.lt
  have szz : s.heap.objs.size ≤ dx := Nat.le_of_lt (Nat.lt_of_lt_of_le z dn)
  refine wpAt_of_wpAny (wpAny_execs_nil (hq h₅ tk₅ dx ⟨all, ⟨t1, hx₅⟩, szz, dne, hn₅⟩))
theorem bad_made (T : BadTxt prog K mg C fI cc cda) {v : Value} (X : K.In s.heap) (hG : s.heap.Ns mainGlobals mg) (hB : s.heap.Ns builtinsNs mb) (hsb : mb "super" = bootBuiltins "super") (hlim : s.heap.NoLimit) (hroom : A.depth + 1 < recursionLimit)
    (hq : ∀ h' tk e d, OwnMade s.heap h' e C d v → R (.ok (.ret (.ref e))) { s with heap := h', toks := tk }) :
    codeAny (model prog w) A (.call (.ref C) ⟨[v], []⟩) R s := by
  obtain ⟨nm, q, N, bs, bm, sn, sub, ab, col, dd, k0, k1, k2, k3, k5, hC, hbm⟩ := T.cls
  obtain ⟨hp, g, dr, tk, os⟩ := s
  have k : ∀ b o, hp.get? b = some o → ((hp.push (kdv_tup [v])).push (excO C hp.objs.size)).get? b = some o := fun b o e => Heap.get?_push_of_some _ (Heap.get?_push_of_some _ e)
  have hget : ((hp.push (kdv_tup [v])).push (excO C hp.objs.size)).get? (hp.objs.size + 1) = some (excO C hp.objs.size) := by heap_get
  have hnx : K.lookup (hp.objs.size + 1) = none := by
    cases e : K.lookup (hp.objs.size + 1) with
    | none => rfl
    | some o =>
      have z : hp.get? (hp.objs.size + 1) = some o := X _ _ e
      exact absurd (Nat.lt_of_succ_lt (Heap.lt_size z)) (Nat.lt_irrefl _)
  refine call_own F.excBase_ValueError (fun X => refsVE_contains X bm hbm) (X _ _ hC) (looks_findIn X T.iC) (fun self => bind_fn X self T.tC) (one_size v) ?_
  refine bad_init (s := ⟨(hp.push (kdv_tup [v])).push (excO C hp.objs.size), g, dr, tk, os⟩) T (X.keeps k) (hG.keeps k) (hB.keeps k) hsb (hlim.keeps k) hget hnx ?_ fun h' tk' dx ⟨k', ⟨t1, hx⟩, dn, dne, hns⟩ => ?_
  · show A.depth + 1 < recursionLimit
    exact hroom
  · have old : ∀ b o, hp.get? b = some o → h'.get? b = some o := fun b o e => k' b o (Nat.ne_of_lt (Nat.lt_succ_of_lt (Heap.lt_size e))) (k b o e)
    have z : hp.objs.size + 1 + 1 ≤ dx := by
      first
        | (simpa only [Heap.size_push] using dn)
        | exact dn
        | (have q := dn; rw [Heap.size_push, Heap.size_push] at q; exact q)
    exact ⟨rfl, hq h' tk' (hp.objs.size + 1) dx ⟨old, Nat.le_succ _, ⟨_, _, hx, rfl, rfl, rfl, rfl⟩, Nat.le_trans (Nat.le_trans (Nat.le_succ _) (Nat.le_succ _)) z, dne, hns⟩⟩
end
end BadX
end PySem
namespace SR
open PySem PySem.Spec PyProof.Rows L2
theorem relO_bad {v : V} {v' : Value} (r : L2.RelV v v') (f : Str) : RelO (List.lookup f [(("name" : Str), v)]) (if f = "name" then some v' else none) := by
  by_cases hw : f = "name"
  · subst hw
    rw [if_pos rfl]
    have q : List.lookup ("name" : Str) [(("name" : Str), v)] = some v := by simp [List.lookup]
    rw [q]
    exact r
  · rw [if_neg hw]
    have qw : (f == ("name" : Str)) = false := by simpa using hw
    have q2 : List.lookup f [(("name" : Str), v)] = none := by simp [List.lookup, qw]
    rw [q2]
    trivial
section
variable {X : Cx} {C fI cc cda : Addr}
/-- BadArgument(e) -/
def tMkBad (C : Addr) (ta : TA) : L2.St → Hp → XK → Prop := fun σ H Q => ta σ H fun vs H1 => ∃ v, vs = [v] ∧ ∀ d, H1 d = none → Q (.ref C) (some d) (upd H1 d (.xd [(("name" : Str), v)]))
theorem pmk_bad {a : Expr} {ta : TA} {p pos : Pos} {k : Nat} (T : PySem.BadX.BadTxt X.prog X.K X.mg C fI cc cda) (hr : Room k X.A) (ha : PA X [a] ta) (hg : Gl X "BadArgument")
    (he : starEach (a :: []) X.env = (false, eval a X.env) :: starEach [] X.env) :
    PMk X (.Call (.Name "BadArgument" p) [a] [] pos) (tMkBad C ta) := by
  intro pins s σ H Q I h
  refine wpAny_Call_Name_kw (ld_glob I hg T.gC ?_)
  refine PySem.W.callWith_K (h₀ := X.base) I.ok.mod.kin T.kC (thn (ha.run pos pins s σ H _ I h) fun us s1 hh => ?_) he rfl
  obtain ⟨vs, H1, I1, r1, v, ev, q1⟩ := hh
  subst ev
  refine ⟨I1.kIn, ?_⟩
  cases r1 with
  | cons rv rn =>
    rename_i v' us'
    cases rn
    show wpAny _ _ (call (.ref C) [v']) _ _ _
    have hlim := I1.nolimit
    obtain ⟨mb, hB, hbb⟩ := I1.ok.mod.blt
    have hB1 := hB.keeps I1.bk
    have hG1 := I1.ok.mod.glob.keeps I1.bk
    obtain ⟨hp, g, dr, tk, os⟩ := s1
    refine wpAny_call (PySem.BadX.bad_made T I1.kIn hG1 hB1 (hbb _ (by decide)) hlim (by have := hr.dp; omega) fun h' tk' e d M => ?_)
    show MkP X pins σ Q (.ref e) ⟨h', g, dr, tk', os⟩
    obtain ⟨oe, fv, hoe, hc, hd, hdat, h1⟩ := M.obj
    have hns := M.ns
    obtain ⟨G', g1, g2⟩ := restrict h' fun b => decide (b ≠ e)
    have gk : ∀ b, b ≠ e → G'.get? b = h'.get? b := fun b hb => g1 b (decide_eq_true hb)
    have ge : G'.get? e = none := g2 e (by simp)
    have old : ∀ b o, hp.get? b = some o → G'.get? b = some o := fun b o q => (gk b (Nat.ne_of_lt (Nat.lt_of_lt_of_le (Heap.lt_size q) M.new))).trans (M.keep b o q)
    have ob : ObjOk X.prog X.w (upd H1 d (.xd [(("name" : Str), v)])) G' d (.xd [(("name" : Str), v)]) :=
      ⟨_, hns.at (fun o q => (gk d M.dne).trans q), fun f => relO_bad rv f⟩
    have J : Inv X pins σ (upd H1 d (.xd [(("name" : Str), v)])) ⟨G', g, dr, tk', os⟩ := I1.laid (t' := tk') old M.dbig ob
    refine ⟨e, oe, fv, ⟨G', g, dr, tk', os⟩, _, .ref C, some d, rfl, J, fun b o q => ?_, ge, hoe, ⟨hc, hd⟩, hdat, h1, ?_, rfl, I1.bare, raises_own T.exC T.tyC, q1 d (I1.hok.fresh M.dbig)⟩
    · by_cases hb : b = e
      · have q' : G'.get? b = some o := q
        rw [hb, ge] at q'; cases q'
      · exact (gk b hb).symm.trans q
    · rw [upd_ne (Ne.symm M.dne)]
      exact I1.hok.fresh M.new
theorem ps_raiseBad {a : Expr} {ta : TA} {W : WX} {p pos pos2 : Pos} {k : Nat} (hc : X.calm = true) (T : PySem.BadX.BadTxt X.prog X.K X.mg C fI cc cda) (hr : Room k X.A) (tk : Takes X W) (ha : PA X [a] ta) (hg : Gl X "BadArgument")
    (he : starEach (a :: []) X.env = (false, eval a X.env) :: starEach [] X.env) :
    PS X (.Raise (some (.Call (.Name "BadArgument" p) [a] [] pos)) none pos2) (fun _ σ H => tMkBad C ta σ H fun cls d H' => W cls d σ H') := ps_raise hc tk (pmk_bad T hr ha hg he)
/-- e.name, e the exception that the suite holds (at a; its class cls, its dict d) -/
def tNameOf (C : Addr) (a : Addr) (cls : Value) (d : Option Addr) (te : TE) : TE := fun σ H Q => te σ H fun x H1 => x = .ref a ∧ cls = .ref C ∧ ∃ (dd : Addr) (v : V), d = some dd ∧ H1 dd = some (.xd [(("name" : Str), v)]) ∧ Q v H1
theorem pe_nameOf {a : Addr} {oe : Obj} {cls : Value} {d : Option Addr} {pn : List (Addr × Obj)} {e : Expr} {te : TE} {pos : Pos} (T : PySem.BadX.BadTxt X.prog X.K X.mg C fI cc cda) (hz : Zc cls d oe) (hf : ∃ vs, oe.data = .fields vs) (he : PE (X.suite a ((a, oe) :: pn)) e te)
    (hb : attributeBase e "name" X.env (eval e X.env) = eval e X.env) :
    PE (X.suite a ((a, oe) :: pn)) (.Attribute e "name" pos) (tNameOf C a cls d te) := by
  refine ⟨fun pins s σ H Q I h => ?_⟩
  refine attr_of hb (thn (he.run pins s σ H _ I h) fun u s1 hh => ?_)
  obtain ⟨x, H1, I1, rx, ex, ec, dd, v, ed, ea, q⟩ := hh
  subst ex
  obtain rfl : u = Value.ref a := rx
  subst ec
  subst ed
  obtain ⟨ha, _⟩ := I1.pin (a, oe) (List.mem_append_left _ List.mem_cons_self)
  obtain ⟨vs, hd⟩ := hf
  have hx : ObjOk X.prog X.w H1 s1.heap dd (.xd [(("name" : Str), v)]) := I1.hok dd _ ea
  obtain ⟨mA, hns, hr⟩ := hx
  obtain ⟨od, ho, hl⟩ := lookIn_ns hns
  have l : List.lookup ("name" : Str) [(("name" : Str), v)] = some v := by simp [List.lookup]
  obtain ⟨u, hu, ru⟩ := RelO.some_of (v := v) (o := mA "name") (by rw [← l]; exact hr "name")
  have J : PySem.W.InstAt s1.heap a oe C (some od) := ⟨ha, hz.1, by unfold PySem.W.notCls; rw [hd] <;> rfl, by rw [hz.2]; exact ho⟩
  exact HandSPX.exc_get I1.kIn J T.ga T.gg T.exC (PySem.W.findObj_own T.hdC T.noN rfl (by rw [hl, hu])) (handed_of ru) ⟨v, H1, I1.tok _, ru, q⟩
end
end SR
/-! The engine, part R: what is refused (a lambda handed to _law_refused), raise BadArgument(e). -/
namespace SR
open PySem PySem.Spec PyProof.Rows L2 RZ PySem.BadX
/-! ### the text of _law_refused -/
def rA (p : Pos) : Arguments := { posonlyargs := [], args := [{ arg := "call", annotation := none, pos := p }], vararg := none, kwonlyargs := [], kw_defaults := [], kwarg := none, defaults := [] }
def rB (p1 p2 p3 p4 p5 p6 p7 p8 p9 pa pb : Pos) : List Stmt :=
  [.Try [.Expr (.Call (.Name "call" p1) [] [] p2) p3] [.ExceptHandler (some (.Name "BadArgument" p4)) (some "e") [.Return (some (.Attribute (.Name "e" p5) "name" p6)) p7] p8] [] [] p9, .Return (some (.Constant (.str "") 0 pa)) pb]
def rS : Scope := { kind := .function, names := [(PySem.Str.ofString "call", .local), (PySem.Str.ofString "e", .local), (PySem.Str.ofString "BadArgument", .globalImplicit)], isGenerator := false, isCoroutine := false, more := [] }
structure RefTxt (K : PySem.W.Frag) (mg : Str → Option Value) (g : Addr) : Prop where
  hm : mg "_law_refused" = some (.ref g)
  hk : PySem.W.keepIn K (.ref g) = true
  ex : ∃ (oc kV doc pm cdv ct : Value) (od an : Option Addr) (osl : Array (Option Value)) (p0 p1 p2 p3 p4 p5 p6 p7 p8 p9 pa pb : Pos),
    K.lookup g = some ⟨oc, od, .func (PySem.W.fnOf "_law_refused" "_law_refused" (rA p0) (rB p1 p2 p3 p4 p5 p6 p7 p8 p9 pa pb) rS .none kV doc pm an cdv ct), osl⟩ ∧ PySem.W.codeIn K cdv "_law_refused" = true
/-- what _law_refused makes of the lambda's reading -/
def TTref (K : PySem.W.Frag) (C : Addr) : (XK → Hp → VK → Prop) → Hp → VK → Prop := fun tl H Q =>
  tl (fun cls d H' => ∃ b, PySem.W.exmOne K cls (.ref C) = some b ∧ (b = true → cls = .ref C ∧ ∃ (dd : Addr) (v : V), d = some dd ∧ H' dd = some (.xd [(("name" : Str), v)]) ∧ Q v H') ∧ (b = false → False)) H fun _ H' => Q (.str "") H'
section
variable {X : Cx} {G : Gx} {Wx : WX} {fs : List FI} {C fI cc cda : Addr}
theorem suite_name {Z : Cx} {a : Addr} {oe : Obj} {cls : Value} {d : Option Addr} {pn : List (Addr × Obj)} {p5 p6 p7 : Pos} (T : BadTxt Z.prog Z.K Z.mg C fI cc cda) (hN : Z.N[1]? = some ("e" : Str)) (hk : Z.env.scope.names.lookup ("e" : Str) = some .local) (hz : Zc cls d oe) (hf : ∃ vs, oe.data = .fields vs) :
    PSs (Z.suite a ((a, oe) :: pn)) [.Return (some (.Attribute (.Name "e" p5) "name" p6)) p7] (fun D σ H => σ.length = Z.N.length → tNameOf C a cls d (tVar 1) σ H D.rt) := by
  have q := pss_one (ps_ret (pos := p7) (pe_nameOf (pos := p6) T hz hf (pe_var (X := Z.suite a ((a, oe) :: pn)) (pos := p5) (i := 1) hN (.inl hk)) rfl))
  exact ⟨fun pins s σ H D I h => q.run pins s σ H D I (h I.len)⟩
theorem refused_gives {q : Str} {g : Addr} {cdg : Value} {p1 p2 p3 p4 p5 p6 p7 p8 p9 pa pb : Pos} (T : BadTxt X.prog X.K X.mg C fI cc cda) :
    LamX.GivesTo X ["call", "e"] "_law_refused" rS g cdg (rB p1 p2 p3 p4 p5 p6 p7 p8 p9 pa pb) "call" q (TTref X.K C) := by
  intro f c' s H Q tl act hc h
  have hgl : Gl (cxOf C8.CX0 X.prog X.w X.K X.mg X.base ["call", "e"] "_law_refused" rS g cdg X.A X.stack s H C8.E0).nox "BadArgument" := by
    show rS.names.lookup ("BadArgument" : Str) = _
    first | rfl | decide
  have hnd : (["call", "e"] : List Str).Nodup := by decide
  have hkl : (cxOf C8.CX0 X.prog X.w X.K X.mg X.base ["call", "e"] "_law_refused" rS g cdg X.A X.stack s H C8.E0).nox.env.kindOf "e" = some .local := by
    show rS.names.lookup ("e" : Str) = _
    first | rfl | decide
  refine ⟨_, pss_cons (ps_try_as (X := (cxOf C8.CX0 X.prog X.w X.K X.mg X.base ["call", "e"] "_law_refused" rS g cdg X.A X.stack s H C8.E0).nox) (c := .ref C) (i := 1)
      (tb := fun W D σ H => ∃ Ech : XK, (∀ cls d σ' H', Ech cls d H' → W cls d σ' H') ∧ σ[0]? = some (some (.ref f)) ∧ H c' = some (LamX.CodeO c' q) ∧ tl Ech H (fun _ H1 => D.nx σ H1))
      (ts := fun a cls d D σ H => σ.length = 2 → tNameOf C a cls d (tVar 1) σ H D.rt) (Wout := fun _ _ _ _ => False)
      rfl rfl hnd rfl hkl ⟨hgl, by decide, .inl T.gC⟩ LamX.takes0 (fun W pn xe tk _ => ?_) (fun a oe cls d pn hz hf => ?_)) (pss_one (ps_ret pe_str)), ?_⟩
  · refine ⟨fun pins s' σ H' D I h' => ?_⟩
    obtain ⟨Ech, hW, h1, h2, h3⟩ := h'
    have hp := act W pn xe Ech p1 p2 tk hW
    have hq := pss_one (ps_expr (pos := p3) hp rfl)
    exact hq.run pins s' σ H' D I ⟨h1, h2, h3⟩
  · exact suite_name (Z := (cxOf C8.CX0 X.prog X.w X.K X.mg X.base ["call", "e"] "_law_refused" rS g cdg X.A X.stack s H C8.E0).nox) T rfl hkl hz hf
  · exact ⟨fun cls d H' => ∃ b, PySem.W.exmOne X.K cls (.ref C) = some b ∧ (b = true → cls = .ref C ∧ ∃ (dd : Addr) (v : V), d = some dd ∧ H' dd = some (.xd [(("name" : Str), v)]) ∧ Q v H') ∧ (b = false → False),
      fun cls d σ' H' ⟨b, e1, e2, e3⟩ => ⟨b, e1, fun hb a ha => by
        obtain ⟨ec, dd, v, ed, eh, q⟩ := e2 hb
        intro hl
        rw [List.length_set] at hl
        exact ⟨.ref a, List.getElem?_set_self (by omega), rfl, ec, dd, v, ed, eh, q⟩, fun hb => e3 hb⟩, rfl, hc, h⟩
/-! ### _law_refused(lambda: ..) -/
structure LamOk (X : Cx) (G : Gx) : Prop where
  ex : ∃ (g C fI cc cda c P : Addr), RefTxt X.K X.mg g ∧ BadTxt X.prog X.K X.mg C fI cc cda ∧ G.ex 0 = some (C, ("name" : Str)) ∧ LamX.TabB X.base X.mg c P ∧ X.env.code = .ref c ∧ (P, X.env.qual ++ "<lambda>") ∈ G.T ∧ ∀ p ∈ G.T, p.1 = P → p.2 = X.env.qual ++ "<lambda>"
def noArgs : Arguments := { posonlyargs := [], args := [], vararg := none, kwonlyargs := [], kw_defaults := [], kwarg := none, defaults := [] }
theorem se_refused {k : Nat} {p lpos pos : Pos} {body : Expr} {scope : Scope} {ce : CE} (L : LamOk X G) (hr : Room (k + 2) X.A) (hg : Gl X "_law_refused") (LS : LamX.LamS X.env.scope scope)
    (hbody : ∀ (A : Around) (outer : List Env) (s : Shared) (H : Hp) (E : XK) (f c' : Addr), Room k (A.deeper (LamX.lamEnv X scope s.heap.objs.size f c')) → SE (LamX.lamCx X A outer s H E scope f c') G (fun cls d _ H' => E cls d H') body (evE fs ce)) :
    SE X G Wx (.Call (.Name "_law_refused" p) [.Lambda noArgs body scope lpos] [] pos) (evE fs (.refused ce)) := by
  obtain ⟨g, C, fI, cc, cda, c, P, RT, T, hex, TB, hcode, hmT, hu⟩ := L.ex
  obtain ⟨oc, kV, doc, pm, cdv, ct, od, an, osl, p0, p1, p2, p3, p4, p5, p6, p7, p8, p9, pa, pb, lk, hcg⟩ := RT.ex
  have Sg : FnScope ["call", "e"] ["call"] rS := ⟨rfl, rfl, rfl, by decide, rfl, by decide, by decide⟩
  refine pe_imp (LamX.pe_lamcall (a := "call") (T := G.T) (t := fun E => tOf X.K G (fun cls d _ H' => E cls d H') (evE fs ce)) hg RT.hm RT.hk lk hcg (.all fun us hl => match us, hl with | [_], _ => rfl) Sg rfl (.inl (by first | rfl | decide)) (refused_gives T) TB hcode hmT hu hr LS rfl (fun _ _ _ _ _ => rfl) hbody (by decide) (show (("call" : Str) == ("__debug__" : Str)) = false by decide) (show (("call" : Str) == ("__classdict__" : Str)) = false by decide)) ?_
  rintro σ H Q ⟨F, r, R, h⟩
  simp only [evE] at h
  refine ⟨R.tabs, fun H1 e t => ?_⟩
  have R1 := R.tabled e t
  have S1 : Stp NoZ F r σ H F r σ H1 := step_tabled e
  refine ⟨F, r, R1, ?_⟩
  cases ev : evE fs ce r with
  | ok w r1 =>
    rw [ev] at h
    exact fun F' H' R' S' v rv fv => h F' H' R' (S1.trans0 S') (.str "") (.str "") trivial
  | bad => rw [ev] at h; exact h.elim
  | err n q r1 =>
    rw [ev] at h
    cases n with
    | succ n => exact h.elim
    | zero =>
      intro F' H' cls d R' S' ⟨C', at_, v, e1, e2, e3, e4⟩
      rw [hex] at e1
      cases e1
      subst e2
      exact ⟨true, T.te, fun _ => ⟨rfl, d, v, rfl, e3, h F' H' R' (S1.trans0 S') v e4 trivial⟩, fun z => by cases z⟩
/-- raise BadArgument(e) -/
theorem ss_rais {k : Nat} {e : Expr} {te : Sl → R W} {p pos pos2 : Pos} (hc : X.calm = true) (hx : ∃ (C fI cc cda : Addr), BadTxt X.prog X.K X.mg C fI cc cda ∧ G.ex 0 = some (C, ("name" : Str))) (hr : Room k X.A) (tk : Takes X Wx) (hg : Gl X "BadArgument") (he : SE X G Wx e te)
    (h1 : starEach [e] X.env = (false, eval e X.env) :: starEach [] X.env) : SS X G Wx (.Raise (some (.Call (.Name "BadArgument" p) [e] [] pos)) none pos2) (fun r => (te r).sr fun w r1 => match keepW r1 w with
    | some (x, r2) => .err 0 x r2
    | none => .bad) := by
  obtain ⟨C, fI, cc, cda, T, hex⟩ := hx
  refine ps_imp (ps_raiseBad hc T hr tk (pa_cons he pa_nil h1) hg h1) ?_
  rintro E σ H ⟨F, r, R, h⟩
  refine ⟨F, r, R, (PostS.un Stp.refl h).mono fun w r1 F1 H1 ⟨R1, S1, S1', h1⟩ v rv fv => ⟨v, rfl, fun d hd => ?_⟩⟩
  split at h1
  · rename_i x r2 ek
    obtain ⟨F2, R2, S02, p2⟩ := R1.kept' S1 rv fv ek
    have sm : Same H1 (upd H1 d (.xd [(("name" : Str), v)])) := same_upd hd
    have R3 := R2.grown sm (R2.tabs.ext fun b o q => sm b o q)
    exact h1 F2 σ _ _ d R3 (S02.trans0 (step_grown sm)) ⟨C, ("name" : Str), v, hex, rfl, upd_same, p2⟩
  · exact h1.elim
end
end SR
/-! The engine, part B: side facts by the form alone; targets; the checker's context. -/
namespace SR
open PySem PySem.Spec PyProof.Rows L2 RZ
/-! ### facts by the form of an expression -/
def noStar : Expr → Bool
  | .Starred _ _ => false
  | _ => true
def noStars : List Expr → Bool
  | [] => true
  | e :: es => noStar e && noStars es
theorem star_ok {e : Expr} {es : List Expr} {env : Env} (h : noStar e = true) : starEach (e :: es) env = (false, eval e env) :: starEach es env := by
  cases e <;> first | rfl | cases h
theorem star_any {env : Env} {pos : Pos} : ∀ {es : List Expr}, noStars es = true → (backTo pos (starEach es env)).any (·.1) = false
  | [], _ => rfl
  | e :: es, h => by
    simp only [noStars, Bool.and_eq_true] at h
    rw [star_ok h.1]
    have q := star_any (env := env) (pos := pos) h.2
    unfold backTo at q ⊢
    rw [List.map_cons, List.any_cons, q]
    rfl
def kwNamed : List Keyword → Bool
  | [] => true
  | k :: ks => k.arg.isSome && kwNamed ks
theorem kw_each {env : Env} {pos : Pos} : ∀ {ks : List Keyword}, kwNamed ks = true → (backToKw pos (keywordEach ks env)).all (·.1.isSome) = true ∧ (backToKw pos (keywordEach ks env)).filterMap (·.1) = ks.filterMap (·.arg) ∧ (backToKw pos (keywordEach ks env)).any (·.1.isNone) = false
  | [], _ => ⟨rfl, rfl, rfl⟩
  | ⟨n, e, p⟩ :: ks, h => by
    simp only [kwNamed, Bool.and_eq_true] at h
    obtain ⟨q1, q2, q3⟩ := kw_each (env := env) (pos := pos) h.2
    cases n with
    | none => cases h.1
    | some n =>
      refine ⟨?_, ?_, ?_⟩
      · show (true && _) = true
        rw [Bool.true_and]
        exact q1
      · show n :: _ = n :: _
        exact congrArg _ q2
      · show (false || _) = false
        rw [Bool.false_or]
        exact q3
def plainT : Expr → Bool
  | .UnaryOp .Not _ _ => false
  | .BoolOp _ _ _ => false
  | .IfExp _ _ _ _ => false
  | .Compare _ _ _ _ => false
  | _ => true
theorem plainT_ok {e : Expr} {env : Env} (h : plainT e = true) : ∀ whole, isTrue e env whole = (do let v ← whole; standAt e.pos; holding [v] (truthy v)) := by
  cases e with
  | UnaryOp op x p => cases op <;> first | (intro; rfl) | cases h
  | BoolOp _ _ _ => cases h
  | IfExp _ _ _ _ => cases h
  | Compare _ _ _ _ => cases h
  | _ => intro; rfl
def isIf : Expr → Bool
  | .IfExp _ _ _ _ => true
  | _ => false
def isBo : Expr → Bool
  | .BoolOp _ _ _ => true
  | _ => false
def notSlice : Expr → Bool
  | .Slice _ _ _ _ => false
  | _ => true
theorem plainIx {e : Expr} (h : notSlice e = true) : PlainIx e := by
  cases e <;> first | (intro o i; rfl) | cases h
def notSet : Expr → Bool
  | .Set _ _ _ => false
  | _ => true
theorem notSet_ok {e : Expr} {env : Env} (h : notSet e = true) : ∀ x, foldedSetIterable e env x = pure x := by
  cases e <;> first | (intro x; rfl) | cases h
def notComp : Expr → Bool
  | .ListComp _ _ _ _ => false
  | .SetComp _ _ _ _ => false
  | .DictComp _ _ _ _ _ => false
  | _ => true
theorem sw_no {e : Expr} {t : Option Expr} {l : Nat} {env : Env} (h : notComp e = true) : swapsWith e t l env = pure false := by
  cases e <;> first | rfl | cases h
theorem sw_comp {elt : Expr} {gs : List Comprehension} {scope : Scope} {pos py : Pos} {y : Str} {l : Nat} {env : Env} (hk : env.scope.kind = .function) :
    swapsWith (.ListComp elt gs scope pos) (some (.Name y py)) l env = pure (env.kindOf y == some .local && py.line == pos.line && !(scope.names.any fun (n, k) => n == y && (k == .local || k == .cell))) := by
  have hb : env.blockKind = .function := by unfold Env.blockKind; rw [hk]; rfl
  unfold swapsWith
  simp only [hb, Expr.pos]
  rfl
def notDbg (x : Str) : Bool := !(x == ("__debug__" : Str)) && !(x == ("__classdict__" : Str))
theorem notDbg_ok {x : Str} (h : notDbg x = true) : (x == ("__debug__" : Str)) = false ∧ (x == ("__classdict__" : Str)) = false := by
  simp only [notDbg, Bool.and_eq_true, Bool.not_eq_true'] at h
  exact h
/-! ### data, by form -/
mutual
def dEq : D → D → Bool
  | .none, .none => true
  | .bool a, .bool b => decide (a = b)
  | .int a, .int b => decide (a = b)
  | .str a, .str b => decide (a = b)
  | .list a, .list b => dEqL a b
  | .tuple a, .tuple b => dEqL a b
  | _, _ => false
def dEqL : List D → List D → Bool
  | [], [] => true
  | x :: xs, y :: ys => dEq x y && dEqL xs ys
  | _, _ => false
end
mutual
theorem dEq_ok : ∀ {x y : D}, dEq x y = true → x = y
  | .none, y, h => by cases y <;> first | rfl | (simp [dEq] at h)
  | .bool a, y, h => by cases y <;> simp [dEq] at h; subst h; rfl
  | .int a, y, h => by cases y <;> simp [dEq] at h; subst h; rfl
  | .str a, y, h => by cases y <;> simp [dEq] at h; subst h; rfl
  | .list a, y, h => by cases y <;> simp [dEq] at h; rw [dEqL_ok h]
  | .tuple a, y, h => by cases y <;> simp [dEq] at h; rw [dEqL_ok h]
  | .dict a, y, h => by cases y <;> simp [dEq] at h
theorem dEqL_ok : ∀ {x y : List D}, dEqL x y = true → x = y
  | [], y, h => by cases y <;> simp [dEqL] at h; rfl
  | x :: xs, y, h => by
    cases y with
    | nil => simp [dEqL] at h
    | cons y ys =>
      simp only [dEqL, Bool.and_eq_true] at h
      rw [dEq_ok h.1, dEqL_ok h.2]
end
/-- a constant of the text -/
def litB : Const → D → Bool
  | .none, .none => true
  | .bool a, .bool b => decide (a = b)
  | .int a, .int b => decide (a = b)
  | .str a, .str b => decide (a = b)
  | _, _ => false
/-! ### the context -/
/-- what is fixed ahead of a def's body -/
structure SC where
  N : List Str
  sc : Scope
  fnS : Str → Bool
  fs : List FI
  cs : List (Str × D)
  nb : List Str
  lv : Nat
  lam : Bool
  bad : Bool
def visB (S : SC) (x : Str) : Bool := match S.sc.names.lookup x with
  | some .local => true
  | some .cell => true
  | some .free => true
  | _ => false
def locB (S : SC) (x : Str) : Bool := match S.sc.names.lookup x with
  | some .local => true
  | some .cell => S.fnS x
  | _ => false
def glB (S : SC) (x : Str) : Bool := match S.sc.names.lookup x with
  | some .globalImplicit => true
  | _ => false
def nmB (S : SC) (i : Nat) (x : Str) : Bool := decide (S.N[i]? = some x)
structure COk (X : Cx) (G : Gx) (Wx : WX) (S : SC) : Prop where
  hN : X.N = S.N
  nd : S.N.Nodup
  scp : X.env.scope = S.sc
  kind : S.sc.kind = .function
  calm : X.calm = true
  tk : Takes X Wx
  room : Room S.lv X.A
  funs : ∀ f ∈ S.fs, FunOk X G f
  cons : ∀ q ∈ S.cs, ∃ u v, X.mg q.1 = some u ∧ RelV v u ∧ ∀ F, Rp X.K F v q.2
  nob : ∀ x ∈ S.nb, X.mg x = none
  hfn : ∀ x, S.fnS x = true → X.fn x = true
  hlam : S.lam = true → LamOk X G
  hbad : S.bad = true → ∃ (C fI cc cda : Addr), BadX.BadTxt X.prog X.K X.mg C fI cc cda ∧ G.ex 0 = some (C, ("name" : Str))
section
variable {X : Cx} {G : Gx} {Wx : WX} {S : SC}
theorem COk.vis {x : Str} (C : COk X G Wx S) (h : visB S x = true) : Vis X.env.scope x := by
  rw [C.scp]
  unfold visB at h
  split at h
  · rename_i q; exact .inl q
  · rename_i q; exact .inr (.inl q)
  · rename_i q; exact .inr (.inr q)
  · cases h
theorem COk.loc {x : Str} (C : COk X G Wx S) (h : locB S x = true) : Loc X.env.scope x ∧ (X.fn x = true ∨ X.env.scope.names.lookup x = some .local) := by
  rw [C.scp]
  unfold locB at h
  split at h
  · rename_i q; exact ⟨.inl q, .inr q⟩
  · rename_i q; exact ⟨.inr q, .inl (C.hfn x h)⟩
  · cases h
theorem COk.gl {x : Str} (C : COk X G Wx S) (h : glB S x = true) : Gl X x := by
  unfold Gl Env.kindOf
  rw [C.scp]
  unfold glB at h
  split at h
  · rename_i q; exact q
  · cases h
theorem COk.nm {i : Nat} {x : Str} (C : COk X G Wx S) (h : nmB S i x = true) : X.N[i]? = some x := by
  rw [C.hN]
  exact of_decide_eq_true h
theorem COk.hu (C : COk X G Wx S) : X.A.units + 64 < cLine := C.room.units
theorem COk.nd' (C : COk X G Wx S) : X.N.Nodup := by rw [C.hN]; exact C.nd
/-- in a comprehension's block -/
def SC.blk (S : SC) (scope : Scope) : SC := { S with sc := relS scope S.sc, fnS := fun x => scope.names.lookup x == some .cell, lam := false }
/-- in a lambda's body -/
def SC.lamC (S : SC) (scope : Scope) : SC := { S with sc := scope, fnS := fun _ => false, lv := S.lv - 2, lam := false }
theorem takes_blk {X : Cx} : Takes X noW := fun u s' ⟨_, _, _, _, _, _, _, _, _, _, _, _, _, _, _, _, w⟩ => w.elim
theorem COk.blk (C : COk X G Wx S) {scope : Scope} (hk : scope.kind = .function) (s : Shared) (H : Hp) (A : Addr) (cl : List (Str × Addr)) (fp : List Addr) : COk (X.blk s H scope (compEnvC scope cl A X.env) fp) G noW (S.blk scope) where
  hN := C.hN
  nd := C.nd
  scp := by
    show relabel scope X.env = relS scope S.sc
    rw [← C.scp]
    unfold relabel relS Env.kindOf
    rfl
  kind := hk
  calm := C.calm
  tk := takes_blk
  room := C.room
  funs := fun f hf => ⟨(C.funs f hf).lpl, (C.funs f hf).ex⟩
  cons := C.cons
  nob := C.nob
  hfn := fun x h => h
  hlam := fun h => by cases h
  hbad := C.hbad
theorem COk.lamd (C : COk X G Wx S) {scope : Scope} (hk : scope.kind = .function) {A : Around} {outer : List Env} {s : Shared} {H : Hp} {E : XK} {f c' : Addr} (hr : Room (S.lv - 2) (A.deeper (LamX.lamEnv X scope s.heap.objs.size f c'))) : COk (LamX.lamCx X A outer s H E scope f c') G (fun cls d _ H' => E cls d H') (S.lamC scope) where
  hN := C.hN
  nd := C.nd
  scp := rfl
  kind := hk
  calm := rfl
  tk := takes_of rfl rfl rfl rfl
  room := hr
  funs := fun f hf => ⟨(C.funs f hf).lpl, (C.funs f hf).ex⟩
  cons := C.cons
  nob := C.nob
  hfn := fun x h => by cases h
  hlam := fun h => by cases h
  hbad := C.hbad
def isNoArgs : Arguments → Bool
  | ⟨[], [], none, [], [], none, []⟩ => true
  | _ => false
theorem isNoArgs_ok {a : Arguments} (h : isNoArgs a = true) : a = noArgs := by
  unfold isNoArgs at h
  split at h
  · rfl
  · cases h
/-! ### targets -/
def chkG (S : SC) : Tg → Expr → Bool
  | .nm i, e => match e with
    | .Name x _ => nmB S i x && locB S x
    | _ => false
  | .tp ts, e => match e with
    | .Tuple es _ _ => chkGs S ts es
    | _ => false
where
  chkGs (S : SC) : Tgs → List Expr → Bool
    | .nil, es => match es with
      | [] => true
      | _ => false
    | .cons t ts, es => match es with
      | e :: es' => noStar e && chkG S t e && chkGs S ts es'
      | _ => false
def lenTg : Tgs → Nat
  | .nil => 0
  | .cons _ ts => lenTg ts + 1
theorem assign_each {e : Expr} {es : List Expr} {env : Env} (h : noStar e = true) : assignEach (e :: es) env = (false, assign e env) :: assignEach es env := by
  cases e <;> first | rfl | cases h
theorem sgs_nil : PGs X [] (tgsOf X.K G [] (setTgs .nil)) := by
  refine pgs_imp pgs_nil ?_
  rintro vs σ H Q ⟨F, r, ds, r2, R, h, e, q⟩
  cases ds with
  | nil =>
    simp only [setTgs, Option.some.injEq] at e
    subst e
    exact ⟨h.nilR, q σ R Stp.refl (fun _ _ => rfl) rfl⟩
  | cons d ds => simp [setTgs] at e
theorem sgs_cons {t : Tg} {ts : Tgs} {e : Expr} {es : List Expr} (hn : noStar e = true) (h1 : PG X e (tgOf X.K G (tgS t) (setTg t))) (h2 : PGs X es (tgsOf X.K G (tgsS ts) (setTgs ts))) : PGs X (e :: es) (tgsOf X.K G (tgsS (.cons t ts)) (setTgs (.cons t ts))) := by
  refine pgs_imp (pgs_cons h1 h2 (by rw [assign_each hn]; rfl)) ?_
  rintro vs σ H Q ⟨F, r, ds, r2, R, h, e, q⟩
  cases ds with
  | nil => simp [setTgs] at e
  | cons d ds =>
    simp only [setTgs] at e
    split at e
    · rename_i r1 e1
      cases h with
      | cons a b =>
        refine ⟨_, _, rfl, F, r, d, r1, R, a, e1, fun σ2 R2 S2 hσ hl => ⟨F, r1, ds, r2, R2, b, e, fun σ3 R3 S3 hσ3 hl3 => q σ3 R3 (S2.trans0 S3) (fun i hi => ?_) (hl3.trans hl)⟩⟩
        have hi' : i ∉ tgS t ++ tgsS ts := hi
        rw [hσ3 i (fun m => hi' (List.mem_append_right _ m)), hσ i (fun m => hi' (List.mem_append_left _ m))]
    · cases e
theorem setTgs_len : ∀ {ts : Tgs} {ds : List D} {r r2 : Sl}, setTgs ts ds r = some r2 → ds.length = lenTg ts
  | .nil, ds, _, _, e => by cases ds <;> simp [setTgs] at e; rfl
  | .cons t ts, ds, _, _, e => by
    cases ds with
    | nil => simp [setTgs] at e
    | cons d ds =>
      simp only [setTgs] at e
      split at e
      · exact congrArg Nat.succ (setTgs_len e)
      · cases e
theorem sg_tup {ts : Tgs} {es : List Expr} {k : Nat} {pos : Pos} (hc : X.calm = true) (h : PGs X es (tgsOf X.K G (tgsS ts) (setTgs ts))) (hl : (assignEach es X.env).length = lenTg ts) (hst : (assignEach es X.env).findIdx? (·.1) = none) :
    PG X (.Tuple es k pos) (tgOf X.K G (tgS (.tp ts)) (setTg (.tp ts))) := by
  refine pg_imp (pg_tup hc h rfl hst) ?_
  rintro v σ H Q ⟨F, r, d, r2, R, h, e, q⟩
  simp only [setTg] at e
  cases d with
  | tuple l =>
    cases h with
    | tup a b =>
      have e : setTgs ts l r = some r2 := e
      exact ⟨_, _, rfl, sqT_mono R.sub a, by rw [hl, RpAll.len b, setTgs_len e], F, r, l, r2, R, b, e, q⟩
  | _ => cases e
theorem okGs_form {S : SC} {env : Env} : ∀ {ts : Tgs} {es : List Expr}, chkG.chkGs S ts es = true → (assignEach es env).length = lenTg ts ∧ (assignEach es env).findIdx? (·.1) = none
  | .nil, es, h => by
    cases es with
    | nil => exact ⟨rfl, rfl⟩
    | cons _ _ => simp [chkG.chkGs] at h
  | .cons t ts, es, h => by
    cases es with
    | nil => simp [chkG.chkGs] at h
    | cons e es =>
      simp only [chkG.chkGs, Bool.and_eq_true] at h
      obtain ⟨q1, q2⟩ := okGs_form (env := env) h.2
      rw [assign_each h.1.1]
      refine ⟨congrArg Nat.succ q1, ?_⟩
      rw [List.findIdx?_cons, q2]
      rfl
mutual
theorem okG (C : COk X G Wx S) : ∀ {t : Tg} {e : Expr}, chkG S t e = true → PG X e (tgOf X.K G (tgS t) (setTg t))
  | .nm i, e, h => by
    simp only [chkG] at h
    split at h
    · simp only [Bool.and_eq_true] at h
      exact sg_name C.nd' (C.nm h.1) (C.loc h.2).1 (C.loc h.2).2
    · cases h
  | .tp ts, e, h => by
    simp only [chkG] at h
    split at h
    · have z := okGs_form (env := X.env) h
      exact sg_tup C.calm (okGs C h) z.1 z.2
    · cases h
theorem okGs (C : COk X G Wx S) : ∀ {ts : Tgs} {es : List Expr}, chkG.chkGs S ts es = true → PGs X es (tgsOf X.K G (tgsS ts) (setTgs ts))
  | .nil, es, h => by
    cases es with
    | nil => exact sgs_nil
    | cons _ _ => simp [chkG.chkGs] at h
  | .cons t ts, es, h => by
    cases es with
    | nil => simp [chkG.chkGs] at h
    | cons e es =>
      simp only [chkG.chkGs, Bool.and_eq_true] at h
      exact sgs_cons h.1.1 (okG C h.1.2) (okGs C h.2)
end
end
end SR
/-! The engine, part C: the checker of expressions, and that it is right. -/
namespace SR
open PySem PySem.Spec PyProof.Rows L2 RZ
/-- as a value, as a test, as a test whatever its whole is -/
structure Good (X : Cx) (G : Gx) (Wx : WX) (e : Expr) (te : Sl → R W) : Prop where
  se : SE X G Wx e te
  st : isIf e = false → ST X G Wx e te
  sw : isBo e = true → L2.PW X e (tOfT X.K G Wx te)
section
variable {X : Cx} {G : Gx} {Wx : WX} {S : SC}
theorem Good.of {e : Expr} {te : Sl → R W} (h : SE X G Wx e te) (hp : plainT e = true) : Good X G Wx e te :=
  ⟨h, fun _ => st_val h (fun _ _ _ _ => .inr trivial) (plainT_ok hp), fun hb => by cases e <;> first | (cases hb; done) | (cases hp; done)⟩
theorem pw_imp {e : Expr} {t t' : TT} (h : L2.PW X e t) (i : ∀ σ H Q, t' σ H Q → t σ H Q) : L2.PW X e t' := ⟨fun wh pins s σ H Q I q => h.run wh pins s σ H Q I (i σ H Q q)⟩
def blkB (S : SC) (scope : Scope) (own : List (Str × Nat)) : Bool :=
  decide (scope.kind = .function) && (scope.names.all fun y => decide (scope.names.lookup y.1 = some y.2)) && (own.all fun p => decide (S.N[p.2]? = some p.1)) &&
  (scope.names.all fun y => !decide (y.2 = .free) || decide (S.sc.names.lookup y.1 = some .cell) || decide (S.sc.names.lookup y.1 = some .free)) &&
  (scope.names.all fun y => !(decide (y.2 = .local) || decide (y.2 = .cell)) || (own.any fun p => decide (p.1 = y.1)) || !(S.N.any fun z => decide (z = y.1)))
theorem blkB_ok {scope : Scope} {own : List (Str × Nat)} (C : COk X G Wx S) (h : blkB S scope own = true) : BlkOk X.N X.env.scope scope own := by
  rw [C.hN, C.scp]
  simp only [blkB, Bool.and_eq_true, decide_eq_true_eq, List.all_eq_true, Bool.or_eq_true, Bool.not_eq_true', decide_eq_false_iff_not, List.any_eq_true, List.any_eq_false] at h
  obtain ⟨⟨⟨⟨h1, h2⟩, h3⟩, h4⟩, h5⟩ := h
  refine ⟨h1, h2, h3, fun y hy e => ?_, fun y hy e => ?_⟩
  · rcases h4 y hy with (z | z) | z
    · exact absurd e z
    · exact .inl z
    · exact .inr z
  · rcases h5 y hy with (z | ⟨p, hp, z⟩) | z
    · exfalso
      simp only [Bool.or_eq_false_iff, decide_eq_false_iff_not] at z
      rcases e with e | e
      · exact z.1 e
      · exact z.2 e
    · exact .inl (List.mem_map.mpr ⟨p, hp, z⟩)
    · exact .inr fun m => by
        have := z _ m
        simp at this
def subB (a b : List Nat) : Bool := a.all fun i => b.any fun j => decide (j = i)
theorem subB_ok {a b : List Nat} (h : subB a b = true) : ∀ i ∈ a, i ∈ b := fun i hi => by
  simp only [subB, List.all_eq_true, List.any_eq_true, decide_eq_true_eq] at h
  obtain ⟨j, hj, e⟩ := h i hi
  exact e ▸ hj
mutual
def chkE (S : SC) : CE → Expr → Bool
  | .var i, e => match e with
    | .Name x _ => nmB S i x && visB S x && notDbg x
    | _ => false
  | .lit d, e => match e with
    | .Constant c _ _ => litB c d
    | _ => false
  | .glob y d, e => match e with
    | .Name x _ => decide (x = y) && glB S x && notDbg x && S.cs.any fun q => decide (q.1 = y) && dEq q.2 d
    | _ => false
  | .tup es, e => match e with
    | .Tuple l _ _ => chkEs S es l
    | _ => false
  | .lst es, e => match e with
    | .List l _ => chkEs S es l
    | _ => false
  | .bin o a b, e => match e with
    | .BinOp x p y _ => decide (o = p) && chkE S a x && chkE S b y
    | _ => false
  | .neg a, e => match e with
    | .UnaryOp p x _ => decide (p = .USub) && chkE S a x
    | _ => false
  | .cmp o a b, e => match e with
    | .Compare x [p] [y] _ => decide (o = p) && chkE S a x && chkE S b y && !behindInMarks p y
    | _ => false
  | .chain o o' a b c, e => match e with
    | .Compare x [p, p'] [y, z] _ => decide (o = p) && decide (o' = p') && chkE S a x && chkE S b y && chkE S c z && !lastMarks [p, p'] [y, z]
    | _ => false
  | .andE a b, e => match e with
    | .BoolOp .And [x, y] _ => chkE S a x && !isIf x && chkE S b y && !isIf y
    | .BoolOp .And (x :: y :: z :: l) p => chkE S a x && !isIf x && chkE S b (.BoolOp .And (y :: z :: l) p)
    | _ => false
  | .orE a b, e => match e with
    | .BoolOp .Or [x, y] _ => chkE S a x && !isIf x && chkE S b y && !isIf y
    | .BoolOp .Or (x :: y :: z :: l) p => chkE S a x && !isIf x && chkE S b (.BoolOp .Or (y :: z :: l) p)
    | _ => false
  | .notE a, e => match e with
    | .UnaryOp p x _ => decide (p = .Not) && chkE S a x && !isIf x
    | _ => false
  | .ite c a b, e => match e with
    | .IfExp x y z _ => chkE S c x && !isIf x && chkE S a y && chkE S b z
    | _ => false
  | .idx a i, e => match e with
    | .Subscript x y _ => chkE S a x && chkE S i y && notSlice y
    | _ => false
  | .slc a hl lo hh hi, e => match e with
    | .Subscript x (.Slice l h none _) _ => chkE S a x && (match l with | none => !hl | some z => hl && chkE S lo z) && (match h with | none => !hh | some z => hh && chkE S hi z)
    | _ => false
  | .call j es, e => match e with
    | .Call (.Name x _) (a :: l) [] _ => (match S.fs[j]? with
      | some f => decide (f.lv ≤ S.lv) && decide (f.name = x) && glB S x && notDbg x && chkEs S es (a :: l) && noStars (a :: l)
      | none => false)
    | _ => false
  | .callk j es kn kes perm, e => match e with
    | .Call (.Name x _) l kws _ => (match S.fs[j]? with
      | some f => decide (f.lv ≤ S.lv) && decide (f.name = x) && glB S x && notDbg x && chkEs S es l && noStars l && chkKs S kes kws && kwNamed kws && decide (kws.filterMap (·.arg) = kn) && decide (lenEs kes = kn.length) && decide ((lenEs es, kn, perm) ∈ f.kws)
      | none => false)
    | _ => false
  | .blt b es, e => match e with
    | .Call (.Name x _) (a :: l) [] _ => decide (x = bltN b) && glB S x && decide (x ∈ S.nb) && chkEs S es (a :: l) && noStars (a :: l)
    | _ => false
  | .isa t a, e => match e with
    | .Call (.Name x _) [y, .Name z _] [] _ => decide (x = "isinstance") && decide (z = tyS t) && glB S x && glB S z && decide (x ∈ S.nb) && decide (z ∈ S.nb) && chkE S a y && noStar y
    | _ => false
  | .comp own it tg hc c elt, e => match e with
    | .ListComp x [⟨t, i, l, k⟩] scope _ => decide (k = 0) && blkB S scope own && chkI S it t i && notSet i && chkG (S.blk scope) tg t && subB (tgS tg) (own.map (·.2)) && (match l with | [] => !hc | [y] => hc && chkE (S.blk scope) c y && !isIf y | _ => false) && chkE (S.blk scope) elt x
    | _ => false
  | .refused c, e => match e with
    | .Call (.Name x _) [.Lambda a b scope _] [] _ => decide (x = "_law_refused") && S.lam && glB S x && isNoArgs a && LamX.lamSB S.sc scope && decide (2 ≤ S.lv) && chkE (S.lamC scope) c b
    | _ => false
def chkEs (S : SC) : CEs → List Expr → Bool
  | .nil, l => match l with
    | [] => true
    | _ => false
  | .cons c cs, l => match l with
    | e :: es => noStar e && chkE S c e && chkEs S cs es
    | _ => false
def chkKs (S : SC) : CEs → List Keyword → Bool
  | .nil, l => match l with
    | [] => true
    | _ => false
  | .cons c cs, l => match l with
    | ⟨_, e, _⟩ :: es => chkE S c e && chkKs S cs es
    | _ => false
def chkI (S : SC) : CI → Expr → Expr → Bool
  | .seq c, _, e => chkE S c e
  | .rng1 c, _, e => match e with
    | .Call (.Name x _) [a] [] _ => decide (x = "range") && glB S x && decide (x ∈ S.nb) && chkE S c a && noStar a
    | _ => false
  | .rng2 c d, _, e => match e with
    | .Call (.Name x _) [a, b] [] _ => decide (x = "range") && glB S x && decide (x ∈ S.nb) && chkE S c a && noStar a && chkE S d b && noStar b
    | _ => false
  | .enum c, tg, e => match tg, e with
    | .Tuple _ _ _, .Call (.Name x _) [a] [] _ => decide (x = "enumerate") && glB S x && decide (x ∈ S.nb) && chkE S c a && noStar a
    | _, _ => false
  | .zip c d, tg, e => match tg, e with
    | .Tuple _ _ _, .Call (.Name x _) [a, b] [] _ => decide (x = "zip") && glB S x && decide (x ∈ S.nb) && chkE S c a && noStar a && chkE S d b && noStar b
    | _, _ => false
end
/-! ### it is right -/
abbrev ev (S : SC) := evE S.fs
theorem lit_ok {c : Const} {d : D} {k : Nat} {p : Pos} (h : litB c d = true) : SE X G Wx (.Constant c k p) (evE S.fs (.lit d)) := by
  have ht : ∀ r, evE S.fs (.lit d) r = .ok (.d d) r := fun r => by simp only [evE]
  unfold litB at h
  split at h
  · exact se_const pe_non (fun _ => .non) ht
  · cases of_decide_eq_true h
    exact se_const pe_bl (fun _ => .bl _) ht
  · cases of_decide_eq_true h
    exact se_const pe_int (fun _ => .int _) ht
  · cases of_decide_eq_true h
    exact se_const pe_str (fun _ => .str _) ht
  · cases h
theorem glob_ok {x : Str} {d : D} {p : Pos} (C : COk X G Wx S) (h1 : glB S x = true) (h2 : notDbg x = true) (h3 : (S.cs.any fun q => decide (q.1 = x) && dEq q.2 d) = true) : SE X G Wx (.Name x p) (evE S.fs (.glob x d)) := by
  simp only [List.any_eq_true, Bool.and_eq_true, decide_eq_true_eq] at h3
  obtain ⟨q, hq, e1, e2⟩ := h3
  obtain ⟨u, v, hm, r, rp⟩ := C.cons q hq
  subst e1
  rw [← dEq_ok e2]
  exact se_const (pe_glob (C.gl h1) hm r (notDbg_ok h2).1) rp fun r => by simp only [evE]
/-- and, or: the shared steps -/
theorem and_ok {x y : Expr} {l : List Expr} {p : Pos} {a b : CE} (ga : Good X G Wx x (evE S.fs a)) (ha : isIf x = false) (gb : SE X G Wx (.BoolOp .And (y :: l) p) (evE S.fs b)) (wb : L2.PW X (.BoolOp .And (y :: l) p) (tOfT X.K G Wx (evE S.fs b))) : Good X G Wx (.BoolOp .And (x :: y :: l) p) (evE S.fs (.andE a b)) := by
  have w : L2.PW X (.BoolOp .And (x :: y :: l) p) (tOfT X.K G Wx (evE S.fs (.andE a b))) := pw_imp (pw_and (ga.st ha) wb) (t_andT fun r => by simp only [evE] <;> rfl)
  exact ⟨pe_imp (pe_and ga.se gb) (t_and fun r => by simp only [evE] <;> rfl), fun _ => w.pt, fun _ => w⟩
theorem or_ok {x y : Expr} {l : List Expr} {p : Pos} {a b : CE} (ga : Good X G Wx x (evE S.fs a)) (ha : isIf x = false) (gb : SE X G Wx (.BoolOp .Or (y :: l) p) (evE S.fs b)) (wb : L2.PW X (.BoolOp .Or (y :: l) p) (tOfT X.K G Wx (evE S.fs b))) : Good X G Wx (.BoolOp .Or (x :: y :: l) p) (evE S.fs (.orE a b)) := by
  have w : L2.PW X (.BoolOp .Or (x :: y :: l) p) (tOfT X.K G Wx (evE S.fs (.orE a b))) := pw_imp (pw_or (ga.st ha) wb) (t_orT fun r => by simp only [evE] <;> rfl)
  exact ⟨pe_imp (pe_or ga.se gb) (t_or fun r => by simp only [evE] <;> rfl), fun _ => w.pt, fun _ => w⟩
theorem pts_of {c : Expr} {tc : CE} (h : ST X G Wx c (evE S.fs tc)) : PTs X [c] (tOfB X.K G Wx fun q => (evE S.fs tc q).bind fun w q1 => match asBool w with | some b => .ok b q1 | none => .bad) := by
  refine ⟨fun pins s σ H Q I q => (pts_one h).run pins s σ H Q I ?_⟩
  obtain ⟨F, r, R, h⟩ := q
  refine ⟨F, r, R, (Post.un Stp.refl h).mono fun w r1 F1 H1 ⟨R1, S1, S1', h1⟩ => ?_⟩
  split at h1
  · rename_i b e
    exact ⟨b, e, h1 F1 H1 R1 S1⟩
  · exact h1.elim
theorem pts_yes : PTs X [] (tOfB X.K G Wx fun q => .ok true q) := by
  refine ⟨fun pins s σ H Q I q => pts_nil.run pins s σ H Q I ?_⟩
  obtain ⟨F, r, R, h⟩ := q
  exact h F H R Stp.refl
end
mutual
theorem okE {X : Cx} {G : Gx} {Wx : WX} {S : SC} (C : COk X G Wx S) : ∀ (c : CE) (e : Expr), chkE S c e = true → Good X G Wx e (evE S.fs c)
  | .var i, e, h => by
    simp only [chkE] at h
    split at h
    · simp only [Bool.and_eq_true] at h
      exact .of (se_var (C.nm h.1.1) (C.vis h.1.2) (notDbg_ok h.2).1 (notDbg_ok h.2).2) rfl
    · cases h
  | .lit d, e, h => by
    simp only [chkE] at h
    split at h
    · exact .of (lit_ok h) rfl
    · cases h
  | .glob y d, e, h => by
    simp only [chkE] at h
    split at h
    · simp only [Bool.and_eq_true, decide_eq_true_eq] at h
      obtain ⟨⟨⟨rfl, h1⟩, h2⟩, h3⟩ := h
      exact .of (glob_ok C h1 h2 (by simpa using h3)) rfl
    · cases h
  | .tup es, e, h => by
    simp only [chkE] at h
    split at h
    · exact .of (se_tup (okEs C es _ h)) rfl
    · cases h
  | .lst es, e, h => by
    simp only [chkE] at h
    split at h
    · exact .of (se_lst (okEs C es _ h)) rfl
    · cases h
  | .bin o a b, e, h => by
    simp only [chkE] at h
    split at h
    · simp only [Bool.and_eq_true, decide_eq_true_eq] at h
      obtain ⟨⟨rfl, h1⟩, h2⟩ := h
      exact .of (se_bin (okE C a _ h1).se (okE C b _ h2).se) rfl
    · cases h
  | .neg a, e, h => by
    simp only [chkE] at h
    split at h
    · simp only [Bool.and_eq_true, decide_eq_true_eq] at h
      obtain ⟨rfl, h1⟩ := h
      exact .of (se_neg (okE C a _ h1).se) rfl
    · cases h
  | .cmp o a b, e, h => by
    simp only [chkE] at h
    split at h
    · simp only [Bool.and_eq_true, decide_eq_true_eq, Bool.not_eq_true'] at h
      obtain ⟨⟨⟨rfl, h1⟩, h2⟩, h3⟩ := h
      exact ⟨se_cmp C.hu (okE C a _ h1).se (okE C b _ h2).se h3, fun _ => st_cmp C.hu (okE C a _ h1).se (okE C b _ h2).se h3, fun z => by cases z⟩
    · cases h
  | .chain o o' a b c, e, h => by
    simp only [chkE] at h
    split at h
    · simp only [Bool.and_eq_true, decide_eq_true_eq, Bool.not_eq_true'] at h
      obtain ⟨⟨⟨⟨⟨rfl, rfl⟩, h1⟩, h2⟩, h3⟩, h4⟩ := h
      exact ⟨se_chain C.hu (okE C a _ h1).se (okE C b _ h2).se (okE C c _ h3).se h4, fun _ => st_chain C.hu (okE C a _ h1).se (okE C b _ h2).se (okE C c _ h3).se h4, fun z => by cases z⟩
    · cases h
  | .andE a b, e, h => by
    simp only [chkE] at h
    split at h
    · simp only [Bool.and_eq_true, Bool.not_eq_true'] at h
      obtain ⟨⟨⟨h1, h2⟩, h3⟩, h4⟩ := h
      exact and_ok (okE C a _ h1) h2 (pe_one (okE C b _ h3).se) (pw_and1 ((okE C b _ h3).st h4))
    · simp only [Bool.and_eq_true, Bool.not_eq_true'] at h
      obtain ⟨⟨h1, h2⟩, h3⟩ := h
      exact and_ok (okE C a _ h1) h2 (okE C b _ h3).se ((okE C b _ h3).sw rfl)
    · cases h
  | .orE a b, e, h => by
    simp only [chkE] at h
    split at h
    · simp only [Bool.and_eq_true, Bool.not_eq_true'] at h
      obtain ⟨⟨⟨h1, h2⟩, h3⟩, h4⟩ := h
      exact or_ok (okE C a _ h1) h2 (pe_one (okE C b _ h3).se) (pw_or1 ((okE C b _ h3).st h4))
    · simp only [Bool.and_eq_true, Bool.not_eq_true'] at h
      obtain ⟨⟨h1, h2⟩, h3⟩ := h
      exact or_ok (okE C a _ h1) h2 (okE C b _ h3).se ((okE C b _ h3).sw rfl)
    · cases h
  | .notE a, e, h => by
    simp only [chkE] at h
    split at h
    · simp only [Bool.and_eq_true, decide_eq_true_eq, Bool.not_eq_true'] at h
      obtain ⟨⟨rfl, h1⟩, h2⟩ := h
      exact ⟨se_not (okE C a _ h1).se, fun _ => st_not ((okE C a _ h1).st h2), fun z => by cases z⟩
    · cases h
  | .ite c a b, e, h => by
    simp only [chkE] at h
    split at h
    · simp only [Bool.and_eq_true, Bool.not_eq_true'] at h
      obtain ⟨⟨⟨h1, h2⟩, h3⟩, h4⟩ := h
      exact ⟨se_ite ((okE C c _ h1).st h2) (okE C a _ h3).se (okE C b _ h4).se, fun z => (by cases z), fun z => (by cases z)⟩
    · cases h
  | .idx a i, e, h => by
    simp only [chkE] at h
    split at h
    · simp only [Bool.and_eq_true] at h
      exact .of (se_idx (okE C a _ h.1.1).se (okE C i _ h.1.2).se (plainIx h.2)) rfl
    · cases h
  | .slc a hl lo hh hi, e, h => by
    simp only [chkE] at h
    split at h
    · rename_i x l hi' _ _
      simp only [Bool.and_eq_true] at h
      obtain ⟨⟨h1, h2⟩, h3⟩ := h
      refine .of (se_slc (okE C a _ h1).se ?_ ?_) rfl
      · cases l with
        | none =>
          have e : hl = false := by simpa using h2
          subst e
          exact sp_none
        | some z =>
          simp only [Bool.and_eq_true] at h2
          obtain ⟨rfl, h2⟩ := h2
          exact sp_some (okE C lo _ h2).se
      · cases hi' with
        | none =>
          have e : hh = false := by simpa using h3
          subst e
          exact sp_none
        | some z =>
          simp only [Bool.and_eq_true] at h3
          obtain ⟨rfl, h3⟩ := h3
          exact sp_some (okE C hi _ h3).se
    · cases h
  | .call j es, e, h => by
    simp only [chkE] at h
    split at h
    · split at h
      · rename_i f hf
        simp only [Bool.and_eq_true, decide_eq_true_eq] at h
        obtain ⟨⟨⟨⟨⟨h0, rfl⟩, h1⟩, h2⟩, h3⟩, h4⟩ := h
        have FO := C.funs f (List.mem_of_getElem? hf)
        have h4' := h4
        simp only [noStars, Bool.and_eq_true] at h4'
        exact .of (se_call FO hf (C.room.mono h0) C.tk (C.gl h1) (okEs C es _ h3) (notDbg_ok h2).1 (star_ok h4'.1) (star_any h4'.2)) rfl
      · cases h
    · cases h
  | .callk j es kn kes perm, e, h => by
    simp only [chkE] at h
    split at h
    · rename_i x _ l kws _
      split at h
      · rename_i f hf
        simp only [Bool.and_eq_true, decide_eq_true_eq] at h
        obtain ⟨⟨⟨⟨⟨⟨⟨⟨⟨⟨h0, rfl⟩, h1⟩, h2⟩, h3⟩, h4⟩, h5⟩, h6⟩, h7⟩, h8⟩, h9⟩ := h
        have FO := C.funs f (List.mem_of_getElem? hf)
        obtain ⟨k1, k2, k3⟩ := kw_each (env := X.env) (pos := _) h6
        cases l with
        | nil =>
          cases es with
          | nil => exact .of (se_callk0 FO hf (C.room.mono h0) C.tk (C.gl h1) h9 h8 (okKs C kes _ h5) k1 (k2.trans h7) (notDbg_ok h2).1 (by rw [k3]; rfl)) rfl
          | cons _ _ => simp [chkEs] at h3
        | cons a l =>
          have h4' := h4
          simp only [noStars, Bool.and_eq_true] at h4'
          exact .of (se_callk FO hf (C.room.mono h0) C.tk (C.gl h1) h9 rfl h8 (okEs C es _ h3) (okKs C kes _ h5) k1 (k2.trans h7) (notDbg_ok h2).1 (star_ok h4'.1) (by rw [k3, star_any h4]; rfl)) rfl
      · cases h
    · cases h
  | .blt b es, e, h => by
    simp only [chkE] at h
    split at h
    · simp only [Bool.and_eq_true, decide_eq_true_eq] at h
      obtain ⟨⟨⟨⟨rfl, h1⟩, h2⟩, h3⟩, h4⟩ := h
      have h4' := h4
      simp only [noStars, Bool.and_eq_true] at h4'
      exact .of (se_blt C.calm (C.gl h1) (C.nob _ h2) (okEs C es _ h3) (star_ok h4'.1) (star_any h4'.2)) rfl
    · cases h
  | .isa t a, e, h => by
    simp only [chkE] at h
    split at h
    · simp only [Bool.and_eq_true, decide_eq_true_eq] at h
      obtain ⟨⟨⟨⟨⟨⟨⟨rfl, rfl⟩, h1⟩, h2⟩, h3⟩, h4⟩, h5⟩, h6⟩ := h
      exact .of (se_isa (C.gl h1) (C.nob _ h3) (C.gl h2) (C.nob _ h4) (okE C a _ h5).se (star_ok h6)) rfl
    · cases h
  | .comp own it tg hc c elt, e, h => by
    simp only [chkE] at h
    split at h
    · rename_i x t i l k scope _
      simp only [Bool.and_eq_true, decide_eq_true_eq] at h
      obtain ⟨⟨⟨⟨⟨⟨⟨rfl, h1⟩, h2⟩, h3⟩, h4⟩, h5⟩, h6⟩, h7⟩ := h
      have bo := blkB_ok C h1
      refine .of (pe_imp (se_lc (tc := fun q => if hc then (evE S.fs c q).bind fun w q1 => match asBool w with | some b => .ok b q1 | none => .bad else .ok true q) C.calm C.nd' (okI C it _ _ h2) bo (subB_ok h5) (fun s H A cl fp => okG (C.blk bo.kind s H A cl fp) h4) (fun s H A cl fp => ?_) (fun s H A cl fp => (okE (C.blk bo.kind s H A cl fp) elt _ h7).se) (notSet_ok h3)) ?_) rfl
      · cases l with
        | nil =>
          have e : hc = false := by simpa using h6
          subst e
          exact pts_yes
        | cons y l =>
          cases l with
          | nil =>
            simp only [Bool.and_eq_true, Bool.not_eq_true'] at h6
            obtain ⟨⟨rfl, h6⟩, h8⟩ := h6
            exact pts_of ((okE (C.blk bo.kind s H A cl fp) c _ h6).st h8)
          | cons _ _ => simp at h6
      · rintro σ H Q ⟨F, r, R, h⟩
        simp only [evE] at h
        exact ⟨F, r, R, h⟩
    · cases h
  | .refused c, e, h => by
    simp only [chkE] at h
    split at h
    · simp only [Bool.and_eq_true, decide_eq_true_eq] at h
      obtain ⟨⟨⟨⟨⟨⟨rfl, h1⟩, h2⟩, h3⟩, h4⟩, h5⟩, h6⟩ := h
      rw [isNoArgs_ok h3]
      have LS := LamX.lamS_by h4
      have hr : Room (S.lv - 2 + 2) X.A := by rw [Nat.sub_add_cancel h5]; exact C.room
      exact .of (se_refused (C.hlam h1) hr (C.gl h2) (by rw [C.scp]; exact LS) fun A outer s H E f c' hr2 => (okE (C.lamd LS.kind hr2) c _ h6).se) rfl
    · cases h
theorem okEs {X : Cx} {G : Gx} {Wx : WX} {S : SC} (C : COk X G Wx S) : ∀ (c : CEs) (e : List Expr), chkEs S c e = true → SA X G Wx e (evEs S.fs c)
  | .nil, e, h => by
    cases e with
    | nil => exact sa_nil
    | cons _ _ => simp [chkEs] at h
  | .cons c .nil, e, h => by
    cases e with
    | nil => simp [chkEs] at h
    | cons e es =>
      cases es with
      | cons _ _ => simp [chkEs] at h
      | nil =>
        simp only [chkEs, Bool.and_eq_true] at h
        exact sa_one (okE C c _ h.1.2).se (star_ok h.1.1)
  | .cons c (.cons c2 cs), e, h => by
    cases e with
    | nil => simp [chkEs] at h
    | cons e es =>
      cases es with
      | nil => simp [chkEs] at h
      | cons e2 es =>
        rw [show chkEs S (.cons c (.cons c2 cs)) (e :: e2 :: es) = (noStar e && chkE S c e && chkEs S (.cons c2 cs) (e2 :: es)) from by simp only [chkEs]] at h
        simp only [Bool.and_eq_true] at h
        exact sa_cons (okE C c _ h.1.2).se (okEs C (.cons c2 cs) _ h.2) (star_ok h.1.1) evEs_ne
theorem okKs {X : Cx} {G : Gx} {Wx : WX} {S : SC} (C : COk X G Wx S) : ∀ (c : CEs) (e : List Keyword), chkKs S c e = true → SK X G Wx e (evEs S.fs c)
  | .nil, e, h => by
    cases e with
    | nil => exact sk_nil
    | cons _ _ => simp [chkKs] at h
  | .cons c .nil, e, h => by
    cases e with
    | nil => simp [chkKs] at h
    | cons e es =>
      obtain ⟨n, e, p⟩ := e
      cases es with
      | cons _ _ => simp [chkKs] at h
      | nil =>
        simp only [chkKs, Bool.and_eq_true] at h
        exact sk_one (okE C c _ h.1).se
  | .cons c (.cons c2 cs), e, h => by
    cases e with
    | nil => simp [chkKs] at h
    | cons e es =>
      obtain ⟨n, e, p⟩ := e
      cases es with
      | nil => simp [chkKs] at h
      | cons e2 es =>
        rw [show chkKs S (.cons c (.cons c2 cs)) (⟨n, e, p⟩ :: e2 :: es) = (chkE S c e && chkKs S (.cons c2 cs) (e2 :: es)) from by simp only [chkKs]] at h
        simp only [Bool.and_eq_true] at h
        exact sk_cons (okE C c _ h.1).se (okKs C (.cons c2 cs) _ h.2)
theorem okI {X : Cx} {G : Gx} {Wx : WX} {S : SC} (C : COk X G Wx S) : ∀ (c : CI) (t e : Expr), chkI S c t e = true → SI X G Wx t e (evI S.fs c)
  | .seq c, t, e, h => si_seq (okE C c e (by simpa only [chkI] using h)).se
  | .rng1 c, t, e, h => by
    simp only [chkI] at h
    split at h
    · simp only [Bool.and_eq_true, decide_eq_true_eq] at h
      obtain ⟨⟨⟨⟨rfl, h1⟩, h2⟩, h3⟩, h4⟩ := h
      exact si_rng1 (C.gl h1) (C.nob _ h2) (okE C c _ h3).se (star_ok h4)
    · cases h
  | .rng2 c d, t, e, h => by
    simp only [chkI] at h
    split at h
    · simp only [Bool.and_eq_true, decide_eq_true_eq] at h
      obtain ⟨⟨⟨⟨⟨⟨rfl, h1⟩, h2⟩, h3⟩, h4⟩, h5⟩, h6⟩ := h
      exact si_rng2 (C.gl h1) (C.nob _ h2) (okE C c _ h3).se (okE C d _ h5).se (by rw [star_ok h4, star_ok h6]; rfl) (star_ok h6)
    · cases h
  | .enum c, t, e, h => by
    simp only [chkI] at h
    split at h
    · simp only [Bool.and_eq_true, decide_eq_true_eq] at h
      obtain ⟨⟨⟨⟨rfl, h1⟩, h2⟩, h3⟩, h4⟩ := h
      exact si_enum (C.gl h1) (C.nob _ h2) (okE C c _ h3).se (star_ok h4)
    · cases h
  | .zip c d, t, e, h => by
    simp only [chkI] at h
    split at h
    · simp only [Bool.and_eq_true, decide_eq_true_eq] at h
      obtain ⟨⟨⟨⟨⟨⟨rfl, h1⟩, h2⟩, h3⟩, h4⟩, h5⟩, h6⟩ := h
      exact si_zip (C.gl h1) (C.nob _ h2) (okE C c _ h3).se (okE C d _ h5).se (star_ok h4) (star_ok h6) (by rw [star_ok h6]; rfl)
    · cases h
end
end SR
/-! The engine, part D: the checker of statements, and that it is right; defs. -/
namespace SR
open PySem PySem.Spec PyProof.Rows L2 RZ
/-! ### a, b = x, y -/
def starB : Expr → Bool
  | .Starred .. => true
  | _ => false
def swpN (kindOf : Str → Option NameKind) (line : Nat) (ts : List Expr) : List Str := ts.filterMap fun
    | .Name id pos => if kindOf id == some .local && pos.line == line then some id else none
    | _ => none
def swp (kindOf : Str → Option NameKind) (ts vs : List Expr) : Option (Option (List Str)) :=
  if !(ts.length == 2 || ts.length == 3) || vs.length != ts.length then some none
  else if vs.any starB then some none
  else if (swpN kindOf ((ts.head?.map (·.pos.line)).getD 0) ts).length != ts.length || (swpN kindOf ((ts.head?.map (·.pos.line)).getD 0) ts).eraseDups.length != (swpN kindOf ((ts.head?.map (·.pos.line)).getD 0) ts).length then some none
  else if vs.all (foldedForSure 8) then some none
  else if vs.all (constantsAlone 8) then none
  else some (some (swpN kindOf ((ts.head?.map (·.pos.line)).getD 0) ts))
theorem swp_ok {ts vs : List Expr} {k k2 : Nat} {p p2 : Pos} {env : Env} {r : Option (List Str)} (hk : env.scope.kind = .function) (h : swp env.kindOf ts vs = some r) : swappedStores [.Tuple ts k p] (.Tuple vs k2 p2) env = pure r := by
  have hb : env.blockKind = .function := by unfold Env.blockKind; rw [hk]; rfl
  have hs : (vs.any fun | .Starred .. => true | _ => false) = vs.any starB := rfl
  unfold swp at h
  unfold swappedStores
  simp only [hb]
  by_cases h1 : (!(ts.length == 2 || ts.length == 3) || vs.length != ts.length) = true
  · rw [if_pos h1] at h
    cases h
    simp only [bne_self_eq_false, Bool.or_false]
    rw [if_pos h1]
  · rw [if_neg h1] at h
    simp only [bne_self_eq_false, Bool.or_false]
    rw [if_neg h1]
    by_cases h2 : (vs.any starB) = true
    · rw [if_pos h2] at h
      cases h
      show (if (vs.any starB) = true then _ else _) = _
      rw [if_pos h2]
    · rw [if_neg h2] at h
      show (if (vs.any starB) = true then _ else _) = _
      rw [if_neg h2]
      show (if ((swpN env.kindOf ((ts.head?.map (·.pos.line)).getD 0) ts).length != ts.length || (swpN env.kindOf ((ts.head?.map (·.pos.line)).getD 0) ts).eraseDups.length != (swpN env.kindOf ((ts.head?.map (·.pos.line)).getD 0) ts).length) = true then (pure none : Sem (Option (List Str)))
        else if vs.all (foldedForSure 8) = true then pure none else if vs.all (constantsAlone 8) = true then _ else pure (some (swpN env.kindOf ((ts.head?.map (·.pos.line)).getD 0) ts))) = pure r
      generalize swpN env.kindOf ((ts.head?.map (·.pos.line)).getD 0) ts = ns at h ⊢
      by_cases h3 : (ns.length != ts.length || ns.eraseDups.length != ns.length) = true
      · rw [if_pos h3] at h ⊢
        cases h
        rfl
      · rw [if_neg h3] at h ⊢
        by_cases h4 : vs.all (foldedForSure 8) = true
        · rw [if_pos h4] at h ⊢
          cases h
          rfl
        · rw [if_neg h4] at h ⊢
          by_cases h5 : vs.all (constantsAlone 8) = true
          · rw [if_pos h5] at h
            cases h
          · rw [if_neg h5] at h ⊢
            cases h
            rfl
theorem swp_noTup {ts : List Expr} {v : Expr} {k : Nat} {p : Pos} {env : Env} (h : (match v with | .Tuple _ _ _ => false | _ => true) = true) : swappedStores [.Tuple ts k p] v env = pure none := by
  cases v <;> first | rfl | cases h
theorem swp_sub {a b : Expr} {v : Expr} {p : Pos} {env : Env} : swappedStores [.Subscript a b p] v env = pure none := by
  cases v <;> rfl
theorem sw_sole {t e : Expr} {l : Nat} {env : Env} (h : notComp e = true) : swapsWithSole [t] e l env = pure false := by
  show swapsWith e (some t) l env = _
  exact sw_no h
def setForm : Expr → Bool
  | .SetComp _ _ _ _ => false
  | .DictComp _ _ _ _ _ => false
  | _ => true
/-! ### the checker -/
def lcB (S : SC) (x : Str) (py : Pos) (scope : Scope) (pos : Pos) : Bool := (S.sc.names.lookup x == some .local && py.line == pos.line && !(scope.names.any fun (n, k) => n == x && (k == .local || k == .cell)))
def isLocal (S : SC) (x : Str) : Bool := decide (S.sc.names.lookup x = some .local)
mutual
def chkS (S : SC) : CS → Stmt → Bool
  | .set i _ e, st => match st with
    | .Assign [.Name x px] v _ => nmB S i x && locB S x && chkE S e v && setForm v
    | _ => false
  | .asg tg e, st => match st with
    | .Assign [.Tuple ts k p] v _ => chkG S tg (.Tuple ts k p) && chkE S e v && notComp v && (match v with
      | .Tuple vs _ _ => decide (swp (fun x => S.sc.names.lookup x) ts vs = some none)
      | _ => true)
    | _ => false
  | .par2 i _ j _ a b, st => match st with
    | .Assign [.Tuple [.Name x px, .Name y py] _ _] (.Tuple [u, v] _ _) _ => nmB S i x && nmB S j y && !decide (i = j) && isLocal S x && isLocal S y && chkE S a u && chkE S b v && noStar u && noStar v &&
        decide (swp (fun x => S.sc.names.lookup x) [.Name x px, .Name y py] [u, v] = some (some [x, y]))
    | _ => false
  | .par3 i j k a b c, st => match st with
    | .Assign [.Tuple [.Name x px, .Name y py, .Name z pz] _ _] (.Tuple [u, v, w] _ _) _ => nmB S i x && nmB S j y && nmB S k z && !decide (i = j) && !decide (i = k) && !decide (j = k) && isLocal S x && isLocal S y && isLocal S z && chkEs S (.cons a (.cons b (.cons c .nil))) [u, v, w] &&
        decide (swp (fun x => S.sc.names.lookup x) [.Name x px, .Name y py, .Name z pz] [u, v, w] = some (some [x, y, z]))
    | _ => false
  | .app i e, st => match st with
    | .Expr (.Call (.Attribute (.Name x _) m ap) [v] [] cp) _ => decide (m = "append") && nmB S i x && visB S x && notDbg x && chkE S e v && noStar v && (ap.endLine == cp.line)
    | _ => false
  | .ext i e, st => match st with
    | .Expr (.Call (.Attribute (.Name x _) m ap) [v] [] cp) _ => decide (m = "extend") && nmB S i x && visB S x && notDbg x && chkE S e v && noStar v && (ap.endLine == cp.line)
    | _ => false
  | .put i k e, st => match st with
    | .Assign [.Subscript (.Name x _) y _] v _ => nmB S i x && visB S x && notDbg x && chkE S e v && chkE S k y && notSlice y && notComp v
    | _ => false
  | .aug i o e, st => match st with
    | .AugAssign (.Name x _) p v _ => decide (o = p) && (decide (p = .Add) || decide (p = .Sub)) && nmB S i x && locB S x && chkE S e v
    | _ => false
  | .expr e, st => match st with
    | .Expr v _ => chkE S e v && notComp v
    | _ => false
  | .ret e, st => match st with
    | .Return (some v) _ => chkE S e v
    | .Return none _ => (match e with
      | .lit .none => true
      | _ => false)
    | _ => false
  | .ife c a b, st => match st with
    | .If x y z _ => chkE S c x && !isIf x && chkSs S a y && chkSs S b z
    | _ => false
  | .forS it tg body, st => match st with
    | .For t i b [] _ => chkI S it t i && notSet i && chkG S tg t && chkSs S body b
    | _ => false
  | .rais c e, st => match st with
    | .Raise (some (.Call (.Name x _) [v] [] _)) none _ => decide (c = 0) && decide (x = "BadArgument") && S.bad && glB S x && chkE S e v && noStar v
    | _ => false
  | .brk, st => match st with
    | .Break _ => true
    | _ => false
  | .cnt, st => match st with
    | .Continue _ => true
    | _ => false
  | .pass, st => match st with
    | .Pass _ => true
    | _ => false
def chkSs (S : SC) : CSs → List Stmt → Bool
  | .nil, l => match l with
    | [] => true
    | _ => false
  | .cons c cs, l => match l with
    | st :: sts => chkS S c st && chkSs S cs sts
    | _ => false
end
/-! ### it is right -/
theorem set_ok {X : Cx} {G : Gx} {Wx : WX} {S : SC} (C : COk X G Wx S) {i : Nat} {own : Bool} {e : CE} {x : Str} {px pos : Pos} {v : Expr} (h1 : nmB S i x = true) (h2 : locB S x = true) (h3 : chkE S e v = true)
    (h4 : setForm v = true) : SS X G Wx (.Assign [.Name x px] v pos) (exS S.fs (.set i own e)) := by
  have hk : X.env.scope.kind = .function := by rw [C.scp]; exact C.kind
  have plain : swapsWith v (some (.Name x px)) pos.line X.env = pure false → SS X G Wx (.Assign [.Name x px] v pos) (exS S.fs (.set i own e)) := fun hs => by
    refine ps_imp (ss_set (own := own) C.nd' (C.nm h1) (C.loc h2).1 (C.loc h2).2 (okE C e v h3).se hs) ?_
    rintro E σ H ⟨F, r, R, h⟩
    simp only [exS] at h
    exact ⟨F, r, R, h⟩
  by_cases hc : notComp v = true
  · exact plain (sw_no hc)
  · cases v with
    | ListComp elt gs scope pos' =>
      have hw := sw_comp (elt := elt) (gs := gs) (scope := scope) (pos := pos') (py := px) (y := x) (l := pos.line) hk
      cases hb : (X.env.kindOf x == some .local && px.line == pos'.line && !(scope.names.any fun (n, k) => n == x && (k == .local || k == .cell))) with
      | false =>
        rw [hb] at hw
        exact plain hw
      | true =>
        rw [hb] at hw
        simp only [Bool.and_eq_true, beq_iff_eq] at hb
        have hyl : X.env.scope.names.lookup x = some .local := hb.1.1
        cases e with
        | comp own' it tg hcc c elt' =>
          simp only [chkE] at h3
          split at h3
          · rename_i x' t i' l k scope' _ q
            cases q
            simp only [Bool.and_eq_true, decide_eq_true_eq] at h3
            obtain ⟨⟨⟨⟨⟨⟨⟨rfl, g1⟩, g2⟩, g3⟩, g4⟩, g5⟩, g6⟩, g7⟩ := h3
            have bo := blkB_ok C g1
            refine ps_imp (ss_setLc (ow := own) (tc := fun q => if hcc then (evE S.fs c q).bind fun w q1 => match asBool w with | some b => .ok b q1 | none => .bad else .ok true q) C.calm C.nd' (C.nm h1) hyl hw (okI C it _ _ g2) bo (subB_ok g5) (fun s H A cl fp => okG (C.blk bo.kind s H A cl fp) g4) (fun s H A cl fp => ?_) (fun s H A cl fp => (okE (C.blk bo.kind s H A cl fp) elt' _ g7).se) (notSet_ok g3)) ?_
            · cases l with
              | nil =>
                have e : hcc = false := by simpa using g6
                subst e
                exact pts_yes
              | cons y l =>
                cases l with
                | nil =>
                  simp only [Bool.and_eq_true, Bool.not_eq_true'] at g6
                  obtain ⟨⟨rfl, g6⟩, g8⟩ := g6
                  exact pts_of ((okE (C.blk bo.kind s H A cl fp) c _ g6).st g8)
                | cons _ _ => simp at g6
            · rintro E σ H ⟨F, r, R, h⟩
              simp only [exS, evE] at h
              exact ⟨F, r, R, h⟩
          · cases h3
        | _ => simp [chkE] at h3
    | SetComp _ _ _ _ => cases h4
    | DictComp _ _ _ _ _ => cases h4
    | _ => exact absurd rfl hc
mutual
theorem okSt {X : Cx} {G : Gx} {Wx : WX} {S : SC} (C : COk X G Wx S) (hp : PassesOwn (model X.prog X.w) X.A X.env X.xe) : ∀ (c : CS) (st : Stmt), chkS S c st = true → SS X G Wx st (exS S.fs c)
  | .set i own e, st, h => by
    simp only [chkS] at h
    split at h
    · simp only [Bool.and_eq_true] at h
      exact set_ok C h.1.1.1 h.1.1.2 h.1.2 h.2
    · cases h
  | .asg tg e, st, h => by
    have hk : X.env.scope.kind = .function := by rw [C.scp]; exact C.kind
    have hkf : X.env.kindOf = fun x => S.sc.names.lookup x := by unfold Env.kindOf; rw [C.scp]
    simp only [chkS] at h
    split at h
    · rename_i ts k p v _
      simp only [Bool.and_eq_true] at h
      obtain ⟨⟨⟨h1, h2⟩, h3⟩, h4⟩ := h
      refine ps_imp (ss_asg (okE C e v h2).se (okG C h1) (sw_sole h3) ?_ rfl) ?_
      · cases v with
        | Tuple vs k2 p2 => exact swp_ok hk (by rw [hkf]; exact of_decide_eq_true h4)
        | _ => exact swp_noTup rfl
      · rintro E σ H ⟨F, r, R, h⟩
        simp only [exS] at h
        exact ⟨F, r, R, h⟩
    · cases h
  | .par2 i oi j oj a b, st, h => by
    have hk : X.env.scope.kind = .function := by rw [C.scp]; exact C.kind
    have hkf : X.env.kindOf = fun x => S.sc.names.lookup x := by unfold Env.kindOf; rw [C.scp]
    simp only [chkS] at h
    split at h
    · simp only [Bool.and_eq_true, Bool.not_eq_true', decide_eq_false_iff_not] at h
      obtain ⟨⟨⟨⟨⟨⟨⟨⟨⟨h1, h2⟩, h3⟩, h4⟩, h5⟩, h6⟩, h7⟩, h8⟩, h9⟩, h10⟩ := h
      refine ps_imp (ss_par2 (oi := oi) (oj := oj) C.calm C.nd' (C.nm h1) (C.nm h2) h3 (by rw [C.scp]; exact of_decide_eq_true h4) (by rw [C.scp]; exact of_decide_eq_true h5) (okE C a _ h6).se (okE C b _ h7).se (star_ok h8) (star_ok h9) (swp_ok hk (by rw [hkf]; exact of_decide_eq_true h10))) ?_
      rintro E σ H ⟨F, r, R, h⟩
      simp only [exS] at h
      exact ⟨F, r, R, h⟩
    · cases h
  | .par3 i j k a b c, st, h => by
    have hk : X.env.scope.kind = .function := by rw [C.scp]; exact C.kind
    have hkf : X.env.kindOf = fun x => S.sc.names.lookup x := by unfold Env.kindOf; rw [C.scp]
    simp only [chkS] at h
    split at h
    · simp only [Bool.and_eq_true, Bool.not_eq_true', decide_eq_false_iff_not] at h
      obtain ⟨⟨⟨⟨⟨⟨⟨⟨⟨⟨h1, h2⟩, h3⟩, h4⟩, h5⟩, h6⟩, h7⟩, h8⟩, h9⟩, h10⟩, h11⟩ := h
      refine ps_imp (ss_par3 C.calm C.nd' (C.nm h1) (C.nm h2) (C.nm h3) h4 h5 h6 (by rw [C.scp]; exact of_decide_eq_true h7) (by rw [C.scp]; exact of_decide_eq_true h8) (by rw [C.scp]; exact of_decide_eq_true h9) (okEs C (.cons a (.cons b (.cons c .nil))) _ h10) (swp_ok hk (by rw [hkf]; exact of_decide_eq_true h11))) ?_
      rintro E σ H ⟨F, r, R, h⟩
      simp only [exS] at h
      exact ⟨F, r, R, h⟩
    · cases h
  | .app i e, st, h => by
    simp only [chkS] at h
    split at h
    · simp only [Bool.and_eq_true, decide_eq_true_eq] at h
      obtain ⟨⟨⟨⟨⟨⟨rfl, h1⟩, h2⟩, h3⟩, h4⟩, h5⟩, h6⟩ := h
      refine ps_imp (ss_app (C.nm h1) (C.vis h2) (notDbg_ok h3).1 (notDbg_ok h3).2 (okE C e _ h4).se (star_ok h5) h6) ?_
      rintro E σ H ⟨F, r, R, h⟩
      simp only [exS] at h
      exact ⟨F, r, R, h⟩
    · cases h
  | .ext i e, st, h => by
    simp only [chkS] at h
    split at h
    · simp only [Bool.and_eq_true, decide_eq_true_eq] at h
      obtain ⟨⟨⟨⟨⟨⟨rfl, h1⟩, h2⟩, h3⟩, h4⟩, h5⟩, h6⟩ := h
      refine ps_imp (ss_ext (C.nm h1) (C.vis h2) (notDbg_ok h3).1 (notDbg_ok h3).2 (okE C e _ h4).se (star_ok h5) h6) ?_
      rintro E σ H ⟨F, r, R, h⟩
      simp only [exS] at h
      exact ⟨F, r, R, h⟩
    · cases h
  | .put i k e, st, h => by
    simp only [chkS] at h
    split at h
    · rename_i x px y py v _
      simp only [Bool.and_eq_true] at h
      obtain ⟨⟨⟨⟨⟨⟨h1, h2⟩, h3⟩, h4⟩, h5⟩, h6⟩, h7⟩ := h
      refine ps_imp (ss_put (C.nm h1) (C.vis h2) (notDbg_ok h3).1 (notDbg_ok h3).2 (okE C e _ h4).se (okE C k _ h5).se (fun u => by cases y <;> first | rfl | cases h6) (sw_sole h7) swp_sub) ?_
      rintro E σ H ⟨F, r, R, h⟩
      simp only [exS] at h
      exact ⟨F, r, R, h⟩
    · cases h
  | .aug i o e, st, h => by
    simp only [chkS] at h
    split at h
    · simp only [Bool.and_eq_true, decide_eq_true_eq, Bool.or_eq_true] at h
      obtain ⟨⟨⟨⟨rfl, h1⟩, h2⟩, h3⟩, h4⟩ := h
      refine ps_imp (ss_aug h1 C.nd' (C.nm h2) (C.loc h3).1 (C.loc h3).2 (okE C e _ h4).se) ?_
      rintro E σ H ⟨F, r, R, h⟩
      simp only [exS] at h
      exact ⟨F, r, R, h⟩
    · cases h
  | .expr e, st, h => by
    simp only [chkS] at h
    split at h
    · simp only [Bool.and_eq_true] at h
      refine ps_imp (ss_expr (okE C e _ h.1).se (sw_no h.2)) ?_
      rintro E σ H ⟨F, r, R, h⟩
      simp only [exS] at h
      exact ⟨F, r, R, h⟩
    · cases h
  | .ret e, st, h => by
    simp only [chkS] at h
    split at h
    · refine ps_imp (ss_ret (okE C e _ h).se) ?_
      rintro E σ H ⟨F, r, R, h⟩
      simp only [exS] at h
      exact ⟨F, r, R, h⟩
    · split at h
      · exact ss_retN
      · cases h
    · cases h
  | .ife c a b, st, h => by
    simp only [chkS] at h
    split at h
    · simp only [Bool.and_eq_true, Bool.not_eq_true'] at h
      obtain ⟨⟨⟨h1, h2⟩, h3⟩, h4⟩ := h
      refine ps_imp (ss_if ((okE C c _ h1).st h2) (okSs C hp a _ h3) (okSs C hp b _ h4)) ?_
      rintro E σ H ⟨F, r, R, h⟩
      simp only [exS] at h
      exact ⟨F, r, R, h⟩
    · cases h
  | .forS it tg body, st, h => by
    simp only [chkS] at h
    split at h
    · simp only [Bool.and_eq_true] at h
      obtain ⟨⟨⟨h1, h2⟩, h3⟩, h4⟩ := h
      refine ps_imp (ss_for hp C.calm (okI C it _ _ h1) (okG C h3) (okSs C hp body _ h4) (notSet_ok h2)) ?_
      rintro E σ H ⟨F, r, R, h⟩
      simp only [exS] at h
      exact ⟨F, r, R, h⟩
    · cases h
  | .rais c e, st, h => by
    simp only [chkS] at h
    split at h
    · simp only [Bool.and_eq_true, decide_eq_true_eq] at h
      obtain ⟨⟨⟨⟨⟨rfl, rfl⟩, h1⟩, h2⟩, h3⟩, h4⟩ := h
      refine ps_imp (ss_rais C.calm (C.hbad h1) C.room C.tk (C.gl h2) (okE C e _ h3).se (star_ok h4)) ?_
      rintro E σ H ⟨F, r, R, h⟩
      simp only [exS] at h
      exact ⟨F, r, R, h⟩
    · cases h
  | .brk, st, h => by
    simp only [chkS] at h
    split at h
    · exact ss_brk
    · cases h
  | .cnt, st, h => by
    simp only [chkS] at h
    split at h
    · exact ss_cnt
    · cases h
  | .pass, st, h => by
    simp only [chkS] at h
    split at h
    · exact ss_pass
    · cases h
theorem okSs {X : Cx} {G : Gx} {Wx : WX} {S : SC} (C : COk X G Wx S) (hp : PassesOwn (model X.prog X.w) X.A X.env X.xe) : ∀ (c : CSs) (st : List Stmt), chkSs S c st = true → SSs X G Wx st (exSs S.fs c)
  | .nil, st, h => by
    cases st with
    | nil => exact sss_nil
    | cons _ _ => simp [chkSs] at h
  | .cons c cs, st, h => by
    cases st with
    | nil => simp [chkSs] at h
    | cons s sts =>
      simp only [chkSs, Bool.and_eq_true] at h
      exact sss_cons (okSt C hp c s h.1) (okSs C hp cs sts h.2)
end
end SR
/-! The engine, part F: the defs of a text, one after another; the law's own def. -/
namespace SR
open PySem PySem.Spec PyProof.Rows L2 RZ PySem.BadX
/-- what is written of a def -/
structure FunM (P : Program) (w : World) (K : PySem.W.Frag) (mg : Str → Option Value) (base : Heap) (G : Gx) (f : FI) : Prop where
  lpl : f.lp.length = f.ps.length
  ex : ∃ (fa : Addr) (fd : FuncData), mg f.name = some (.ref fa) ∧ PySem.W.keepIn K (.ref fa) = true ∧ Binds K fd f.ps [] ∧
    (∀ q ∈ f.kws, ∀ us ws : List Value, us.length = q.1 → ws.length = q.2.1.length → bindArgs fd ⟨us, q.2.1.zip ws⟩ = pure (f.ps.zip (permV (us ++ ws) q.2.2))) ∧
    FnOk P w K mg base (L2.CX P w) f.lv fa fd f.ps (spD K G f.ps.length f.fn)
/-- the facts of the text that all defs share -/
structure ModM (P : Program) (K : PySem.W.Frag) (mg : Str → Option Value) (G : Gx) (cs : List (Str × D)) (nb : List Str) : Prop where
  cons : ∀ q ∈ cs, ∃ u v, mg q.1 = some u ∧ L2.RelV v u ∧ ∀ F, Rp K F v q.2
  nob : ∀ x ∈ nb, mg x = none
  bad : ∃ (C fI cc cda : Addr), BadTxt P K mg C fI cc cda ∧ G.ex 0 = some (C, ("name" : Str))
/-- a def of the text as it stands behind the top; cdv: its code object -/
structure DefT (K : PySem.W.Frag) (mg : Str → Option Value) (x : Str) (st : Stmt) (fa : Addr) (cdv : Value) (fd : FuncData) : Prop where
  m : mg x = some (.ref fa)
  k : PySem.W.keepIn K (.ref fa) = true
  c : PySem.W.codeIn K cdv x = true
  l : ∃ (oc kV doc pm ct : Value) (od an : Option Addr) (osl : Array (Option Value)), fd = PySem.W.fnOf x x (defArgs st) (defBody st) (defScope st) .none kV doc pm an cdv ct ∧ K.lookup fa = some ⟨oc, od, .func fd, osl⟩
def scB (N ps : List Str) (sc : Scope) : Bool := decide (sc.kind = .function) && !sc.isCoroutine && !sc.isGenerator && decide N.Nodup && decide (N.take ps.length = ps) && (ps.all fun x => decide (sc.names.lookup x = some .local) || decide (sc.names.lookup x = some .cell)) && (sc.names.all fun y => !decide (y.2 = .free))
theorem scB_ok {N ps : List Str} {sc : Scope} (h : scB N ps sc = true) : FnScope N ps sc ∧ ps.length ≤ N.length := by
  simp only [scB, Bool.and_eq_true, decide_eq_true_eq, Bool.not_eq_true', List.all_eq_true, Bool.or_eq_true, decide_eq_false_iff_not] at h
  obtain ⟨⟨⟨⟨⟨⟨h1, h2⟩, h3⟩, h4⟩, h5⟩, h6⟩, h7⟩ := h
  refine ⟨⟨h1, h2, h3, h4, h5, h6, h7⟩, ?_⟩
  have := congrArg List.length h5
  rw [List.length_take] at this
  omega
def memB (a b : List Str) : Bool := a.all fun x => b.any fun y => decide (y = x)
def memC (a b : List (Str × D)) : Bool := a.all fun x => b.any fun y => decide (y.1 = x.1) && dEq y.2 x.2
theorem memB_ok {a b : List Str} (h : memB a b = true) : ∀ x ∈ a, x ∈ b := fun x hx => by
  simp only [memB, List.all_eq_true, List.any_eq_true, decide_eq_true_eq] at h
  obtain ⟨y, hy, e⟩ := h x hx
  exact e ▸ hy
theorem memC_ok {a b : List (Str × D)} (h : memC a b = true) : ∀ x ∈ a, x ∈ b := fun x hx => by
  simp only [memC, List.all_eq_true, List.any_eq_true, Bool.and_eq_true, decide_eq_true_eq] at h
  obtain ⟨y, hy, e1, e2⟩ := h x hx
  have e : y = x := by
    obtain ⟨y1, y2⟩ := y
    obtain ⟨x1, x2⟩ := x
    cases e1
    have e3 : y2 = x2 := dEq_ok e2
    rw [e3]
  exact e ▸ hy
section
variable {P : Program} {w : World} {K : PySem.W.Frag} {mg : Str → Option Value} {base : Heap} {G : Gx} {cs : List (Str × D)} {nb : List Str}
/-- THE RULE for a def -/
theorem def_ok (M : ModM P K mg G cs nb) {x : Str} {st : Stmt} {fa : Addr} {cdv : Value} {fd : FuncData} (T : DefT K mg x st fa cdv fd) (S : SC) (body : CSs) (ps : List Str) (lp : List Pk) (kws : List (Nat × List Str × List Nat))
    (chk : chkSs S body (defBody st) = true) (hsc : scB S.N ps (defScope st) = true) (hS : S.sc = defScope st) (hfn : ∀ y, S.fnS y = true) (hlp : lp.length = ps.length) (hcs : memC S.cs cs = true) (hnb : memB S.nb nb = true)
    (funs : ∀ f ∈ S.fs, FunM P w K mg base G f)
    (hlam : S.lam = true → ∃ (g c Q : Addr), RefTxt K mg g ∧ LamX.TabB base mg c Q ∧ cdv = .ref c ∧ (Q, x ++ ".<locals>." ++ "<lambda>") ∈ G.T ∧ ∀ p ∈ G.T, p.1 = Q → p.2 = x ++ ".<locals>." ++ "<lambda>")
    (hb : ∀ (kV doc pm : Value) (an : Option Addr) (cdv ct : Value) (us : List Value), us.length = ps.length → bindArgs (PySem.W.fnOf x x (defArgs st) (defBody st) (defScope st) .none kV doc pm an cdv ct) ⟨us, []⟩ = pure (ps.zip us))
    (hkw : ∀ (kV doc pm : Value) (an : Option Addr) (cdv ct : Value), ∀ q ∈ kws, ∀ us ws : List Value, us.length = q.1 → ws.length = q.2.1.length → bindArgs (PySem.W.fnOf x x (defArgs st) (defBody st) (defScope st) .none kV doc pm an cdv ct) ⟨us, q.2.1.zip ws⟩ = pure (ps.zip (permV (us ++ ws) q.2.2))) :
    FnOk P w K mg base (L2.CX P w) (S.lv + 1) fa fd ps (spD K G ps.length (runB S.N.length S.fs body)) ∧ FunM P w K mg base G ⟨x, ps, lp, kws, S.lv + 1, runB S.N.length S.fs body⟩ := by
  obtain ⟨oc, kV, doc, pm, ct, od, an, osl, rfl, lk⟩ := T.l
  obtain ⟨Sc, hl⟩ := scB_ok hsc
  have key : FnOk P w K mg base (L2.CX P w) (S.lv + 1) fa (PySem.W.fnOf x x (defArgs st) (defBody st) (defScope st) .none kV doc pm an cdv ct) ps (spD K G ps.length (runB S.N.length S.fs body)) := by
    refine fn_ok lk T.c Sc hl fun X Wx e1 e2 e3 e4 e5 e6 e7 e8 e9 calm hf room tk hp => ?_
    subst e1 e2 e3 e4 e5
    have C : COk X G Wx S :=
      { hN := e6
        nd := Sc.nd
        scp := by rw [e7, hS]
        kind := by rw [hS]; exact Sc.kind
        calm := calm
        tk := tk
        room := room
        funs := fun f hf => ⟨(funs f hf).lpl, (funs f hf).ex⟩
        cons := fun q hq => M.cons q (memC_ok hcs q hq)
        nob := fun y hy => M.nob y (memB_ok hnb y hy)
        hfn := fun y _ => hf y
        hlam := fun hl => by
          obtain ⟨g, c, Q, R, TB, ec, h1, h2⟩ := hlam hl
          obtain ⟨C, fI, cc, cda, BT, hex⟩ := M.bad
          exact ⟨g, C, fI, cc, cda, c, Q, R, BT, hex, TB, by rw [e8, ec], by rw [e9]; exact h1, by rw [e9]; exact h2⟩
        hbad := fun _ => M.bad }
    exact okSs C hp body _ chk
  exact ⟨key, hlp, fa, _, T.m, T.k, .all (hb kV doc pm an cdv ct), hkw kV doc pm an cdv ct, key⟩
/-- the law's script -/
theorem law_sp {fn : Fn} {T : List (Addr × Str)} {H : Hp} {a : Addr} {ns : List Int} {as' : Sl} (hG : G.T = T) (hT : ∀ p ∈ T, H p.1 = some (.tbl #[])) (hS : SqL K H a (ns.map V.int)) (hfn : fn [.scr (ns.map .int)] = .ok (.dat (.bool true)) as') :
    spD K G 1 fn [.ref a] H (fun v _ => v = .bl true) fun _ _ _ => False := by
  have tabs : LamX.Tabs G.T H := fun p hp => LamX.TabS.nil (hT p (hG ▸ hp))
  have mk : ∀ F : Hp, Same F H → (∀ b ps, F b ≠ some (.tbl ps)) → SqL K F a (ns.map V.int) → spD K G 1 fn [.ref a] H (fun v _ => v = .bl true) fun _ _ _ => False := fun F sm nt hq => by
    refine ⟨F, [.scr (ns.map .int)], rfl, ⟨sm, nt, rfl, fun i sv e => ?_, fun i j b ⟨l, h1, _⟩ => ?_, tabs⟩, ?_⟩
    · cases i with
      | zero =>
        simp at e
        subst e
        exact ⟨a, ns.map V.int, rfl, hq, rpAll_ints ns⟩
      | succ i => simp at e
    · cases i with
      | zero => rcases h1 with h1 | h1 <;> simp at h1
      | succ i => rcases h1 with h1 | h1 <;> simp at h1
    · rw [hfn]
      intro u F' H' _ _ ru _
      cases ru
      rfl
  rcases hS with (h | ⟨o, h⟩) | h
  · refine mk (upd (fun _ => none) a (.lst (ns.map V.int))) (fun b u e => ?_) (fun b ps e => ?_) (.inl (.inl upd_same))
    · by_cases hb : b = a
      · rw [hb, upd_same] at e
        rw [hb, h, ← e]
      · rw [upd_ne hb] at e
        cases e
    · by_cases hb : b = a
      · rw [hb, upd_same] at e
        cases e
      · rw [upd_ne hb] at e
        cases e
  · refine mk (upd (fun _ => none) a (.frz o (.lst (ns.map V.int)))) (fun b u e => ?_) (fun b ps e => ?_) (.inl (.inr ⟨o, upd_same⟩))
    · by_cases hb : b = a
      · rw [hb, upd_same] at e
        rw [hb, h, ← e]
      · rw [upd_ne hb] at e
        cases e
    · by_cases hb : b = a
      · rw [hb, upd_same] at e
        cases e
      · rw [upd_ne hb] at e
        cases e
  · exact mk (fun _ => none) (fun b u e => by cases e) (fun b ps e => by cases e) (.inr h)
end
end SR
/-! The engine, part G: constants of the text; small helps for the end. -/
namespace SR
open PySem PySem.Spec PyProof.Rows L2 RZ PySem.BadX
mutual
/-- the value v of the written part is d -/
def rpB (K : PySem.W.Frag) : Value → D → Bool
  | v, .none => match v with
    | .none => true
    | _ => false
  | v, .bool b => match v with
    | .bool c => decide (c = b)
    | _ => false
  | v, .int b => match v with
    | .int c _ => decide (c = b)
    | _ => false
  | v, .str b => match v with
    | .str c _ => decide (c = b)
    | _ => false
  | v, .tuple ds => match v with
    | .ref a => (match K.lookup a with
      | some o => (match o.cls with
        | .type t => t == "tuple"
        | _ => false) && (match o.data with
        | .seq its _ => decide (its.size ≤ sizeLine) && rpBs K its.toList ds
        | _ => false)
      | none => false)
    | _ => false
  | _, .list _ => false
  | _, .dict _ => false
def rpBs (K : PySem.W.Frag) : List Value → List D → Bool
  | vs, [] => match vs with
    | [] => true
    | _ => false
  | vs, d :: ds => match vs with
    | v :: vs => rpB K v d && rpBs K vs ds
    | [] => false
end
mutual
theorem rpB_ok {K : PySem.W.Frag} : ∀ (d : D) (v : Value), rpB K v d = true → ∃ x, L2.RelV x v ∧ ∀ F, Rp K F x d
  | .none, v, h => by
    simp only [rpB] at h
    split at h
    · exact ⟨.non, rfl, fun _ => .non⟩
    · cases h
  | .bool b, v, h => by
    simp only [rpB] at h
    split at h
    · cases of_decide_eq_true h
      exact ⟨.bl _, rfl, fun _ => .bl _⟩
    · cases h
  | .int b, v, h => by
    simp only [rpB] at h
    split at h
    · cases of_decide_eq_true h
      exact ⟨.int _, ⟨_, rfl⟩, fun _ => .int _⟩
    · cases h
  | .str b, v, h => by
    simp only [rpB] at h
    split at h
    · cases of_decide_eq_true h
      exact ⟨.str _, ⟨_, rfl⟩, fun _ => .str _⟩
    · cases h
  | .tuple ds, v, h => by
    simp only [rpB] at h
    split at h
    · rename_i a
      split at h
      · rename_i o ho
        simp only [Bool.and_eq_true] at h
        obtain ⟨h1, h2⟩ := h
        split at h1
        · rename_i t ht
          have et : t = "tuple" := by simpa using h1
          subst et
          split at h2
          · rename_i its n hd
            simp only [Bool.and_eq_true, decide_eq_true_eq] at h2
            obtain ⟨xs, q1, q2⟩ := rpBs_ok ds its.toList h2.2
            exact ⟨.ref a, rfl, fun F => .tup (.inr ⟨o, its, n, ho, ht, hd, h2.1, q1⟩) (q2 F)⟩
          · cases h2
        · cases h1
      · cases h
    · cases h
  | .list _, v, h => by simp [rpB] at h
  | .dict _, v, h => by simp [rpB] at h
theorem rpBs_ok {K : PySem.W.Frag} : ∀ (ds : List D) (vs : List Value), rpBs K vs ds = true → ∃ xs, Vals xs vs ∧ ∀ F, RpAll K F xs ds
  | [], vs, h => by
    cases vs with
    | nil => exact ⟨[], .nil, fun _ => .nil⟩
    | cons _ _ => simp [rpBs] at h
  | d :: ds, vs, h => by
    cases vs with
    | nil => simp [rpBs] at h
    | cons v vs =>
      simp only [rpBs, Bool.and_eq_true] at h
      obtain ⟨x, q1, q2⟩ := rpB_ok d v h.1
      obtain ⟨xs, q3, q4⟩ := rpBs_ok ds vs h.2
      exact ⟨x :: xs, .cons q1 q3, fun F => .cons (q2 F) (q4 F)⟩
end
theorem fa_nil {α : Type} {P : α → Prop} : ∀ f ∈ ([] : List α), P f := fun _ h => by cases h
theorem fa_cons {α : Type} {P : α → Prop} {a : α} {l : List α} (h : P a) (t : ∀ f ∈ l, P f) : ∀ f ∈ a :: l, P f := fun f hf => by
  rcases List.mem_cons.mp hf with e | hf
  · rw [e]; exact h
  · exact t f hf
theorem con_of {K : PySem.W.Frag} {h : Heap} {mg : Str → Option Value} {x : Str} {u : Value} {d : D} (X : K.In h) (G : h.Ns mainGlobals mg) (a : PySem.W.nsIn K mainGlobals x = some (some u)) (b : rpB K u d = true) : ∃ u v, mg x = some u ∧ L2.RelV v u ∧ ∀ F, Rp K F v d := by
  obtain ⟨v, q1, q2⟩ := rpB_ok d u b
  exact ⟨u, v, PySem.W.mg_of X G a, q1, q2⟩
theorem cx_no {P : Program} {w : World} {H : Hp} {s : Shared} {e : Value} {s' : Shared} (h : L2.CX P w [] H s (fun _ _ _ => False) e s') : False := by
  obtain ⟨_, _, _, _, _, _, _, _, _, _, _, _, z⟩ := h
  exact z.elim
/-- an error of the class at S is what «except S» names -/
theorem exm_self {K : PySem.W.Frag} {S : Addr} (h1 : PySem.W.subIn K (.ref S) (.type "BaseException") = some true) (h2 : PySem.W.isClsIn K S = true) (h3 : PySem.W.typeIn K (.ref S) = some (.type "type")) (h4 : PySem.W.subIn K (.ref S) (.ref S) = some true) :
    PySem.W.exmOne K (.ref S) (.ref S) = some true := by
  have e1 : (PySem.W.subIn K (.ref S) (.type "BaseException") == some true) = true := by rw [h1] <;> rfl
  have e2 : ((PySem.W.clsIn K S).isSome && PySem.W.typeIn K (.ref S) == some (.type "type")) = true := by
    have h2' : (PySem.W.clsIn K S).isSome = true := h2
    rw [h2', h3] <;> rfl
  show (if (PySem.W.subIn K (.ref S) (.type "BaseException") == some true) = true then (if ((PySem.W.clsIn K S).isSome && PySem.W.typeIn K (.ref S) == some (.type "type")) = true then PySem.W.subIn K (.ref S) (.ref S) else none) else none) = some true
  rw [if_pos e1, if_pos e2]
  exact h4
end SR
/-! Plain evaluation of the core: one equation a node, for simp. -/
namespace SR
open PySem
section
variable {fs : List FI} {r r1 r2 : Sl} {α β : Type}
@[simp] theorem bind_ok (a : α) (r : Sl) (f : α → Sl → R β) : (R.ok a r).bind f = f a r := rfl
@[simp] theorem bind_err (c : Nat) (p : D) (r : Sl) (f : α → Sl → R β) : (R.err c p r : R α).bind f = .err c p r := rfl
@[simp] theorem sr_ok (a : α) (r : Sl) (f : α → Sl → SR) : (R.ok a r).sr f = f a r := rfl
@[simp] theorem sr_err (c : Nat) (p : D) (r : Sl) (f : α → Sl → SR) : (R.err c p r : R α).sr f = .err c p r := rfl
@[simp] theorem calm_ok (a : α) (r : Sl) : (R.ok a r).calm = .ok a r := rfl
@[simp] theorem okW_s (w : W) : okW (some w) r = .ok w r := rfl
@[simp] theorem okD_s (w : D) : okD (some w) r = .ok (.d w) r := rfl
@[simp] theorem okB_s (w : Bool) : okB (some w) r = .ok (.d (.bool w)) r := rfl
@[simp] theorem okS_s (r : Sl) : okS (some r) = .nx r := rfl
@[simp] theorem asBool_b (b : Bool) : asBool (.d (.bool b)) = some b := rfl
@[simp] theorem fixW_d (x : D) : fixW r (.d x) = some x := rfl
@[simp] theorem fixW_f (x : List D) : fixW r (.f x) = some (.list x) := rfl
theorem fixW_own {i : Nat} {l : List D} (h : r[i]? = some (.own l)) : fixW r (.s i) = some (.list l) := by simp [fixW, h]
theorem fixW_lent {i : Nat} {l : List D} (h : r[i]? = some (.lent l)) : fixW r (.s i) = some (.list l) := by simp [fixW, h]
theorem fixW_scr {i : Nat} {l : List D} (h : r[i]? = some (.scr l)) : fixW r (.s i) = some (.list l) := by simp [fixW, h]
@[simp] theorem fixX_d (x : D) : fixX r (.d x) = some x := rfl
@[simp] theorem fixX_f (x : List D) : fixX r (.f x) = some (.list x) := rfl
theorem fixX_own {i : Nat} {l : List D} (h : r[i]? = some (.own l)) : fixX r (.s i) = some (.list l) := by simp [fixX, h]
theorem fixX_lent {i : Nat} {l : List D} (h : r[i]? = some (.lent l)) : fixX r (.s i) = some (.list l) := by simp [fixX, h]
@[simp] theorem fixAll_nil : fixAll r [] = some [] := rfl
@[simp] theorem fixAll_d (x : D) (ws : List W) : fixAll r (.d x :: ws) = (fixAll r ws).map (x :: ·) := by
  simp only [fixAll, fixW]
  cases fixAll r ws <;> rfl
@[simp] theorem fixAll_f (x : List D) (ws : List W) : fixAll r (.f x :: ws) = (fixAll r ws).map (.list x :: ·) := by
  simp only [fixAll, fixW]
  cases fixAll r ws <;> rfl
theorem fixAll_s {i : Nat} {x : D} (ws : List W) (h : fixW r (.s i) = some x) : fixAll r (.s i :: ws) = (fixAll r ws).map (x :: ·) := by
  simp only [fixAll, h]
  cases fixAll r ws <;> rfl
@[simp] theorem keepW_d (x : D) : keepW r (.d x) = some (x, r) := rfl
@[simp] theorem keepW_f (x : List D) : keepW r (.f x) = some (.list x, r) := rfl
theorem keepW_own {i : Nat} {l : List D} (h : r[i]? = some (.own l)) : keepW r (.s i) = some (.list l, r.set i (.val (.list l))) := by simp [keepW, h]
@[simp] theorem keepAll_nil : keepAll r [] = some ([], r) := rfl
@[simp] theorem keepAll_d (x : D) (ws : List W) : keepAll r (.d x :: ws) = (keepAll r ws).map fun q => (x :: q.1, q.2) := by
  simp only [keepAll, keepW]
  cases keepAll r ws <;> rfl
@[simp] theorem keepAll_f (x : List D) (ws : List W) : keepAll r (.f x :: ws) = (keepAll r ws).map fun q => (.list x :: q.1, q.2) := by
  simp only [keepAll, keepW]
  cases keepAll r ws <;> rfl
@[simp] theorem stl_d (x : D) : stl (.d x) = .d x := rfl
@[simp] theorem stl_f (x : List D) : stl (.f x) = .d (.list x) := rfl
@[simp] theorem stl_s (i : Nat) : stl (.s i) = .s i := rfl
/-! ### expressions -/
theorem ev_val {i : Nat} {d : D} (h : r[i]? = some (.val d)) : evE fs (.var i) r = .ok (.d d) r := by simp [evE, h]
theorem ev_own {i : Nat} {d : List D} (h : r[i]? = some (.own d)) : evE fs (.var i) r = .ok (.s i) r := by simp [evE, h]
theorem ev_lent {i : Nat} {d : List D} (h : r[i]? = some (.lent d)) : evE fs (.var i) r = .ok (.s i) r := by simp [evE, h]
theorem ev_scr {i : Nat} {d : List D} (h : r[i]? = some (.scr d)) : evE fs (.var i) r = .ok (.s i) r := by simp [evE, h]
@[simp] theorem ev_lit (d : D) : evE fs (.lit d) r = .ok (.d d) r := by simp only [evE]
@[simp] theorem ev_glob (x : Str) (d : D) : evE fs (.glob x d) r = .ok (.d d) r := by simp only [evE]
def tupK (ws : List W) (r : Sl) : R W := match keepAll r ws with
    | some (xs, r2) => if xs.length ≤ sizeLine then .ok (.d (.tuple xs)) r2 else .bad
    | none => .bad
def lstK (ws : List W) (r : Sl) : R W := match keepAll r ws with
    | some (xs, r2) => if xs.length ≤ sizeLine then .ok (.f xs) r2 else .bad
    | none => .bad
theorem tupK_ok {ws : List W} {xs : List D} (h : keepAll r ws = some (xs, r2)) (hz : xs.length ≤ 16777216) : tupK ws r = .ok (.d (.tuple xs)) r2 := by
  simp only [tupK, h]
  exact if_pos (by rw [sizeLine_eq]; exact hz)
theorem lstK_ok {ws : List W} {xs : List D} (h : keepAll r ws = some (xs, r2)) (hz : xs.length ≤ 16777216) : lstK ws r = .ok (.f xs) r2 := by
  simp only [lstK, h]
  exact if_pos (by rw [sizeLine_eq]; exact hz)
@[simp] theorem ev_tup (es : CEs) : evE fs (.tup es) r = (evEs fs es r).bind fun ws r1 => tupK ws r1 := by simp only [evE]; rfl
@[simp] theorem ev_lst (es : CEs) : evE fs (.lst es) r = (evEs fs es r).bind fun ws r1 => lstK ws r1 := by simp only [evE]; rfl
def binK (o : Operator) (wa wb : W) (r : Sl) : R W := match fixX r wa, fixX r wb with
    | some x, some y => okW (binD o x y) r
    | _, _ => .bad
theorem binK_ok {o : Operator} {wa wb w : W} {x y : D} (h1 : fixX r wa = some x) (h2 : fixX r wb = some y) (h3 : binD o x y = some w) : binK o wa wb r = .ok w r := by simp [binK, h1, h2, h3]
@[simp] theorem ev_bin (o : Operator) (a b : CE) : evE fs (.bin o a b) r = (evE fs a r).bind fun wa r1 => (evE fs b r1).bind fun wb r2 => binK o wa wb r2 := by simp only [evE]; rfl
def negK (w : W) (r : Sl) : R W := match w with
    | .d (.int i) => .ok (.d (.int (-i))) r
    | _ => .bad
@[simp] theorem negK_i (i : Int) : negK (.d (.int i)) r = .ok (.d (.int (-i))) r := rfl
@[simp] theorem ev_neg (a : CE) : evE fs (.neg a) r = (evE fs a r).bind fun wa r1 => negK wa r1 := by simp only [evE]; rfl
def cmpK (o : CmpOp) (wa wb : W) (r : Sl) : R W := match fixW r wa, fixW r wb with
    | some x, some y => okB (cmpD o x y) r
    | _, _ => .bad
theorem cmpK_ok {o : CmpOp} {wa wb : W} {x y : D} {b : Bool} (h1 : fixW r wa = some x) (h2 : fixW r wb = some y) (h3 : cmpD o x y = some b) : cmpK o wa wb r = .ok (.d (.bool b)) r := by simp [cmpK, h1, h2, h3]
@[simp] theorem ev_cmp (o : CmpOp) (a b : CE) : evE fs (.cmp o a b) r = (evE fs a r).bind fun wa r1 => (evE fs b r1).bind fun wb r2 => cmpK o wa wb r2 := by simp only [evE]; rfl
/-- a test in the middle -/
def tstK (w : W) (x y : R W) : R W := match asBool w with
    | some true => x
    | some false => y
    | none => .bad
@[simp] theorem tstK_t (x y : R W) : tstK (.d (.bool true)) x y = x := rfl
@[simp] theorem tstK_f (x y : R W) : tstK (.d (.bool false)) x y = y := rfl
theorem tstK_and {p q : Bool} : tstK (.d (.bool p)) (.ok (.d (.bool q)) r) (.ok (.d (.bool false)) r) = .ok (.d (.bool (p && q))) r := by cases p <;> rfl
theorem tstK_or {p q : Bool} : tstK (.d (.bool p)) (.ok (.d (.bool true)) r) (.ok (.d (.bool q)) r) = .ok (.d (.bool (p || q))) r := by cases p <;> rfl
@[simp] theorem ev_and (a b : CE) : evE fs (.andE a b) r = (evE fs a r).bind fun w r1 => tstK w (evE fs b r1) (.ok (.d (.bool false)) r1) := by simp only [evE]; rfl
@[simp] theorem ev_or (a b : CE) : evE fs (.orE a b) r = (evE fs a r).bind fun w r1 => tstK w (.ok (.d (.bool true)) r1) (evE fs b r1) := by simp only [evE]; rfl
@[simp] theorem ev_ite (c a b : CE) : evE fs (.ite c a b) r = (evE fs c r).bind fun w r1 => tstK w (evE fs a r1) (evE fs b r1) := by simp only [evE]; rfl
def notK (w : W) (r : Sl) : R W := match asBool w with
    | some b => .ok (.d (.bool (!b))) r
    | none => .bad
@[simp] theorem notK_b (b : Bool) : notK (.d (.bool b)) r = .ok (.d (.bool (!b))) r := rfl
@[simp] theorem ev_not (a : CE) : evE fs (.notE a) r = (evE fs a r).bind fun w r1 => notK w r1 := by simp only [evE]; rfl
def chnK (o : CmpOp) (wa wb : W) (r : Sl) (x y : R W) : R W := match fixW r wa, fixW r wb with
    | some a, some b => (match cmpD o a b with
      | some true => x
      | some false => y
      | none => .bad)
    | _, _ => .bad
theorem chnK_ok {o : CmpOp} {wa wb : W} {a b : D} {p : Bool} {x y : R W} (h1 : fixW r wa = some a) (h2 : fixW r wb = some b) (h3 : cmpD o a b = some p) : chnK o wa wb r x y = tstK (.d (.bool p)) x y := by
  simp only [chnK, h1, h2, h3]
  cases p <;> rfl
@[simp] theorem ev_chain (o o' : CmpOp) (a b c : CE) : evE fs (.chain o o' a b c) r = (evE fs a r).bind fun wa r1 => (evE fs b r1).bind fun wb r2 => chnK o wa wb r2 ((evE fs c r2).bind fun wc r3 => cmpK o' wb wc r3) (.ok (.d (.bool false)) r2) := by
  simp only [evE]
  rfl
def idxK (wa wi : W) (r : Sl) : R W := match fixW r wa, fixW r wi with
    | some x, some y => okD (idxD x y) r
    | _, _ => .bad
theorem idxK_ok {wa wi : W} {x y z : D} (h1 : fixW r wa = some x) (h2 : fixW r wi = some y) (h3 : idxD x y = some z) : idxK wa wi r = .ok (.d z) r := by simp [idxK, h1, h2, h3]
@[simp] theorem ev_idx (a i : CE) : evE fs (.idx a i) r = (evE fs a r).bind fun wa r1 => (evE fs i r1).bind fun wi r2 => idxK wa wi r2 := by simp only [evE]; rfl
def slcK (wa : W) (l h : Option Int) (r : Sl) : R W := match fixW r wa with
    | some x => okW (slcD x l h) r
    | none => .bad
theorem slcK_ok {wa w : W} {x : D} {l h : Option Int} (h1 : fixW r wa = some x) (h2 : slcD x l h = some w) : slcK wa l h r = .ok w r := by simp [slcK, h1, h2]
@[simp] theorem ev_slc (a : CE) (hl : Bool) (lo : CE) (hh : Bool) (hi : CE) : evE fs (.slc a hl lo hh hi) r = (evE fs a r).bind fun wa r1 => (partE hl (evE fs lo r1) r1).bind fun l r2 => (partE hh (evE fs hi r2) r2).bind fun h r3 => slcK wa l h r3 := by simp only [evE]; rfl
@[simp] theorem partE_f (x : R W) : partE false x r = .ok none r := rfl
@[simp] theorem partE_t (i : Int) (r1 : Sl) : partE true (.ok (.d (.int i)) r1) r = .ok (some i) r1 := rfl
theorem ev_call {j : Nat} {f : FI} (es : CEs) (h : fs[j]? = some f) : evE fs (.call j es) r = (evEs fs es r).bind fun ws r1 => callF f ws r1 := by simp only [evE, h]
def kwK (f : FI) (ws ks : List W) (perm : List Nat) (r : Sl) : R W := match permW (ws.map stl ++ ks.map stl) perm with
      | some qs => callF f qs r
      | none => .bad
theorem ev_callk {j : Nat} {f : FI} (es : CEs) (kn : List Str) (kes : CEs) (perm : List Nat) (h : fs[j]? = some f) : evE fs (.callk j es kn kes perm) r = (evEs fs es r).bind fun ws r1 => (evEs fs kes r1).bind fun ks r2 => kwK f ws ks perm r2 := by
  simp only [evE, h]
  rfl
def bltK (b : Blt) (ws : List W) (r : Sl) : R W := match fixAll r ws with
    | some xs => okW (bltD b xs) r
    | none => .bad
theorem bltK_ok {b : Blt} {ws : List W} {xs : List D} {w : W} (h1 : fixAll r ws = some xs) (h2 : bltD b xs = some w) : bltK b ws r = .ok w r := by simp [bltK, h1, h2]
@[simp] theorem ev_blt (b : Blt) (es : CEs) : evE fs (.blt b es) r = (evEs fs es r).bind fun ws r1 => bltK b ws r1 := by simp only [evE]; rfl
def isaK (t : Ty) (w : W) (r : Sl) : R W := match fixX r w with
    | some x => .ok (.d (.bool (isaD t x))) r
    | none => .bad
@[simp] theorem isaK_d (t : Ty) (x : D) : isaK t (.d x) r = .ok (.d (.bool (isaD t x))) r := rfl
@[simp] theorem ev_isa (t : Ty) (a : CE) : evE fs (.isa t a) r = (evE fs a r).bind fun w r1 => isaK t w r1 := by simp only [evE]; rfl
def compK (fs : List FI) (own : List (Str × Nat)) (tg : Tg) (hc : Bool) (c elt : CE) (xs : List D) (r1 : Sl) : R W := if xs.length ≤ sizeLine then
      ((compL (own.map (·.2)) (setTg tg) (fun q => if hc then (evE fs c q).bind fun w q1 => match asBool w with | some b => .ok b q1 | none => .bad else .ok true q) (fun q => evE fs elt q) xs [] (wipeS r1 (own.map (·.2)))).calm).bind fun acc r2 => .ok (.f acc) (backS r1 r2 (own.map (·.2)))
    else .bad
@[simp] theorem ev_comp (own : List (Str × Nat)) (it : CI) (tg : Tg) (hc : Bool) (c elt : CE) : evE fs (.comp own it tg hc c elt) r = (evI fs it r).bind fun xs r1 => compK fs own tg hc c elt xs r1 := by simp only [evE]; rfl
def refK (x : R W) : R W := match x with
    | .ok _ r1 => .ok (.d (.str "")) r1
    | .err 0 p r1 => .ok (.d p) r1
    | _ => .bad
@[simp] theorem refK_ok (w : W) (r : Sl) : refK (.ok w r) = .ok (.d (.str "")) r := rfl
@[simp] theorem refK_err (p : D) (r : Sl) : refK (.err 0 p r) = .ok (.d p) r := rfl
@[simp] theorem ev_refused (e : CE) : evE fs (.refused e) r = refK (evE fs e r) := by
  first
    | (simp only [evE, refK]; done)
    | (simp only [evE, refK]
       cases evE fs e r with
       | ok w r1 => rfl
       | err c p r1 => cases c <;> rfl
       | bad => rfl)
@[simp] theorem evs_nil : evEs fs .nil r = .ok [] r := by simp only [evEs]
@[simp] theorem evs_one (e : CE) : evEs fs (.cons e .nil) r = (evE fs e r).bind fun w r1 => .ok [w] r1 := by simp only [evEs]
@[simp] theorem evs_cons (e e2 : CE) (es : CEs) : evEs fs (.cons e (.cons e2 es)) r = (evE fs e r).bind fun w r1 => (evEs fs (.cons e2 es) r1).bind fun ws r2 => .ok (stl w :: ws) r2 := by
  rw [show evEs fs (.cons e (.cons e2 es)) r = (evE fs e r).bind fun w r1 => (evEs fs (.cons e2 es) r1).bind fun ws r2 => .ok (stl w :: ws) r2 from by simp only [evEs]]
@[simp] theorem evi_seq (e : CE) : evI fs (.seq e) r = (evE fs e r).bind fun w r1 => itmI (fun l => l) r1 w := by simp only [evI]
@[simp] theorem evi_enum (e : CE) : evI fs (.enum e) r = (evE fs e r).bind fun w r1 => itmI (enumD 0) r1 w := by simp only [evI]
@[simp] theorem evi_zip (a b : CE) : evI fs (.zip a b) r = (evE fs a r).bind fun wa r1 => (evE fs b r1).bind fun wb r2 => zipI r2 wa wb := by simp only [evI]
def rngK (lo hi : Int) (r : Sl) : R (List D) := if -(2 ^ 62) ≤ lo ∧ lo < 2 ^ 62 ∧ -(2 ^ 62) ≤ hi ∧ hi < 2 ^ 62 then .ok (rangeD lo (hi - lo).toNat) r else .bad
theorem rngK_ok {lo hi : Int} (h1 : -4611686018427387904 ≤ lo) (h2 : lo < 4611686018427387904) (h3 : -4611686018427387904 ≤ hi) (h4 : hi < 4611686018427387904) : rngK lo hi r = .ok (rangeD lo (hi - lo).toNat) r := if_pos ⟨by omega, by omega, by omega, by omega⟩
def rngW1 (w : W) (r : Sl) : R (List D) := match w with
    | .d (.int n) => if -(2 ^ 62) ≤ n ∧ n < 2 ^ 62 then .ok (rangeD 0 n.toNat) r else .bad
    | _ => .bad
theorem rngW1_ok {n : Int} (h1 : -4611686018427387904 ≤ n) (h2 : n < 4611686018427387904) : rngW1 (.d (.int n)) r = .ok (rangeD 0 n.toNat) r := if_pos ⟨by omega, by omega⟩
def rngW2 (wa wb : W) (r : Sl) : R (List D) := match wa, wb with
    | .d (.int lo), .d (.int hi) => rngK lo hi r
    | _, _ => .bad
@[simp] theorem rngW2_i (lo hi : Int) : rngW2 (.d (.int lo)) (.d (.int hi)) r = rngK lo hi r := rfl
@[simp] theorem evi_rng1 (a : CE) : evI fs (.rng1 a) r = (evE fs a r).bind fun w r1 => rngW1 w r1 := by simp only [evI]; rfl
@[simp] theorem evi_rng2 (a b : CE) : evI fs (.rng2 a b) r = (evE fs a r).bind fun wa r1 => (evE fs b r1).bind fun wb r2 => rngW2 wa wb r2 := by simp only [evI]; rfl
@[simp] theorem itmI_l (g : List D → List D) (l : List D) : itmI g r (.d (.list l)) = .ok (g l) r := rfl
@[simp] theorem itmI_t (g : List D → List D) (l : List D) : itmI g r (.d (.tuple l)) = .ok (g l) r := rfl
@[simp] theorem itmI_f (g : List D → List D) (l : List D) : itmI g r (.f l) = .ok (g l) r := rfl
@[simp] theorem zipI_tt (l m : List D) : zipI r (.d (.tuple l)) (.d (.tuple m)) = .ok (zipD l m) r := rfl
/-! ### statements -/
def setK (i : Nat) (own : Bool) (w : W) (r : Sl) : SR := okS (setW r i own w)
theorem setK_val {i : Nat} {sv : SV} {x : D} (h : r[i]? = some sv) (h2 : ∀ l, sv ≠ .lent l) (h3 : ∀ l, sv ≠ .scr l) : setK i false (.d x) r = .nx (r.set i (.val x)) := by
  cases sv <;> first | (exact absurd rfl (h2 _)) | (exact absurd rfl (h3 _)) | simp [setK, SR.setW, h, keepW]
theorem setK_no {i : Nat} {x : D} (h : r[i]? = some .no) : setK i false (.d x) r = .nx (r.set i (.val x)) := setK_val h (fun _ e => by cases e) fun _ e => by cases e
theorem setK_re {i : Nat} {x y : D} (h : r[i]? = some (.val y)) : setK i false (.d x) r = .nx (r.set i (.val x)) := setK_val h (fun _ e => by cases e) fun _ e => by cases e
theorem setK_nof {i : Nat} {l : List D} (h : r[i]? = some .no) : setK i false (.f l) r = .nx (r.set i (.val (.list l))) := by simp [setK, SR.setW, h, keepW]
theorem setK_ref {i : Nat} {y : D} {l : List D} (h : r[i]? = some (.val y)) : setK i false (.f l) r = .nx (r.set i (.val (.list l))) := by simp [setK, SR.setW, h, keepW]
theorem setK_own {i : Nat} {l : List D} (h : r[i]? = some .no) : setK i true (.f l) r = .nx (r.set i (.own l)) := by simp [setK, SR.setW, h]
@[simp] theorem ex_set (i : Nat) (own : Bool) (e : CE) : exS fs (.set i own e) r = (evE fs e r).sr fun w r1 => setK i own w r1 := by simp only [exS]; rfl
def asgK (tg : Tg) (w : W) (r : Sl) : SR := match w with
    | .d x => okS (setTg tg x r)
    | _ => .bad
@[simp] theorem asgK_d (tg : Tg) (x : D) : asgK tg (.d x) r = okS (setTg tg x r) := rfl
@[simp] theorem ex_asg (tg : Tg) (e : CE) : exS fs (.asg tg e) r = (evE fs e r).sr fun w r1 => asgK tg w r1 := by simp only [exS]; rfl
def par2K (i : Nat) (oi : Bool) (j : Nat) (oj : Bool) (wa wb : W) (r2 : Sl) : SR := if nos wa && nos wb then match setW r2 i oi wa with
    | some r3 => okS (setW r3 j oj wb)
    | none => .bad
    else .bad
@[simp] theorem ex_par2 (i : Nat) (oi : Bool) (j : Nat) (oj : Bool) (a b : CE) : exS fs (.par2 i oi j oj a b) r = (evE fs a r).sr fun wa r1 => (evE fs b r1).sr fun wb r2 => par2K i oi j oj wa wb r2 := by simp only [exS]; rfl
theorem par2K_ok {i j : Nat} {x y : D} (h1 : r[i]? = some .no) (h2 : (r.set i (.val x))[j]? = some .no) : par2K i false j false (.d x) (.d y) r = .nx ((r.set i (.val x)).set j (.val y)) := by simp [par2K, SR.setW, nos, h1, h2, keepW]
def appK (i : Nat) (w : W) (r1 : Sl) : SR := match keepW r1 w with
    | some (x, r2) => okS (appL r2 i fun l => if l.length < sizeLine then some (l ++ [x]) else none)
    | none => .bad
theorem appK_own {i : Nat} {x : D} {l : List D} (h : r[i]? = some (.own l)) (hz : l.length < 16777216) : appK i (.d x) r = .nx (r.set i (.own (l ++ [x]))) := by
  have hz : l.length < sizeLine := by rw [sizeLine_eq]; exact hz
  simp [appK, keepW, appL, h, hz]
theorem ex_app {i : Nat} {l : List D} (e : CE) (h : r[i]? = some (.own l)) : exS fs (.app i e) r = (evE fs e r).sr fun w r1 => appK i w r1 := by
  simp only [exS, ownS, h, if_true]
  rfl
def extK (i : Nat) (w : W) (r1 : Sl) : SR := match fixX r1 w with
    | some (.list m) => okS (appL r1 i fun l => if l.length + m.length ≤ sizeLine then some (l ++ m) else none)
    | _ => .bad
theorem extK_own {i : Nat} {m l : List D} (h : r[i]? = some (.own l)) (hz : l.length + m.length ≤ 16777216) : extK i (.f m) r = .nx (r.set i (.own (l ++ m))) := by
  have hz : l.length + m.length ≤ sizeLine := by rw [sizeLine_eq]; exact hz
  simp [extK, appL, h, hz]
theorem ex_ext {i : Nat} {l : List D} (e : CE) (h : r[i]? = some (.own l)) : exS fs (.ext i e) r = (evE fs e r).sr fun w r1 => extK i w r1 := by
  simp only [exS, ownS, h, if_true]
  rfl
@[simp] theorem ex_expr (e : CE) : exS fs (.expr e) r = (evE fs e r).sr fun _ r1 => .nx r1 := by simp only [exS]
@[simp] theorem ex_ret (e : CE) : exS fs (.ret e) r = (evE fs e r).sr fun w r1 => retS r1 w := by simp only [exS]
@[simp] theorem retS_d (x : D) : retS r (.d x) = .rt (.dat x) r := rfl
@[simp] theorem retS_f (x : List D) : retS r (.f x) = .rt (.frs x) r := rfl
theorem retS_own {i : Nat} {l : List D} (h : r[i]? = some (.own l)) : retS r (.s i) = .rt (.frs l) (r.set i .no) := by simp [retS, h]
def ifK (w : W) (x y : SR) : SR := match asBool w with
    | some true => x
    | some false => y
    | none => .bad
@[simp] theorem ifK_b (b : Bool) (x y : SR) : ifK (.d (.bool b)) x y = if b then x else y := by cases b <;> rfl
@[simp] theorem ex_if (c : CE) (a b : CSs) : exS fs (.ife c a b) r = (evE fs c r).sr fun w r1 => ifK w (exSs fs a r1) (exSs fs b r1) := by simp only [exS]; rfl
def forK (fs : List FI) (tg : Tg) (body : CSs) (xs : List D) (r : Sl) : SR := forL (setTg tg) (fun q => exSs fs body q) xs r
@[simp] theorem ex_for (it : CI) (tg : Tg) (body : CSs) : exS fs (.forS it tg body) r = (evI fs it r).sr fun xs r1 => forK fs tg body xs r1 := by simp only [exS]; rfl
def raisK (c : Nat) (w : W) (r : Sl) : SR := match keepW r w with
    | some (x, r2) => .err c x r2
    | none => .bad
@[simp] theorem raisK_d (c : Nat) (x : D) : raisK c (.d x) r = .err c x r := rfl
@[simp] theorem ex_rais (c : Nat) (e : CE) : exS fs (.rais c e) r = (evE fs e r).sr fun w r1 => raisK c w r1 := by simp only [exS]; rfl
/-- a statement, then the rest -/
def seqK (x : SR) (f : Sl → SR) : SR := match x with
    | .nx r1 => f r1
    | .bk r1 => .bk r1
    | .ct r1 => .ct r1
    | .rt v r1 => .rt v r1
    | .err c p r1 => .err c p r1
    | .bad => .bad
@[simp] theorem seqK_nx (r : Sl) (f : Sl → SR) : seqK (.nx r) f = f r := rfl
@[simp] theorem seqK_rt (v : Ret) (r : Sl) (f : Sl → SR) : seqK (.rt v r) f = .rt v r := rfl
@[simp] theorem seqK_err (c : Nat) (p : D) (r : Sl) (f : Sl → SR) : seqK (.err c p r) f = .err c p r := rfl
theorem seqK_if (b : Bool) (x y : SR) (f : Sl → SR) : seqK (if b then x else y) f = if b then seqK x f else seqK y f := by cases b <;> rfl
@[simp] theorem exs_nil : exSs fs .nil r = .nx r := by simp only [exSs]
@[simp] theorem exs_cons (s : CS) (ss : CSs) : exSs fs (.cons s ss) r = seqK (exS fs s r) fun r1 => exSs fs ss r1 := by
  simp only [exSs]
  cases exS fs s r <;> rfl
/-- a def's end -/
def endK (as : Sl) (x : SR) : FR := match x with
  | .nx r => endB as r (.dat .none)
  | .rt v r => endB as r v
  | .err c p r => if keepsL as r then .err c p (proj as r) else .bad
  | _ => .bad
theorem runB_eq (n : Nat) (body : CSs) (as : Sl) : runB n fs body as = endK as (exSs fs body (as ++ List.replicate (n - as.length) .no)) := by
  unfold runB endK
  cases exSs fs body (as ++ List.replicate (n - as.length) .no) <;> rfl
@[simp] theorem endK_rt (as : Sl) (v : Ret) (r : Sl) : endK as (.rt v r) = endB as r v := rfl
@[simp] theorem endK_nx (as : Sl) (r : Sl) : endK as (.nx r) = endB as r (.dat .none) := rfl
theorem endK_if (as : Sl) (b : Bool) (x y : SR) : endK as (if b then x else y) = if b then endK as x else endK as y := by cases b <;> rfl
/-! ### calls -/
def callK (f : FI) (ws : List W) (as r : Sl) : R W := match f.fn as with
      | .ok v as' => .ok (retW v) (backA ws as as' r)
      | .err c p as' => .err c p (backA ws as as' r)
      | .bad => .bad
theorem callF_ok {f : FI} {ws : List W} {as : Sl} (h : argAll r f.lp ws = some (as, r1)) (h1 : nLent as ≤ 1) (h2 : lentIn ws as r1 = true) : callF f ws r = callK f ws as r1 := by
  simp only [callF, h, h1, h2, and_self, if_true]
  rfl
theorem callK_ok {f : FI} {ws : List W} {as as' : Sl} {v : Ret} (h : f.fn as = .ok v as') : callK f ws as r = .ok (retW v) (backA ws as as' r) := by simp only [callK, h]
theorem callK_err {f : FI} {ws : List W} {as as' : Sl} {c : Nat} {p : D} (h : f.fn as = .err c p as') : callK f ws as r = .err c p (backA ws as as' r) := by simp only [callK, h]
@[simp] theorem argAll_nil : argAll r [] [] = some ([], r) := rfl
@[simp] theorem argAll_d (x : D) (bs : List Pk) (ws : List W) : argAll r (.dat :: bs) (.d x :: ws) = (argAll r bs ws).map fun q => (.val x :: q.1, q.2) := by
  simp only [argAll, argW, keepW]
  cases argAll r bs ws <;> rfl
@[simp] theorem argAll_f (x : List D) (bs : List Pk) (ws : List W) : argAll r (.dat :: bs) (.f x :: ws) = (argAll r bs ws).map fun q => (.val (.list x) :: q.1, q.2) := by
  simp only [argAll, argW, keepW]
  cases argAll r bs ws <;> rfl
theorem argAll_lent {i : Nat} {l : List D} (bs : List Pk) (ws : List W) (h : r[i]? = some (.lent l)) : argAll r (.lent :: bs) (.s i :: ws) = (argAll r bs ws).map fun q => (.lent l :: q.1, q.2) := by
  simp only [argAll, argW, h]
  cases argAll r bs ws <;> rfl
theorem argAll_lown {i : Nat} {l : List D} (bs : List Pk) (ws : List W) (h : r[i]? = some (.own l)) : argAll r (.lent :: bs) (.s i :: ws) = (argAll r bs ws).map fun q => (.lent l :: q.1, q.2) := by
  simp only [argAll, argW, h]
  cases argAll r bs ws <;> rfl
/-- all arguments plain -/
def valsD : List D → Sl := List.map SV.val
end
end SR
namespace KL
open PySem PySem.Spec PyProof.Rows L2 SR
def topS (i : Nat) : Stmt := PySem.Challenge.pw_spinround_k00_whole_lists.main.body.getD i (.Pass ⟨0, 0, 0, 0⟩)
def d_MOST_SONGS : D := .int 8
def d_MOST_GAP : D := .int 4
def d_MOST_JUMP : D := .int 180
def d_MOST_TURN : D := .int 6
def d_KEYS : D := .int 12
def d_MOST_PLAYED : D := .int 300
def d_BOUNDS : D := .tuple [.tuple [.int 0, .int 9], .tuple [.int 0, .int 5], .tuple [.int 40, .int 220], .tuple [.int 0, .int 11], .tuple [.int 1, .int 60]]
def d_WORDS : D := .tuple [.str "song", .str "maker", .str "mood"]
def b_is_in : CSs := .cons (.ret (.andE (.isa .int (.var 0)) (.andE (.notE (.isa .bool (.var 0))) (.chain .LtE .LtE (.var 1) (.var 0) (.var 2))))) .nil
def S_is_in : SC := { N := ["value", "low", "high"], sc := defScope (topS 4), fnS := fun _ => true, fs := [], cs := [], nb := ["isinstance", "int", "bool"], lv := 0, lam := false, bad := false }
def f_is_in : FI := ⟨"is_in", ["value", "low", "high"], [.dat, .dat, .dat], [], 1, runB 3 [] b_is_in⟩
def b_are_in : CSs := .cons (.ret (.andE (.isa .tuple (.var 0)) (.andE (.chain .LtE .LtE (.var 1) (.blt .len (.cons (.var 0) .nil)) (.var 2)) (.blt .all (.cons (.comp [("part", 5)] (.seq (.var 0)) (.nm 5) false (.lit .none) (.call 0 (.cons (.var 5) (.cons (.var 3) (.cons (.var 4) .nil))))) .nil))))) .nil
def S_are_in : SC := { N := ["value", "least", "most", "low", "high", "part"], sc := defScope (topS 5), fnS := fun _ => true, fs := [f_is_in], cs := [], nb := ["isinstance", "tuple", "len", "all"], lv := 1, lam := false, bad := false }
def f_are_in : FI := ⟨"are_in", ["value", "least", "most", "low", "high"], [.dat, .dat, .dat, .dat, .dat], [], 2, runB 6 [f_is_in] b_are_in⟩
def b_is_tuple : CSs := .cons (.ret (.andE (.isa .tuple (.var 0)) (.chain .LtE .LtE (.var 1) (.blt .len (.cons (.var 0) .nil)) (.var 2)))) .nil
def S_is_tuple : SC := { N := ["value", "least", "most"], sc := defScope (topS 6), fnS := fun _ => true, fs := [], cs := [], nb := ["isinstance", "tuple", "len"], lv := 0, lam := false, bad := false }
def f_is_tuple : FI := ⟨"is_tuple", ["value", "least", "most"], [.dat, .dat, .dat], [], 1, runB 3 [] b_is_tuple⟩
def b_demand : CSs := .cons (.ife (.notE (.var 0)) (.cons (.rais 0 (.var 1)) .nil) (.nil)) .nil
def S_demand : SC := { N := ["is_good", "name"], sc := defScope (topS 7), fnS := fun _ => true, fs := [], cs := [], nb := [], lv := 0, lam := false, bad := true }
def f_demand : FI := ⟨"demand", ["is_good", "name"], [.dat, .dat], [], 1, runB 2 [] b_demand⟩
def b_is_song : CSs := .cons (.ife (.notE (.call 0 (.cons (.var 0) (.cons (.lit (.int 5)) (.cons (.lit (.int 5)) .nil))))) (.cons (.ret (.lit (.bool false))) .nil) (.nil)) (.cons (.ret (.blt .all (.cons (.comp [("part", 1), ("low", 2), ("high", 3)] (.zip (.var 0) (.glob "BOUNDS" d_BOUNDS)) (.tp (.cons (.nm 1) (.cons (.tp (.cons (.nm 2) (.cons (.nm 3) .nil))) .nil))) false (.lit .none) (.call 1 (.cons (.var 1) (.cons (.var 2) (.cons (.var 3) .nil))))) .nil))) .nil)
def S_is_song : SC := { N := ["value", "part", "low", "high"], sc := defScope (topS 17), fnS := fun _ => true, fs := [f_is_tuple, f_is_in], cs := [("BOUNDS", d_BOUNDS)], nb := ["all", "zip"], lv := 1, lam := false, bad := false }
def f_is_song : FI := ⟨"is_song", ["value"], [.dat], [], 2, runB 4 [f_is_tuple, f_is_in] b_is_song⟩
def b_are_songs : CSs := .cons (.ret (.andE (.call 0 (.cons (.var 0) (.cons (.lit (.int 1)) (.cons (.glob "MOST_SONGS" d_MOST_SONGS) .nil)))) (.blt .all (.cons (.comp [("row", 1)] (.seq (.var 0)) (.nm 1) false (.lit .none) (.call 1 (.cons (.var 1) .nil))) .nil)))) .nil
def S_are_songs : SC := { N := ["value", "row"], sc := defScope (topS 18), fnS := fun _ => true, fs := [f_is_tuple, f_is_song], cs := [("MOST_SONGS", d_MOST_SONGS)], nb := ["all"], lv := 2, lam := false, bad := false }
def f_are_songs : FI := ⟨"are_songs", ["value"], [.dat], [], 3, runB 2 [f_is_tuple, f_is_song] b_are_songs⟩
def b_are_rules : CSs := .cons (.ife (.orE (.notE (.call 0 (.cons (.var 0) (.cons (.lit (.int 5)) (.cons (.lit (.int 5)) .nil))))) (.notE (.call 1 (.cons (.slc (.var 0) false (.lit .none) true (.lit (.int 3))) (.cons (.lit (.int 3)) (.cons (.lit (.int 3)) (.cons (.lit (.int 1)) (.cons (.glob "MOST_GAP" d_MOST_GAP) .nil)))))))) (.cons (.ret (.lit (.bool false))) .nil) (.nil)) (.cons (.ret (.andE (.call 2 (.cons (.idx (.var 0) (.lit (.int 3))) (.cons (.lit (.int 0)) (.cons (.glob "MOST_JUMP" d_MOST_JUMP) .nil)))) (.call 2 (.cons (.idx (.var 0) (.lit (.int 4))) (.cons (.lit (.int 0)) (.cons (.glob "MOST_TURN" d_MOST_TURN) .nil)))))) .nil)
def S_are_rules : SC := { N := ["value"], sc := defScope (topS 19), fnS := fun _ => true, fs := [f_is_tuple, f_are_in, f_is_in], cs := [("MOST_GAP", d_MOST_GAP), ("MOST_JUMP", d_MOST_JUMP), ("MOST_TURN", d_MOST_TURN)], nb := [], lv := 2, lam := false, bad := false }
def f_are_rules : FI := ⟨"are_rules", ["value"], [.dat], [], 3, runB 1 [f_is_tuple, f_are_in, f_is_in] b_are_rules⟩
def b_demand_rules : CSs := .cons (.expr (.call 1 (.cons (.call 0 (.cons (.var 0) .nil)) (.cons (.lit (.str "songs")) .nil)))) (.cons (.expr (.call 1 (.cons (.call 2 (.cons (.var 1) .nil)) (.cons (.lit (.str "rules")) .nil)))) .nil)
def S_demand_rules : SC := { N := ["songs", "rules"], sc := defScope (topS 20), fnS := fun _ => true, fs := [f_are_songs, f_demand, f_are_rules], cs := [], nb := [], lv := 3, lam := false, bad := false }
def f_demand_rules : FI := ⟨"demand_rules", ["songs", "rules"], [.dat, .dat], [], 4, runB 2 [f_are_songs, f_demand, f_are_rules] b_demand_rules⟩
def b_is_list : CSs := .cons (.ret (.call 0 (.cons (.var 1) (.cons (.lit (.int 0)) (.cons (.var 2) (.cons (.lit (.int 0)) (.cons (.bin .Sub (.blt .len (.cons (.var 0) .nil)) (.lit (.int 1))) .nil))))))) .nil
def S_is_list : SC := { N := ["songs", "value", "most"], sc := defScope (topS 21), fnS := fun _ => true, fs := [f_are_in], cs := [], nb := ["len"], lv := 2, lam := false, bad := false }
def f_is_list : FI := ⟨"is_list", ["songs", "value", "most"], [.dat, .dat, .dat], [], 3, runB 3 [f_are_in] b_is_list⟩
def b_steps_of : CSs := .cons (.set 2 false (.blt .abs (.cons (.bin .Sub (.var 0) (.var 1)) .nil))) (.cons (.ret (.blt .min2 (.cons (.var 2) (.cons (.bin .Sub (.glob "KEYS" d_KEYS) (.var 2)) .nil)))) .nil)
def S_steps_of : SC := { N := ["one", "two", "apart"], sc := defScope (topS 22), fnS := fun _ => true, fs := [], cs := [("KEYS", d_KEYS)], nb := ["abs", "min"], lv := 0, lam := false, bad := false }
def f_steps_of : FI := ⟨"steps_of", ["one", "two"], [.dat, .dat], [], 1, runB 3 [] b_steps_of⟩
def b_key_steps : CSs := .cons (.expr (.call 1 (.cons (.call 0 (.cons (.var 0) (.cons (.lit (.int 0)) (.cons (.bin .Sub (.glob "KEYS" d_KEYS) (.lit (.int 1))) .nil)))) (.cons (.lit (.str "one")) .nil)))) (.cons (.expr (.call 1 (.cons (.call 0 (.cons (.var 1) (.cons (.lit (.int 0)) (.cons (.bin .Sub (.glob "KEYS" d_KEYS) (.lit (.int 1))) .nil)))) (.cons (.lit (.str "two")) .nil)))) (.cons (.ret (.call 2 (.cons (.var 0) (.cons (.var 1) .nil)))) .nil))
def S_key_steps : SC := { N := ["one", "two"], sc := defScope (topS 23), fnS := fun _ => true, fs := [f_is_in, f_demand, f_steps_of], cs := [("KEYS", d_KEYS)], nb := [], lv := 1, lam := false, bad := false }
def f_key_steps : FI := ⟨"key_steps", ["one", "two"], [.dat, .dat], [(0, ["two", "one"], [1, 0])], 2, runB 2 [f_is_in, f_demand, f_steps_of] b_key_steps⟩
def b_marks_of : CSs := .cons (.ret (.tup (.cons (.var 1) (.cons (.idx (.idx (.var 0) (.var 1)) (.lit (.int 0))) (.cons (.idx (.idx (.var 0) (.var 1)) (.lit (.int 1))) .nil))))) .nil
def S_marks_of : SC := { N := ["songs", "song"], sc := defScope (topS 24), fnS := fun _ => true, fs := [], cs := [], nb := [], lv := 0, lam := false, bad := false }
def f_marks_of : FI := ⟨"marks_of", ["songs", "song"], [.dat, .dat], [], 1, runB 2 [] b_marks_of⟩
def b_broken : CSs := .cons (.set 5 true (.lst (.nil))) (.cons (.forS (.enum (.glob "WORDS" d_WORDS)) (.tp (.cons (.nm 6) (.cons (.nm 7) .nil))) (.cons (.ife (.andE (.cmp .Lt (.var 4) (.idx (.var 1) (.var 6))) (.cmp .Eq (.idx (.call 0 (.cons (.var 0) (.cons (.var 2) .nil))) (.var 6)) (.idx (.call 0 (.cons (.var 0) (.cons (.var 3) .nil))) (.var 6)))) (.cons (.app 5 (.var 7)) .nil) (.nil)) .nil)) (.cons (.ife (.andE (.cmp .Eq (.var 4) (.lit (.int 1))) (.cmp .Gt (.blt .abs (.cons (.bin .Sub (.idx (.idx (.var 0) (.var 2)) (.lit (.int 2))) (.idx (.idx (.var 0) (.var 3)) (.lit (.int 2)))) .nil)) (.idx (.var 1) (.lit (.int 3))))) (.cons (.app 5 (.lit (.str "jump"))) .nil) (.nil)) (.cons (.ife (.andE (.cmp .Eq (.var 4) (.lit (.int 1))) (.cmp .Gt (.call 1 (.cons (.idx (.idx (.var 0) (.var 2)) (.lit (.int 3))) (.cons (.idx (.idx (.var 0) (.var 3)) (.lit (.int 3))) .nil))) (.idx (.var 1) (.lit (.int 4))))) (.cons (.app 5 (.lit (.str "turn"))) .nil) (.nil)) (.cons (.ret (.var 5)) .nil))))
def S_broken : SC := { N := ["songs", "rules", "one", "two", "apart", "found", "at", "word"], sc := defScope (topS 25), fnS := fun _ => true, fs := [f_marks_of, f_steps_of], cs := [("WORDS", d_WORDS)], nb := ["enumerate", "abs"], lv := 1, lam := false, bad := false }
def f_broken : FI := ⟨"broken", ["songs", "rules", "one", "two", "apart"], [.dat, .dat, .dat, .dat, .dat], [], 2, runB 8 [f_marks_of, f_steps_of] b_broken⟩
def b_is_next : CSs := .cons (.forS (.rng2 (.lit (.int 1)) (.bin .Add (.blt .min2 (.cons (.blt .len (.cons (.var 2) .nil)) (.cons (.glob "MOST_GAP" d_MOST_GAP) .nil))) (.lit (.int 1)))) (.nm 4) (.cons (.ife (.cmp .NotEq (.call 0 (.cons (.var 0) (.cons (.var 1) (.cons (.idx (.var 2) (.neg (.var 4))) (.cons (.var 3) (.cons (.var 4) .nil)))))) (.lst (.nil))) (.cons (.ret (.lit (.bool false))) .nil) (.nil)) .nil)) (.cons (.ret (.lit (.bool true))) .nil)
def S_is_next : SC := { N := ["songs", "rules", "played", "song", "apart"], sc := defScope (topS 26), fnS := fun _ => true, fs := [f_broken], cs := [("MOST_GAP", d_MOST_GAP)], nb := ["range", "min", "len"], lv := 2, lam := false, bad := false }
def f_is_next : FI := ⟨"is_next", ["songs", "rules", "played", "song"], [.dat, .dat, .dat, .dat], [], 3, runB 5 [f_broken] b_is_next⟩
def b_is_good_of : CSs := .cons (.ret (.blt .all (.cons (.comp [("at", 3), ("song", 4)] (.enum (.var 2)) (.tp (.cons (.nm 3) (.cons (.nm 4) .nil))) false (.lit .none) (.call 0 (.cons (.var 0) (.cons (.var 1) (.cons (.slc (.var 2) false (.lit .none) true (.var 3)) (.cons (.var 4) .nil)))))) .nil))) .nil
def S_is_good_of : SC := { N := ["songs", "rules", "played", "at", "song"], sc := defScope (topS 27), fnS := fun _ => true, fs := [f_is_next], cs := [], nb := ["all", "enumerate"], lv := 3, lam := false, bad := false }
def f_is_good_of : FI := ⟨"is_good_of", ["songs", "rules", "played"], [.dat, .dat, .dat], [], 4, runB 5 [f_is_next] b_is_good_of⟩
def b_demand_list : CSs := .cons (.expr (.call 0 (.cons (.var 0) (.cons (.var 1) .nil)))) (.cons (.expr (.call 2 (.cons (.call 1 (.cons (.var 0) (.cons (.var 2) (.cons (.glob "MOST_PLAYED" d_MOST_PLAYED) .nil)))) (.cons (.lit (.str "played")) .nil)))) .nil)
def S_demand_list : SC := { N := ["songs", "rules", "played"], sc := defScope (topS 28), fnS := fun _ => true, fs := [f_demand_rules, f_is_list, f_demand], cs := [("MOST_PLAYED", d_MOST_PLAYED)], nb := [], lv := 4, lam := false, bad := false }
def f_demand_list : FI := ⟨"demand_list", ["songs", "rules", "played"], [.dat, .dat, .dat], [], 5, runB 3 [f_demand_rules, f_is_list, f_demand] b_demand_list⟩
def b_is_good : CSs := .cons (.expr (.call 0 (.cons (.var 0) (.cons (.var 1) (.cons (.var 2) .nil))))) (.cons (.ret (.call 1 (.cons (.var 0) (.cons (.var 1) (.cons (.var 2) .nil))))) .nil)
def S_is_good : SC := { N := ["songs", "rules", "played"], sc := defScope (topS 29), fnS := fun _ => true, fs := [f_demand_list, f_is_good_of], cs := [], nb := [], lv := 5, lam := false, bad := false }
def f_is_good : FI := ⟨"is_good", ["songs", "rules", "played"], [.dat, .dat, .dat], [(0, ["played", "rules", "songs"], [2, 1, 0])], 6, runB 3 [f_demand_list, f_is_good_of] b_is_good⟩
def b_faults : CSs := .cons (.expr (.call 0 (.cons (.var 0) (.cons (.var 1) (.cons (.var 2) .nil))))) (.cons (.set 3 true (.lst (.nil))) (.cons (.forS (.enum (.var 2)) (.tp (.cons (.nm 4) (.cons (.nm 5) .nil))) (.cons (.forS (.rng2 (.blt .max2 (.cons (.lit (.int 0)) (.cons (.bin .Sub (.var 4) (.glob "MOST_GAP" d_MOST_GAP)) .nil))) (.var 4)) (.nm 6) (.cons (.ext 3 (.comp [("word", 7)] (.seq (.call 1 (.cons (.var 0) (.cons (.var 1) (.cons (.idx (.var 2) (.var 6)) (.cons (.var 5) (.cons (.bin .Sub (.var 4) (.var 6)) .nil))))))) (.nm 7) false (.lit .none) (.tup (.cons (.var 7) (.cons (.var 6) (.cons (.var 4) .nil)))))) .nil)) .nil)) (.cons (.ret (.blt .tuple (.cons (.var 3) .nil))) .nil)))
def S_faults : SC := { N := ["songs", "rules", "played", "found", "two", "song", "one", "word"], sc := defScope (topS 30), fnS := fun _ => true, fs := [f_demand_list, f_broken], cs := [("MOST_GAP", d_MOST_GAP)], nb := ["enumerate", "range", "max", "tuple"], lv := 5, lam := false, bad := false }
def f_faults : FI := ⟨"faults", ["songs", "rules", "played"], [.dat, .dat, .dat], [(0, ["played", "rules", "songs"], [2, 1, 0])], 6, runB 8 [f_demand_list, f_broken] b_faults⟩
def b_time_of : CSs := .cons (.expr (.call 1 (.cons (.call 0 (.cons (.var 0) .nil)) (.cons (.lit (.str "songs")) .nil)))) (.cons (.expr (.call 1 (.cons (.call 2 (.cons (.var 0) (.cons (.var 1) (.cons (.glob "MOST_PLAYED" d_MOST_PLAYED) .nil)))) (.cons (.lit (.str "played")) .nil)))) (.cons (.ret (.blt .sum (.cons (.comp [("song", 2)] (.seq (.var 1)) (.nm 2) false (.lit .none) (.idx (.idx (.var 0) (.var 2)) (.lit (.int 4)))) .nil))) .nil))
def S_time_of : SC := { N := ["songs", "played", "song"], sc := defScope (topS 31), fnS := fun _ => true, fs := [f_are_songs, f_demand, f_is_list], cs := [("MOST_PLAYED", d_MOST_PLAYED)], nb := ["sum"], lv := 3, lam := false, bad := false }
def f_time_of : FI := ⟨"time_of", ["songs", "played"], [.dat, .dat], [(0, ["played", "songs"], [1, 0])], 4, runB 3 [f_are_songs, f_demand, f_is_list] b_time_of⟩
def b_demand_good : CSs := .cons (.expr (.call 0 (.cons (.var 0) (.cons (.var 1) .nil)))) (.cons (.expr (.call 3 (.cons (.andE (.call 1 (.cons (.var 0) (.cons (.var 2) (.cons (.var 3) .nil)))) (.call 2 (.cons (.var 0) (.cons (.var 1) (.cons (.var 2) .nil))))) (.cons (.lit (.str "played")) .nil)))) .nil)
def S_demand_good : SC := { N := ["songs", "rules", "played", "most"], sc := defScope (topS 32), fnS := fun _ => true, fs := [f_demand_rules, f_is_list, f_is_good_of, f_demand], cs := [], nb := [], lv := 4, lam := false, bad := false }
def f_demand_good : FI := ⟨"demand_good", ["songs", "rules", "played", "most"], [.dat, .dat, .dat, .dat], [], 5, runB 4 [f_demand_rules, f_is_list, f_is_good_of, f_demand] b_demand_good⟩
def b_followers : CSs := .cons (.ret (.comp [("song", 3)] (.rng1 (.blt .len (.cons (.var 0) .nil))) (.nm 3) true (.call 0 (.cons (.var 0) (.cons (.var 1) (.cons (.var 2) (.cons (.var 3) .nil))))) (.var 3))) .nil
def S_followers : SC := { N := ["songs", "rules", "played", "song"], sc := defScope (topS 33), fnS := fun _ => true, fs := [f_is_next], cs := [], nb := ["range", "len"], lv := 3, lam := false, bad := false }
def f_followers : FI := ⟨"followers", ["songs", "rules", "played"], [.dat, .dat, .dat], [], 4, runB 4 [f_is_next] b_followers⟩
def b_can_follow : CSs := .cons (.expr (.call 0 (.cons (.var 0) (.cons (.var 1) (.cons (.var 2) (.cons (.glob "MOST_PLAYED" d_MOST_PLAYED) .nil)))))) (.cons (.ret (.blt .tuple (.cons (.call 1 (.cons (.var 0) (.cons (.var 1) (.cons (.var 2) .nil)))) .nil))) .nil)
def S_can_follow : SC := { N := ["songs", "rules", "played"], sc := defScope (topS 34), fnS := fun _ => true, fs := [f_demand_good, f_followers], cs := [("MOST_PLAYED", d_MOST_PLAYED)], nb := ["tuple"], lv := 5, lam := false, bad := false }
def f_can_follow : FI := ⟨"can_follow", ["songs", "rules", "played"], [.dat, .dat, .dat], [(0, ["played", "rules", "songs"], [2, 1, 0])], 6, runB 3 [f_demand_good, f_followers] b_can_follow⟩
def b__law_dice : CSs := .cons (.set 2 false (.ite (.cmp .Lt (.var 1) (.blt .len (.cons (.var 0) .nil))) (.idx (.var 0) (.var 1)) (.bin .Add (.bin .Mult (.lit (.int 733)) (.var 1)) (.lit (.int 29))))) (.cons (.set 3 false (.bin .Add (.lit (.int 910003)) (.bin .Mult (.lit (.int 7907)) (.var 1)))) (.cons (.forS (.seq (.bin .Add (.slc (.var 0) false (.lit .none) true (.lit (.int 6))) (.lst (.cons (.var 2) .nil)))) (.nm 4) (.cons (.set 3 false (.bin .Mod (.blt .int (.cons (.bin .Add (.bin .Mult (.var 3) (.lit (.int 48271))) (.bin .Mod (.blt .int (.cons (.var 4) .nil)) (.lit (.int 2147480009)))) .nil)) (.lit (.int 2147480009)))) .nil)) (.cons (.ret (.lst (.cons (.ite (.orE (.cmp .Lt (.var 2) (.lit (.int 0))) (.cmp .GtE (.var 2) (.bin .Pow (.lit (.int 10)) (.lit (.int 16))))) (.blt .abs (.cons (.var 2) .nil)) (.lit (.int 0))) (.cons (.var 3) (.cons (.lit (.int 0)) .nil))))) .nil)))
def S__law_dice : SC := { N := ["script", "spot", "own", "mixed", "cell"], sc := defScope (topS 36), fnS := fun _ => true, fs := [], cs := [], nb := ["len", "int", "abs"], lv := 0, lam := false, bad := false }
def f__law_dice : FI := ⟨"_law_dice", ["script", "spot"], [.scr, .dat], [], 1, runB 5 [] b__law_dice⟩
def b__law_roll : CSs := .cons (.ife (.cmp .Gt (.idx (.var 0) (.lit (.int 0))) (.lit (.int 0))) (.cons (.set 2 false (.bin .Mod (.blt .int (.cons (.idx (.var 0) (.lit (.int 0))) .nil)) (.var 1))) (.cons (.put 0 (.lit (.int 0)) (.bin .FloorDiv (.idx (.var 0) (.lit (.int 0))) (.var 1))) (.cons (.ret (.var 2)) .nil))) (.nil)) (.cons (.put 0 (.lit (.int 2)) (.bin .Add (.idx (.var 0) (.lit (.int 2))) (.lit (.int 1)))) (.cons (.put 0 (.lit (.int 1)) (.bin .Mod (.blt .int (.cons (.bin .Add (.bin .Add (.bin .Mult (.idx (.var 0) (.lit (.int 1))) (.lit (.int 52501))) (.bin .Mult (.bin .Mult (.idx (.var 0) (.lit (.int 2))) (.idx (.var 0) (.lit (.int 2)))) (.lit (.int 1009)))) (.lit (.int 77))) .nil)) (.lit (.int 2147480009)))) (.cons (.ret (.bin .Mod (.blt .int (.cons (.bin .FloorDiv (.idx (.var 0) (.lit (.int 1))) (.lit (.int 211))) .nil)) (.var 1))) .nil)))
def S__law_roll : SC := { N := ["dice", "total", "found"], sc := defScope (topS 37), fnS := fun _ => true, fs := [], cs := [], nb := ["int"], lv := 0, lam := false, bad := false }
def f__law_roll : FI := ⟨"_law_roll", ["dice", "total"], [.lent, .dat], [], 1, runB 3 [] b__law_roll⟩
def b__law_pick : CSs := .cons (.ret (.idx (.var 1) (.call 0 (.cons (.var 0) (.cons (.blt .len (.cons (.var 1) .nil)) .nil))))) .nil
def S__law_pick : SC := { N := ["dice", "things"], sc := defScope (topS 38), fnS := fun _ => true, fs := [f__law_roll], cs := [], nb := ["len"], lv := 1, lam := false, bad := false }
def f__law_pick : FI := ⟨"_law_pick", ["dice", "things"], [.lent, .dat], [], 2, runB 2 [f__law_roll] b__law_pick⟩
def b__law_s_songs : CSs := .cons (.par2 3 false 4 false (.bin .Add (.lit (.int 1)) (.call 0 (.cons (.var 0) (.cons (.lit (.int 4)) .nil)))) (.bin .Add (.lit (.int 60)) (.call 0 (.cons (.var 0) (.cons (.lit (.int 100)) .nil))))) (.cons (.set 5 true (.lst (.nil))) (.cons (.forS (.rng1 (.bin .Add (.lit (.int 1)) (.call 0 (.cons (.var 0) (.cons (.var 1) .nil))))) (.nm 6) (.cons (.app 5 (.tup (.cons (.call 0 (.cons (.var 0) (.cons (.var 3) .nil))) (.cons (.call 0 (.cons (.var 0) (.cons (.lit (.int 3)) .nil))) (.cons (.blt .min2 (.cons (.lit (.int 220)) (.cons (.bin .Add (.var 4) (.call 1 (.cons (.var 0) (.cons (.lst (.cons (.lit (.int 0)) (.cons (.lit (.int 5)) (.cons (.lit (.int 20)) (.cons (.lit (.int 60)) .nil))))) .nil)))) .nil))) (.cons (.call 0 (.cons (.var 0) (.cons (.lit (.int 12)) .nil))) (.cons (.bin .Add (.lit (.int 1)) (.call 0 (.cons (.var 0) (.cons (.var 2) .nil)))) .nil))))))) .nil)) (.cons (.ret (.blt .tuple (.cons (.var 5) .nil))) .nil)))
def S__law_s_songs : SC := { N := ["dice", "most", "ticks", "makers", "tempo", "rows", "song"], sc := defScope (topS 40), fnS := fun _ => true, fs := [f__law_roll, f__law_pick], cs := [], nb := ["range", "min", "tuple"], lv := 2, lam := false, bad := false }
def f__law_s_songs : FI := ⟨"_law_s_songs", ["dice", "most", "ticks"], [.lent, .dat, .dat], [], 3, runB 7 [f__law_roll, f__law_pick] b__law_s_songs⟩
def b__law_s_rules : CSs := .cons (.ret (.tup (.cons (.bin .Add (.lit (.int 1)) (.call 1 (.cons (.var 0) (.cons (.var 1) .nil)))) (.cons (.bin .Add (.lit (.int 1)) (.call 1 (.cons (.var 0) (.cons (.var 1) .nil)))) (.cons (.call 0 (.cons (.var 0) (.cons (.lst (.cons (.lit (.int 1)) (.cons (.lit (.int 1)) (.cons (.lit (.int 2)) .nil)))) .nil))) (.cons (.call 0 (.cons (.var 0) (.cons (.lst (.cons (.lit (.int 180)) (.cons (.lit (.int 180)) (.cons (.lit (.int 20)) (.cons (.lit (.int 60)) .nil))))) .nil))) (.cons (.call 0 (.cons (.var 0) (.cons (.lst (.cons (.lit (.int 6)) (.cons (.lit (.int 6)) (.cons (.lit (.int 3)) (.cons (.lit (.int 5)) .nil))))) .nil))) .nil))))))) .nil
def S__law_s_rules : SC := { N := ["dice", "gap"], sc := defScope (topS 41), fnS := fun _ => true, fs := [f__law_pick, f__law_roll], cs := [], nb := [], lv := 2, lam := false, bad := false }
def f__law_s_rules : FI := ⟨"_law_s_rules", ["dice", "gap"], [.lent, .dat], [], 3, runB 2 [f__law_pick, f__law_roll] b__law_s_rules⟩
def b__law_s_broken : CSs := .cons (.set 3 true (.lst (.nil))) (.cons (.forS (.rng1 (.blt .len (.cons (.var 2) .nil))) (.nm 4) (.cons (.forS (.rng1 (.var 4)) (.nm 5) (.cons (.par3 6 7 8 (.idx (.var 0) (.idx (.var 2) (.var 5))) (.idx (.var 0) (.idx (.var 2) (.var 4))) (.bin .Sub (.var 4) (.var 5))) (.cons (.ife (.andE (.cmp .Lt (.var 8) (.idx (.var 1) (.lit (.int 0)))) (.cmp .Eq (.idx (.var 2) (.var 5)) (.idx (.var 2) (.var 4)))) (.cons (.app 3 (.tup (.cons (.lit (.str "song")) (.cons (.var 5) (.cons (.var 4) .nil))))) .nil) (.nil)) (.cons (.ife (.andE (.cmp .Lt (.var 8) (.idx (.var 1) (.lit (.int 1)))) (.cmp .Eq (.idx (.var 6) (.lit (.int 0))) (.idx (.var 7) (.lit (.int 0))))) (.cons (.app 3 (.tup (.cons (.lit (.str "maker")) (.cons (.var 5) (.cons (.var 4) .nil))))) .nil) (.nil)) (.cons (.ife (.andE (.cmp .Lt (.var 8) (.idx (.var 1) (.lit (.int 2)))) (.cmp .Eq (.idx (.var 6) (.lit (.int 1))) (.idx (.var 7) (.lit (.int 1))))) (.cons (.app 3 (.tup (.cons (.lit (.str "mood")) (.cons (.var 5) (.cons (.var 4) .nil))))) .nil) (.nil)) (.cons (.ife (.andE (.cmp .Eq (.var 8) (.lit (.int 1))) (.cmp .Gt (.blt .abs (.cons (.bin .Sub (.idx (.var 6) (.lit (.int 2))) (.idx (.var 7) (.lit (.int 2)))) .nil)) (.idx (.var 1) (.lit (.int 3))))) (.cons (.app 3 (.tup (.cons (.lit (.str "jump")) (.cons (.var 5) (.cons (.var 4) .nil))))) .nil) (.nil)) (.cons (.ife (.andE (.cmp .Eq (.var 8) (.lit (.int 1))) (.cmp .Gt (.blt .min2 (.cons (.blt .abs (.cons (.bin .Sub (.idx (.var 6) (.lit (.int 3))) (.idx (.var 7) (.lit (.int 3)))) .nil)) (.cons (.bin .Sub (.lit (.int 12)) (.blt .abs (.cons (.bin .Sub (.idx (.var 6) (.lit (.int 3))) (.idx (.var 7) (.lit (.int 3)))) .nil))) .nil))) (.idx (.var 1) (.lit (.int 4))))) (.cons (.app 3 (.tup (.cons (.lit (.str "turn")) (.cons (.var 5) (.cons (.var 4) .nil))))) .nil) (.nil)) .nil))))))) .nil)) (.cons (.ret (.var 3)) .nil))
def S__law_s_broken : SC := { N := ["songs", "rules", "played", "found", "two", "one", "first", "second", "apart"], sc := defScope (topS 42), fnS := fun _ => true, fs := [], cs := [], nb := ["range", "len", "abs", "min"], lv := 0, lam := false, bad := false }
def f__law_s_broken : FI := ⟨"_law_s_broken", ["songs", "rules", "played"], [.dat, .dat, .dat], [], 1, runB 9 [] b__law_s_broken⟩
def b__law_s_next : CSs := .cons (.set 3 false (.blt .tuple (.cons (.slc (.var 2) true (.blt .max2 (.cons (.lit (.int 0)) (.cons (.bin .Sub (.blt .len (.cons (.var 2) .nil)) (.lit (.int 3))) .nil))) false (.lit .none)) .nil))) (.cons (.ret (.comp [("song", 4)] (.rng1 (.blt .len (.cons (.var 0) .nil))) (.nm 4) true (.cmp .Eq (.call 0 (.cons (.var 0) (.cons (.var 1) (.cons (.bin .Add (.var 3) (.tup (.cons (.var 4) .nil))) .nil)))) (.lst (.nil))) (.var 4))) .nil)
def S__law_s_next : SC := { N := ["songs", "rules", "played", "near", "song"], sc := defScope (topS 43), fnS := fun _ => true, fs := [f__law_s_broken], cs := [], nb := ["tuple", "max", "len", "range"], lv := 1, lam := false, bad := false }
def f__law_s_next : FI := ⟨"_law_s_next", ["songs", "rules", "played"], [.dat, .dat, .dat], [], 2, runB 5 [f__law_s_broken] b__law_s_next⟩
def b__law_s_list : CSs := .cons (.set 4 false (.tup (.nil))) (.cons (.forS (.rng1 (.var 3)) (.nm 5) (.cons (.set 6 false (.call 0 (.cons (.var 1) (.cons (.var 2) (.cons (.var 4) .nil))))) (.cons (.ife (.cmp .NotEq (.var 6) (.lst (.nil))) (.cons (.set 4 false (.bin .Add (.var 4) (.tup (.cons (.call 1 (.cons (.var 0) (.cons (.var 6) .nil))) .nil)))) .nil) (.nil)) .nil))) (.cons (.ret (.var 4)) .nil))
def S__law_s_list : SC := { N := ["dice", "songs", "rules", "many", "played", "turn", "good"], sc := defScope (topS 44), fnS := fun _ => true, fs := [f__law_s_next, f__law_pick], cs := [], nb := ["range"], lv := 2, lam := false, bad := false }
def f__law_s_list : FI := ⟨"_law_s_list", ["dice", "songs", "rules", "many"], [.lent, .dat, .dat, .dat], [], 3, runB 7 [f__law_s_next, f__law_pick] b__law_s_list⟩
def b__law_s_bad : CSs := .cons (.ret (.call 0 (.cons (.var 0) (.cons (.lst (.cons (.lit (.none)) (.cons (.tup (.nil)) (.cons (.lst (.cons (.tup (.cons (.lit (.int 0)) (.cons (.lit (.int 0)) (.cons (.lit (.int 100)) (.cons (.lit (.int 0)) (.cons (.lit (.int 1)) .nil)))))) .nil)) (.cons (.tup (.cons (.tup (.cons (.lit (.int 10)) (.cons (.lit (.int 0)) (.cons (.lit (.int 100)) (.cons (.lit (.int 0)) (.cons (.lit (.int 1)) .nil)))))) .nil)) (.cons (.tup (.cons (.tup (.cons (.lit (.int 0)) (.cons (.lit (.int 6)) (.cons (.lit (.int 100)) (.cons (.lit (.int 0)) (.cons (.lit (.int 1)) .nil)))))) .nil)) (.cons (.tup (.cons (.tup (.cons (.lit (.int 0)) (.cons (.lit (.int 0)) (.cons (.lit (.int 39)) (.cons (.lit (.int 0)) (.cons (.lit (.int 1)) .nil)))))) .nil)) (.cons (.tup (.cons (.tup (.cons (.lit (.int 0)) (.cons (.lit (.int 0)) (.cons (.lit (.int 100)) (.cons (.lit (.int 12)) (.cons (.lit (.int 1)) .nil)))))) .nil)) (.cons (.tup (.cons (.tup (.cons (.lit (.int 0)) (.cons (.lit (.int 0)) (.cons (.lit (.int 100)) (.cons (.lit (.int 0)) (.cons (.lit (.int 0)) .nil)))))) .nil)) (.cons (.tup (.cons (.tup (.cons (.lit (.int 0)) (.cons (.lit (.int 0)) (.cons (.lit (.int 100)) (.cons (.lit (.int 0)) .nil))))) .nil)) .nil)))))))))) .nil)))) .nil
def S__law_s_bad : SC := { N := ["dice"], sc := defScope (topS 45), fnS := fun _ => true, fs := [f__law_pick], cs := [], nb := [], lv := 2, lam := false, bad := false }
def f__law_s_bad : FI := ⟨"_law_s_bad", ["dice"], [.lent], [], 3, runB 1 [f__law_pick] b__law_s_bad⟩
def b__law_s_odd : CSs := .cons (.ret (.call 0 (.cons (.var 0) (.cons (.lst (.cons (.lit (.none)) (.cons (.tup (.nil)) (.cons (.tup (.cons (.lit (.int 0)) (.cons (.lit (.int 1)) (.cons (.lit (.int 1)) (.cons (.lit (.int 0)) (.cons (.lit (.int 0)) .nil)))))) (.cons (.tup (.cons (.lit (.int 5)) (.cons (.lit (.int 1)) (.cons (.lit (.int 1)) (.cons (.lit (.int 0)) (.cons (.lit (.int 0)) .nil)))))) (.cons (.tup (.cons (.lit (.int 1)) (.cons (.lit (.int 1)) (.cons (.lit (.int 1)) (.cons (.lit (.int 181)) (.cons (.lit (.int 0)) .nil)))))) (.cons (.tup (.cons (.lit (.int 1)) (.cons (.lit (.int 1)) (.cons (.lit (.int 1)) (.cons (.lit (.int 0)) (.cons (.lit (.int 7)) .nil)))))) (.cons (.tup (.cons (.lit (.int 1)) (.cons (.lit (.int 1)) (.cons (.lit (.int 1)) (.cons (.lit (.int 0)) .nil))))) (.cons (.lst (.cons (.lit (.int 1)) (.cons (.lit (.int 1)) (.cons (.lit (.int 1)) (.cons (.lit (.int 0)) (.cons (.lit (.int 0)) .nil)))))) (.cons (.tup (.cons (.lit (.bool true)) (.cons (.lit (.int 1)) (.cons (.lit (.int 1)) (.cons (.lit (.int 0)) (.cons (.lit (.int 0)) .nil)))))) .nil)))))))))) .nil)))) .nil
def S__law_s_odd : SC := { N := ["dice"], sc := defScope (topS 46), fnS := fun _ => true, fs := [f__law_pick], cs := [], nb := [], lv := 2, lam := false, bad := false }
def f__law_s_odd : FI := ⟨"_law_s_odd", ["dice"], [.lent], [], 3, runB 1 [f__law_pick] b__law_s_odd⟩
def b__law_refuses : CSs := .cons (.asg (.tp (.cons (.nm 3) (.cons (.nm 4) (.cons (.nm 5) .nil)))) (.tup (.cons (.call 2 (.cons (.var 0) .nil)) (.cons (.call 1 (.cons (.var 0) .nil)) (.cons (.call 0 (.cons (.var 0) (.cons (.lst (.cons (.lit (.none)) (.cons (.lst (.cons (.lit (.int 0)) .nil)) (.cons (.tup (.cons (.blt .len (.cons (.var 1) .nil)) .nil)) (.cons (.tup (.cons (.neg (.lit (.int 1))) .nil)) (.cons (.tup (.cons (.lit (.bool true)) .nil)) (.cons (.bin .Mult (.tup (.cons (.lit (.int 0)) .nil)) (.lit (.int 301))) .nil))))))) .nil))) .nil))))) (.cons (.set 6 false (.lst (.cons (.refused (.call 5 (.cons (.var 3) (.cons (.var 4) (.cons (.var 5) .nil))))) (.cons (.refused (.call 5 (.cons (.var 1) (.cons (.var 4) (.cons (.var 5) .nil))))) (.cons (.refused (.call 5 (.cons (.var 1) (.cons (.var 2) (.cons (.var 5) .nil))))) (.cons (.refused (.call 4 (.cons (.var 1) (.cons (.var 2) (.cons (.var 5) .nil))))) (.cons (.refused (.call 3 (.cons (.var 3) (.cons (.var 5) .nil)))) (.cons (.refused (.call 3 (.cons (.var 1) (.cons (.var 5) .nil)))) .nil)))))))) (.cons (.set 6 false (.bin .Add (.var 6) (.lst (.cons (.refused (.call 7 (.cons (.var 1) (.cons (.var 4) (.cons (.var 5) .nil))))) (.cons (.refused (.call 7 (.cons (.var 1) (.cons (.var 2) (.cons (.var 5) .nil))))) (.cons (.refused (.call 6 (.cons (.lit (.int 12)) (.cons (.neg (.lit (.int 1))) .nil)))) (.cons (.refused (.call 6 (.cons (.lit (.int 0)) (.cons (.call 0 (.cons (.var 0) (.cons (.lst (.cons (.neg (.lit (.int 1))) (.cons (.lit (.int 12)) (.cons (.lit (.none)) (.cons (.lit (.bool true)) .nil))))) .nil))) .nil)))) .nil))))))) (.cons (.ret (.cmp .Eq (.var 6) (.lst (.cons (.lit (.str "songs")) (.cons (.lit (.str "rules")) (.cons (.lit (.str "played")) (.cons (.lit (.str "played")) (.cons (.lit (.str "songs")) (.cons (.lit (.str "played")) (.cons (.lit (.str "rules")) (.cons (.lit (.str "played")) (.cons (.lit (.str "one")) (.cons (.lit (.str "two")) .nil))))))))))))) .nil)))
def S__law_refuses : SC := { N := ["dice", "songs", "rules", "bad", "odd", "wrong", "told"], sc := defScope (topS 47), fnS := fun _ => true, fs := [f__law_pick, f__law_s_odd, f__law_s_bad, f_time_of, f_faults, f_is_good, f_key_steps, f_can_follow], cs := [], nb := ["len"], lv := 8, lam := true, bad := false }
def f__law_refuses : FI := ⟨"_law_refuses", ["dice", "songs", "rules"], [.lent, .dat, .dat], [], 9, runB 7 [f__law_pick, f__law_s_odd, f__law_s_bad, f_time_of, f_faults, f_is_good, f_key_steps, f_can_follow] b__law_refuses⟩
def b__law_right : CSs := .cons (.asg (.tp (.cons (.nm 1) (.cons (.nm 2) .nil))) (.tup (.cons (.call 1 (.cons (.var 0) (.cons (.lit (.int 8)) (.cons (.lit (.int 60)) .nil)))) (.cons (.call 0 (.cons (.var 0) (.cons (.lit (.int 4)) .nil))) .nil)))) (.cons (.set 3 false (.call 3 (.cons (.var 0) (.cons (.var 1) (.cons (.var 2) (.cons (.call 2 (.cons (.var 0) (.cons (.lit (.int 12)) .nil))) .nil)))))) (.cons (.set 4 false (.call 4 (.cons (.var 0) (.cons (.lst (.cons (.var 3) (.cons (.blt .tuple (.cons (.comp [("play", 10)] (.rng1 (.call 2 (.cons (.var 0) (.cons (.lit (.int 10)) .nil)))) (.nm 10) false (.lit .none) (.call 2 (.cons (.var 0) (.cons (.blt .len (.cons (.var 1) .nil)) .nil)))) .nil)) (.cons (.bin .Add (.var 3) (.tup (.cons (.call 2 (.cons (.var 0) (.cons (.blt .len (.cons (.var 1) .nil)) .nil))) .nil))) .nil)))) .nil)))) (.cons (.set 5 false (.call 5 (.cons (.var 1) (.cons (.var 2) (.cons (.var 4) .nil))))) (.cons (.ife (.orE (.cmp .NotEq (.call 6 (.cons (.var 1) (.cons (.var 2) (.cons (.var 4) .nil)))) (.blt .tuple (.cons (.var 5) .nil))) (.orE (.cmp .NotEq (.callk 6 (.nil) ["played", "rules", "songs"] (.cons (.var 4) (.cons (.var 2) (.cons (.var 1) .nil))) [2, 1, 0]) (.blt .tuple (.cons (.var 5) .nil))) (.cmp .NotEq (.call 7 (.cons (.var 1) (.cons (.var 2) (.cons (.var 4) .nil)))) (.cmp .Eq (.var 5) (.lst (.nil)))))) (.cons (.ret (.lit (.bool false))) .nil) (.nil)) (.cons (.ife (.orE (.cmp .IsNot (.callk 7 (.nil) ["played", "rules", "songs"] (.cons (.var 3) (.cons (.var 2) (.cons (.var 1) .nil))) [2, 1, 0]) (.lit (.bool true))) (.cmp .NotEq (.call 8 (.cons (.var 1) (.cons (.var 4) .nil))) (.blt .sum (.cons (.comp [("song", 11)] (.seq (.var 4)) (.nm 11) false (.lit .none) (.idx (.idx (.var 1) (.var 11)) (.lit (.int 4)))) .nil)))) (.cons (.ret (.lit (.bool false))) .nil) (.nil)) (.cons (.ife (.cmp .NotEq (.callk 8 (.nil) ["played", "songs"] (.cons (.var 3) (.cons (.var 1) .nil)) [1, 0]) (.blt .sum (.cons (.comp [("song", 11)] (.seq (.var 3)) (.nm 11) false (.lit .none) (.idx (.idx (.var 1) (.var 11)) (.lit (.int 4)))) .nil))) (.cons (.ret (.lit (.bool false))) .nil) (.nil)) (.cons (.set 6 false (.comp [("song", 11)] (.rng1 (.blt .len (.cons (.var 1) .nil))) (.nm 11) true (.cmp .Eq (.call 5 (.cons (.var 1) (.cons (.var 2) (.cons (.bin .Add (.var 3) (.tup (.cons (.var 11) .nil))) .nil)))) (.lst (.nil))) (.var 11))) (.cons (.ife (.orE (.cmp .NotEq (.call 9 (.cons (.var 1) (.cons (.var 2) (.cons (.var 3) .nil)))) (.blt .tuple (.cons (.var 6) .nil))) (.cmp .NotEq (.callk 9 (.nil) ["played", "rules", "songs"] (.cons (.var 3) (.cons (.var 2) (.cons (.var 1) .nil))) [2, 1, 0]) (.blt .tuple (.cons (.var 6) .nil)))) (.cons (.ret (.lit (.bool false))) .nil) (.nil)) (.cons (.ife (.andE (.cmp .NotEq (.var 5) (.lst (.nil))) (.cmp .NotEq (.refused (.call 9 (.cons (.var 1) (.cons (.var 2) (.cons (.var 4) .nil))))) (.lit (.str "played")))) (.cons (.ret (.lit (.bool false))) .nil) (.nil)) (.cons (.asg (.tp (.cons (.nm 7) (.cons (.nm 8) .nil))) (.tup (.cons (.call 2 (.cons (.var 0) (.cons (.lit (.int 12)) .nil))) (.cons (.call 2 (.cons (.var 0) (.cons (.lit (.int 12)) .nil))) .nil)))) (.cons (.set 9 false (.blt .min1 (.cons (.comp [("turn", 12)] (.seq (.tup (.cons (.neg (.lit (.int 12))) (.cons (.lit (.int 0)) (.cons (.lit (.int 12)) .nil))))) (.nm 12) false (.lit .none) (.blt .abs (.cons (.bin .Add (.bin .Sub (.var 7) (.var 8)) (.var 12)) .nil))) .nil))) (.cons (.ret (.andE (.cmp .Eq (.call 10 (.cons (.var 7) (.cons (.var 8) .nil))) (.var 9)) (.andE (.cmp .Eq (.callk 10 (.nil) ["two", "one"] (.cons (.var 8) (.cons (.var 7) .nil)) [1, 0]) (.var 9)) (.call 11 (.cons (.var 0) (.cons (.var 1) (.cons (.var 2) .nil))))))) .nil))))))))))))
def S__law_right : SC := { N := ["dice", "songs", "rules", "good", "played", "due", "after", "one", "two", "steps", "play", "song", "turn"], sc := defScope (topS 48), fnS := fun _ => true, fs := [f__law_s_rules, f__law_s_songs, f__law_roll, f__law_s_list, f__law_pick, f__law_s_broken, f_faults, f_is_good, f_time_of, f_can_follow, f_key_steps, f__law_refuses], cs := [], nb := ["len", "tuple", "range", "sum", "min", "abs"], lv := 9, lam := true, bad := false }
def f__law_right : FI := ⟨"_law_right", ["dice"], [.lent], [], 10, runB 13 [f__law_s_rules, f__law_s_songs, f__law_roll, f__law_s_list, f__law_pick, f__law_s_broken, f_faults, f_is_good, f_time_of, f_can_follow, f_key_steps, f__law_refuses] b__law_right⟩
def b_law : CSs := .cons (.forS (.rng1 (.blt .max2 (.cons (.lit (.int 1)) (.cons (.blt .min2 (.cons (.lit (.int 8)) (.cons (.blt .len (.cons (.var 0) .nil)) .nil))) .nil)))) (.nm 1) (.cons (.ife (.notE (.call 1 (.cons (.call 0 (.cons (.var 0) (.cons (.var 1) .nil))) .nil))) (.cons (.ret (.lit (.bool false))) .nil) (.nil)) .nil)) (.cons (.ret (.andE (.cmp .Eq (.call 2 (.cons (.lit (.int 11)) (.cons (.lit (.int 1)) .nil))) (.lit (.int 2))) (.call 3 (.cons (.tup (.cons (.tup (.cons (.lit (.int 0)) (.cons (.lit (.int 0)) (.cons (.lit (.int 100)) (.cons (.lit (.int 0)) (.cons (.lit (.int 1)) .nil)))))) .nil)) (.cons (.tup (.cons (.lit (.int 1)) (.cons (.lit (.int 1)) (.cons (.lit (.int 1)) (.cons (.lit (.int 0)) (.cons (.lit (.int 0)) .nil)))))) (.cons (.tup (.cons (.lit (.int 0)) (.cons (.lit (.int 0)) (.cons (.lit (.int 0)) .nil)))) .nil)))))) .nil)
def S_law : SC := { N := ["script", "spot"], sc := defScope (topS 49), fnS := fun _ => true, fs := [f__law_dice, f__law_right, f_key_steps, f_is_good], cs := [], nb := ["range", "max", "min", "len"], lv := 10, lam := false, bad := false }
def f_law : FI := ⟨"law", ["script"], [.scr], [], 11, runB 2 [f__law_dice, f__law_right, f_key_steps, f_is_good] b_law⟩
end KL
namespace KL
open PySem SR
/-! ### generalities -/
def wsD : List W → Option (List D)
  | [] => some []
  | .d x :: ws => (wsD ws).map (x :: ·)
  | .f x :: ws => (wsD ws).map (.list x :: ·)
  | .s _ :: _ => none
theorem argAll_dat {r : Sl} : ∀ {ws : List W} {xs : List D}, wsD ws = some xs → argAll r (List.replicate xs.length .dat) ws = some (xs.map SV.val, r)
  | [], xs, h => by
    cases h
    rfl
  | .d x :: ws, xs, h => by
    simp only [wsD, Option.map_eq_some_iff] at h
    obtain ⟨ys, h1, rfl⟩ := h
    rw [List.length_cons, List.replicate_succ, argAll_d, argAll_dat h1]
    rfl
  | .f x :: ws, xs, h => by
    simp only [wsD, Option.map_eq_some_iff] at h
    obtain ⟨ys, h1, rfl⟩ := h
    rw [List.length_cons, List.replicate_succ, argAll_f, argAll_dat h1]
    rfl
  | .s _ :: _, xs, h => by cases h
theorem nLent_dat : ∀ xs : List D, nLent (xs.map SV.val) = 0
  | [] => rfl
  | _ :: xs => nLent_dat xs
theorem lentIn_dat {r : Sl} : ∀ (xs : List D) (ws : List W), lentIn ws (xs.map SV.val) r = true
  | [], [] => rfl
  | [], _ :: _ => rfl
  | _ :: _, [] => rfl
  | x :: xs, w :: ws => lentIn_dat xs ws
theorem backA_dat {r : Sl} : ∀ (xs : List D) (ws : List W) (bs : Sl), backA ws (xs.map SV.val) bs r = r
  | [], [], bs => by cases bs <;> rfl
  | [], _ :: _, bs => by cases bs <;> rfl
  | _ :: _, [], bs => by cases bs <;> rfl
  | x :: xs, w :: ws, [] => rfl
  | x :: xs, w :: ws, _ :: bs => backA_dat xs ws bs
theorem call_dat {f : FI} {ws : List W} {xs : List D} {v : Ret} {as' r : Sl} (hl : f.lp = List.replicate xs.length .dat) (hw : wsD ws = some xs) (h : f.fn (xs.map SV.val) = .ok v as') : callF f ws r = .ok (retW v) r := by
  rw [callF_ok (by rw [hl]; exact argAll_dat hw) (by rw [nLent_dat]; omega) (lentIn_dat xs ws), callK_ok h, backA_dat]
theorem call_datE {f : FI} {ws : List W} {xs : List D} {c : Nat} {p : D} {as' r : Sl} (hl : f.lp = List.replicate xs.length .dat) (hw : wsD ws = some xs) (h : f.fn (xs.map SV.val) = .err c p as') : callF f ws r = .err c p r := by
  rw [callF_ok (by rw [hl]; exact argAll_dat hw) (by rw [nLent_dat]; omega) (lentIn_dat xs ws), callK_err h, backA_dat]
/-- a comprehension whose turns leave the slots alone -/
theorem compL_pure {own : List Nat} {set : D → Sl → Option Sl} {c : Sl → SR.R Bool} {e : Sl → SR.R W} {r : Sl} (p : D → Bool) (g : D → D) : ∀ (xs acc : List D),
    (∀ x ∈ xs, ∃ r1, set x r = some r1 ∧ c r1 = .ok (p x) r1 ∧ (p x = true → e r1 = .ok (.d (g x)) r1) ∧ wipeS r1 own = r) → compL own set c e xs acc r = .ok (acc ++ (xs.filter p).map g) r
  | [], acc, _ => by simp [compL]
  | x :: xs, acc, h => by
    obtain ⟨r1, h1, h2, h3, h4⟩ := h x List.mem_cons_self
    have ih := fun acc => compL_pure p g xs acc fun y hy => h y (List.mem_cons_of_mem _ hy)
    simp only [compL, h1, h2, SR.R.bind]
    cases hp : p x with
    | true =>
      simp only [if_true, h3 hp, keepW, h4]
      rw [ih]
      simp [hp]
    | false =>
      simp only [Bool.false_eq_true, if_false, h4]
      rw [ih]
      simp [hp]
theorem compK_all {fs : List FI} {own : List (Str × Nat)} {tg : Tg} {c elt : CE} {xs : List D} {r : Sl} (g : D → D) (hz : xs.length ≤ 16777216) (h0 : wipeS r (own.map (·.2)) = r) (h1 : backS r r (own.map (·.2)) = r)
    (h : ∀ x ∈ xs, ∃ r1, setTg tg x r = some r1 ∧ evE fs elt r1 = .ok (.d (g x)) r1 ∧ wipeS r1 (own.map (·.2)) = r) : compK fs own tg false c elt xs r = .ok (.f (xs.map g)) r := by
  have hz : xs.length ≤ sizeLine := by rw [sizeLine_eq]; exact hz
  unfold compK
  rw [if_pos hz, h0, compL_pure (fun _ => true) g xs [] fun x hx => by
    obtain ⟨r1, a, b, c⟩ := h x hx
    exact ⟨r1, a, rfl, fun _ => b, c⟩]
  have ef : xs.filter (fun _ => true) = xs := List.filter_eq_self.mpr fun _ _ => rfl
  simp [h1, ef]
theorem compK_if {fs : List FI} {own : List (Str × Nat)} {tg : Tg} {c elt : CE} {xs : List D} {r : Sl} (p : D → Bool) (g : D → D) (hz : xs.length ≤ 16777216) (h0 : wipeS r (own.map (·.2)) = r) (h1 : backS r r (own.map (·.2)) = r)
    (h : ∀ x ∈ xs, ∃ r1, setTg tg x r = some r1 ∧ evE fs c r1 = .ok (.d (.bool (p x))) r1 ∧ (p x = true → evE fs elt r1 = .ok (.d (g x)) r1) ∧ wipeS r1 (own.map (·.2)) = r) : compK fs own tg true c elt xs r = .ok (.f ((xs.filter p).map g)) r := by
  have hz : xs.length ≤ sizeLine := by rw [sizeLine_eq]; exact hz
  unfold compK
  rw [if_pos hz, h0, compL_pure p g xs [] fun x hx => by
    obtain ⟨r1, a, b, c, d⟩ := h x hx
    exact ⟨r1, a, by simp [b], c, d⟩]
  simp [h1]
theorem boolsOf_map {α : Type} (f : α → Bool) : ∀ l : List α, boolsOf (l.map fun x => .bool (f x)) = some (l.map f)
  | [] => rfl
  | x :: l => by simp [boolsOf, boolsOf_map f l]
theorem intsOf_map {α : Type} (f : α → Int) : ∀ l : List α, intsOf (l.map fun x => .int (f x)) = some (l.map f)
  | [] => rfl
  | x :: l => by simp [intsOf, intsOf_map f l]
/-! ### built-ins and operators, by values -/
theorem all_k {r : Sl} {α : Type} (f : α → Bool) (l : List α) : bltK .all [.f (l.map fun x => .bool (f x))] r = .ok (.d (.bool (l.all f))) r := by
  refine bltK_ok (xs := [.list (l.map fun x => .bool (f x))]) (by simp) ?_
  simp only [bltD, boolsOf_map, Option.map_some]
  congr 3
  simp [List.all_map]
theorem sum_k {r : Sl} {α : Type} (f : α → Int) (l : List α) : bltK .sum [.f (l.map fun x => .int (f x))] r = .ok (.d (.int (l.map f).sum)) r := by
  refine bltK_ok (xs := [.list (l.map fun x => .int (f x))]) (by simp) ?_
  simp only [bltD, intsOf_map, Option.map_some]
@[simp] theorem len_t {r : Sl} (l : List D) : bltK .len [.d (.tuple l)] r = .ok (.d (.int l.length)) r := bltK_ok (by simp; rfl) rfl
@[simp] theorem len_l {r : Sl} (l : List D) : bltK .len [.d (.list l)] r = .ok (.d (.int l.length)) r := bltK_ok (by simp; rfl) rfl
def minI (i j : Int) : Int := if j < i then j else i
def maxI (i j : Int) : Int := if j > i then j else i
def absI (i : Int) : Int := if i < 0 then -i else i
@[simp] theorem abs_k {r : Sl} (i : Int) : bltK .abs [.d (.int i)] r = .ok (.d (.int (absI i))) r := bltK_ok (by simp; rfl) rfl
@[simp] theorem int_k {r : Sl} (i : Int) : bltK .int [.d (.int i)] r = .ok (.d (.int i)) r := bltK_ok (by simp; rfl) rfl
@[simp] theorem min_k {r : Sl} (i j : Int) : bltK .min2 [.d (.int i), .d (.int j)] r = .ok (.d (.int (minI i j))) r := bltK_ok (by simp; rfl) rfl
@[simp] theorem max_k {r : Sl} (i j : Int) : bltK .max2 [.d (.int i), .d (.int j)] r = .ok (.d (.int (maxI i j))) r := bltK_ok (by simp; rfl) rfl
@[simp] theorem tup_f {r : Sl} (l : List D) : bltK .tuple [.f l] r = .ok (.d (.tuple l)) r := bltK_ok (by simp; rfl) rfl
@[simp] theorem tup_l {r : Sl} (l : List D) : bltK .tuple [.d (.list l)] r = .ok (.d (.tuple l)) r := bltK_ok (by simp; rfl) rfl
@[simp] theorem tup_t {r : Sl} (l : List D) : bltK .tuple [.d (.tuple l)] r = .ok (.d (.tuple l)) r := bltK_ok (by simp; rfl) rfl
theorem tup_own {r : Sl} {i : Nat} {l : List D} (h : r[i]? = some (.own l)) : bltK .tuple [.s i] r = .ok (.d (.tuple l)) r := bltK_ok (xs := [.list l]) (by rw [fixAll_s [] (fixW_own h)]; rfl) rfl
@[simp] theorem add_i {r : Sl} (i j : Int) : binK .Add (.d (.int i)) (.d (.int j)) r = .ok (.d (.int (i + j))) r := binK_ok rfl rfl rfl
@[simp] theorem sub_i {r : Sl} (i j : Int) : binK .Sub (.d (.int i)) (.d (.int j)) r = .ok (.d (.int (i - j))) r := binK_ok rfl rfl rfl
theorem mod_i {r : Sl} {i j : Int} (h : 0 < j) : binK .Mod (.d (.int i)) (.d (.int j)) r = .ok (.d (.int (i % j))) r := binK_ok rfl rfl (if_pos h)
theorem mul_i {r : Sl} {i j : Int} (h : i.natAbs.log2 + j.natAbs.log2 < 1000000) : binK .Mult (.d (.int i)) (.d (.int j)) r = .ok (.d (.int (i * j))) r := binK_ok rfl rfl (if_pos h)
theorem fdiv_i {r : Sl} {i j : Int} (h : 0 < j) (h2 : j.natAbs.log2 < 9000) : binK .FloorDiv (.d (.int i)) (.d (.int j)) r = .ok (.d (.int (i / j))) r := binK_ok rfl rfl (if_pos ⟨h, h2⟩)
@[simp] theorem lt_i {r : Sl} (i j : Int) : cmpK .Lt (.d (.int i)) (.d (.int j)) r = .ok (.d (.bool (decide (i < j)))) r := rfl
@[simp] theorem le_i {r : Sl} (i j : Int) : cmpK .LtE (.d (.int i)) (.d (.int j)) r = .ok (.d (.bool (decide (i ≤ j)))) r := rfl
@[simp] theorem gt_i {r : Sl} (i j : Int) : cmpK .Gt (.d (.int i)) (.d (.int j)) r = .ok (.d (.bool (decide (j < i)))) r := rfl
@[simp] theorem ge_i {r : Sl} (i j : Int) : cmpK .GtE (.d (.int i)) (.d (.int j)) r = .ok (.d (.bool (decide (j ≤ i)))) r := rfl
@[simp] theorem eq_i {r : Sl} (i j : Int) : cmpK .Eq (.d (.int i)) (.d (.int j)) r = .ok (.d (.bool (decide (i = j)))) r := by
  refine cmpK_ok rfl rfl ?_
  simp only [cmpD, eqD, flat, PyData.eqv, Bool.and_self, if_true]
  exact congrArg some (Bool.eq_iff_iff.mpr (by simp))
@[simp] theorem ch_le {r : Sl} (i j : Int) (x y : SR.R W) : chnK .LtE (.d (.int i)) (.d (.int j)) r x y = tstK (.d (.bool (decide (i ≤ j)))) x y := chnK_ok rfl rfl rfl
theorem idx_t {r : Sl} {l : List D} {i : Int} {d : D} (h : L2.atI l i = some d) : idxK (.d (.tuple l)) (.d (.int i)) r = .ok (.d d) r := idxK_ok rfl rfl h
theorem idx_l {r : Sl} {l : List D} {i : Int} {d : D} (h : L2.atI l i = some d) : idxK (.d (.list l)) (.d (.int i)) r = .ok (.d d) r := idxK_ok rfl rfl h
/-! ### values -/
def isIn (v : D) (l h : Int) : Bool := match v with
  | .int i => decide (l ≤ i) && decide (i ≤ h)
  | _ => false
def isTup (v : D) (l h : Int) : Bool := match v with
  | .tuple ds => decide (l ≤ ds.length) && decide ((ds.length : Int) ≤ h)
  | _ => false
def areIn (v : D) (a b l h : Int) : Bool := match v with
  | .tuple ds => decide (a ≤ ds.length) && decide ((ds.length : Int) ≤ b) && ds.all fun x => isIn x l h
  | _ => false
theorem is_in_fn (v : D) (l h : Int) : f_is_in.fn [.val v, .val (.int l), .val (.int h)] = .ok (.dat (.bool (isIn v l h))) [.val v, .val (.int l), .val (.int h)] := by
  rw [show f_is_in.fn = runB 3 [] b_is_in from rfl, runB_eq]
  cases v <;> simp [b_is_in, ev_val, isaD, isIn, tstK_and, endB, keepsL, proj]
@[simp] theorem c_is_in {r : Sl} (v : D) (l h : Int) : callF f_is_in [.d v, .d (.int l), .d (.int h)] r = .ok (.d (.bool (isIn v l h))) r := call_dat (xs := [v, .int l, .int h]) rfl rfl (is_in_fn v l h)
theorem is_tuple_fn (v : D) (l h : Int) : f_is_tuple.fn [.val v, .val (.int l), .val (.int h)] = .ok (.dat (.bool (isTup v l h))) [.val v, .val (.int l), .val (.int h)] := by
  rw [show f_is_tuple.fn = runB 3 [] b_is_tuple from rfl, runB_eq]
  cases v <;> simp [b_is_tuple, ev_val, isaD, isTup, tstK_and, endB, keepsL, proj]
@[simp] theorem c_is_tuple {r : Sl} (v : D) (l h : Int) : callF f_is_tuple [.d v, .d (.int l), .d (.int h)] r = .ok (.d (.bool (isTup v l h))) r := call_dat (xs := [v, .int l, .int h]) rfl rfl (is_tuple_fn v l h)
theorem are_in_fn (v : D) (a b l h : Int) (hb : b ≤ 16777216) : f_are_in.fn [.val v, .val (.int a), .val (.int b), .val (.int l), .val (.int h)] = .ok (.dat (.bool (areIn v a b l h))) [.val v, .val (.int a), .val (.int b), .val (.int l), .val (.int h)] := by
  rw [show f_are_in.fn = runB 6 [f_is_in] b_are_in from rfl, runB_eq]
  cases v with
  | tuple ds =>
    by_cases h1 : a ≤ ds.length
    · by_cases h2 : (ds.length : Int) ≤ b
      · have hc : compK [f_is_in] [("part", 5)] (.nm 5) false (.lit .none) (.call 0 (.cons (.var 5) (.cons (.var 3) (.cons (.var 4) .nil)))) ds [.val (.tuple ds), .val (.int a), .val (.int b), .val (.int l), .val (.int h), .no] = .ok (.f (ds.map fun x => .bool (isIn x l h))) [.val (.tuple ds), .val (.int a), .val (.int b), .val (.int l), .val (.int h), .no] :=
          compK_all (fun x => .bool (isIn x l h)) (by omega) rfl rfl fun x _ => ⟨_, rfl, by simp [ev_call, ev_val], rfl⟩
        simp [b_are_in, ev_val, isaD, areIn, tstK_and, endB, keepsL, proj, h1, h2, hc, all_k]
      · simp [b_are_in, ev_val, isaD, areIn, tstK_and, endB, keepsL, proj, h1, h2]
    · simp [b_are_in, ev_val, isaD, areIn, tstK_and, endB, keepsL, proj, h1]
  | _ => simp [b_are_in, ev_val, isaD, areIn, tstK_and, endB, keepsL, proj]
theorem c_are_in {r : Sl} (v : D) (a b l h : Int) (hb : b ≤ 16777216) : callF f_are_in [.d v, .d (.int a), .d (.int b), .d (.int l), .d (.int h)] r = .ok (.d (.bool (areIn v a b l h))) r := call_dat (xs := [v, .int a, .int b, .int l, .int h]) rfl rfl (are_in_fn v a b l h hb)
end KL
namespace KL
open PySem SR
def bnd : D → D → Bool := fun x q => match q with
  | .tuple [.int l, .int h] => isIn x l h
  | _ => false
/-- one row -/
def isSong (v : D) : Bool := match v with
  | .tuple [a, b, c, d, e] => isIn a 0 9 && isIn b 0 5 && isIn c 40 220 && isIn d 0 11 && isIn e 1 60
  | _ => false
theorem not5 {ds : List D} (h : isTup (.tuple ds) 5 5 = true) : ∃ a b c d e, ds = [a, b, c, d, e] := by
  have hl : ds.length = 5 := by
    simp only [isTup, Bool.and_eq_true, decide_eq_true_eq] at h
    omega
  match ds, hl with
  | [a, b, c, d, e], _ => exact ⟨a, b, c, d, e, rfl⟩
theorem isSong_no {v : D} (h : isTup v 5 5 = false) : isSong v = false := by
  unfold isSong
  split
  · simp [isTup] at h
  · rfl
def sItem (q : D) : D := match q with
  | .tuple [x, .tuple [.int l, .int h]] => .bool (isIn x l h)
  | _ => .none
theorem is_song_fn (v : D) : f_is_song.fn [.val v] = .ok (.dat (.bool (isSong v))) [.val v] := by
  rw [show f_is_song.fn = runB 4 [f_is_tuple, f_is_in] b_is_song from rfl, runB_eq]
  cases ht : isTup v 5 5 with
  | false => simp [b_is_song, ev_call, ev_val, ht, isSong_no ht, endB, keepsL, proj]
  | true =>
    cases v with
    | tuple ds =>
      obtain ⟨a, b, c, d, e, rfl⟩ := not5 ht
      have hc : compK [f_is_tuple, f_is_in] [("part", 1), ("low", 2), ("high", 3)] (.tp (.cons (.nm 1) (.cons (.tp (.cons (.nm 2) (.cons (.nm 3) .nil))) .nil))) false (.lit .none) (.call 1 (.cons (.var 1) (.cons (.var 2) (.cons (.var 3) .nil))))
          (zipD [a, b, c, d, e] [.tuple [.int 0, .int 9], .tuple [.int 0, .int 5], .tuple [.int 40, .int 220], .tuple [.int 0, .int 11], .tuple [.int 1, .int 60]]) [.val (.tuple [a, b, c, d, e]), .no, .no, .no] = .ok (.f ([isIn a 0 9, isIn b 0 5, isIn c 40 220, isIn d 0 11, isIn e 1 60].map fun x => .bool x)) [.val (.tuple [a, b, c, d, e]), .no, .no, .no] := by
        refine compK_all sItem (by simp [zipD]) rfl rfl fun x hx => ?_
        simp only [zipD, List.mem_cons, List.not_mem_nil, or_false] at hx
        rcases hx with rfl | rfl | rfl | rfl | rfl <;> exact ⟨_, rfl, by simp [ev_call, ev_val, sItem], rfl⟩
      have ha := all_k (r := [.val (.tuple [a, b, c, d, e]), .no, .no, .no]) (fun x : Bool => x) [isIn a 0 9, isIn b 0 5, isIn c 40 220, isIn d 0 11, isIn e 1 60]
      simp [b_is_song, ev_call, ev_val, ht, d_BOUNDS, hc, endB, keepsL, proj] at ha ⊢
      simp [ha, isSong, endB, keepsL, proj, Bool.and_assoc]
    | _ => simp [isTup] at ht
@[simp] theorem c_is_song {r : Sl} (v : D) : callF f_is_song [.d v] r = .ok (.d (.bool (isSong v))) r := call_dat (xs := [v]) rfl rfl (is_song_fn v)
def areSongs (v : D) : Bool := match v with
  | .tuple ds => decide (1 ≤ ds.length) && decide (ds.length ≤ 8) && ds.all isSong
  | _ => false
theorem are_songs_fn (v : D) : f_are_songs.fn [.val v] = .ok (.dat (.bool (areSongs v))) [.val v] := by
  rw [show f_are_songs.fn = runB 2 [f_is_tuple, f_is_song] b_are_songs from rfl, runB_eq]
  cases ht : isTup v 1 8 with
  | false =>
    have e : areSongs v = false := by
      cases v <;> simp [areSongs, isTup] at ht ⊢
      intro h1 h2
      omega
    simp [b_are_songs, ev_call, ev_val, d_MOST_SONGS, ht, e, endB, keepsL, proj]
  | true =>
    cases v with
    | tuple ds =>
      have hl : 1 ≤ ds.length ∧ ds.length ≤ 8 := by
        simp only [isTup, Bool.and_eq_true, decide_eq_true_eq] at ht
        omega
      have hc : compK [f_is_tuple, f_is_song] [("row", 1)] (.nm 1) false (.lit .none) (.call 1 (.cons (.var 1) .nil)) ds [.val (.tuple ds), .no] = .ok (.f (ds.map fun x => .bool (isSong x))) [.val (.tuple ds), .no] :=
        compK_all (fun x => .bool (isSong x)) (by omega) rfl rfl fun x hx => ⟨_, rfl, by simp [ev_call, ev_val], rfl⟩
      simp [b_are_songs, ev_call, ev_val, d_MOST_SONGS, ht, hc, all_k, areSongs, hl.1, hl.2, endB, keepsL, proj]
    | _ => simp [isTup] at ht
@[simp] theorem c_are_songs {r : Sl} (v : D) : callF f_are_songs [.d v] r = .ok (.d (.bool (areSongs v))) r := call_dat (xs := [v]) rfl rfl (are_songs_fn v)
def areRules (v : D) : Bool := match v with
  | .tuple [a, b, c, d, e] => isIn a 1 4 && isIn b 1 4 && isIn c 1 4 && isIn d 0 180 && isIn e 0 6
  | _ => false
theorem areRules_no {v : D} (h : isTup v 5 5 = false) : areRules v = false := by
  unfold areRules
  split
  · simp [isTup] at h
  · rfl
theorem are_rules_fn (v : D) : f_are_rules.fn [.val v] = .ok (.dat (.bool (areRules v))) [.val v] := by
  rw [show f_are_rules.fn = runB 1 [f_is_tuple, f_are_in, f_is_in] b_are_rules from rfl, runB_eq]
  cases ht : isTup v 5 5 with
  | false => simp [b_are_rules, ev_call, ev_val, ht, areRules_no ht, endB, keepsL, proj]
  | true =>
    cases v with
    | tuple ds =>
      obtain ⟨a, b, c, d, e, rfl⟩ := not5 ht
      have hs : slcK (.d (.tuple [a, b, c, d, e])) none (some 3) [.val (.tuple [a, b, c, d, e])] = .ok (.d (.tuple [a, b, c])) [.val (.tuple [a, b, c, d, e])] := slcK_ok rfl rfl
      have h3 : idxK (.d (.tuple [a, b, c, d, e])) (.d (.int 3)) [.val (.tuple [a, b, c, d, e])] = .ok (.d d) [.val (.tuple [a, b, c, d, e])] := idx_t rfl
      have h4 : idxK (.d (.tuple [a, b, c, d, e])) (.d (.int 4)) [.val (.tuple [a, b, c, d, e])] = .ok (.d e) [.val (.tuple [a, b, c, d, e])] := idx_t rfl
      have hA : areIn (.tuple [a, b, c]) 3 3 1 4 = (isIn a 1 4 && isIn b 1 4 && isIn c 1 4) := by simp [areIn, Bool.and_assoc]
      cases h : (isIn a 1 4 && isIn b 1 4 && isIn c 1 4) with
      | true => simp [b_are_rules, ev_call, ev_val, ht, hs, h3, h4, hA, h, c_are_in, d_MOST_GAP, d_MOST_JUMP, d_MOST_TURN, tstK_and, areRules, endB, keepsL, proj]
      | false => simp [b_are_rules, ev_call, ev_val, ht, hs, h3, h4, hA, h, c_are_in, d_MOST_GAP, d_MOST_JUMP, d_MOST_TURN, tstK_and, areRules, endB, keepsL, proj]
    | _ => simp [isTup] at ht
@[simp] theorem c_are_rules {r : Sl} (v : D) : callF f_are_rules [.d v] r = .ok (.d (.bool (areRules v))) r := call_dat (xs := [v]) rfl rfl (are_rules_fn v)
@[simp] theorem c_demand_t {r : Sl} (n : D) : callF f_demand [.d (.bool true), .d n] r = .ok (.d .none) r := by
  refine call_dat (v := .dat .none) (as' := [.val (.bool true), .val n]) (xs := [.bool true, n]) rfl rfl ?_
  rw [show f_demand.fn = runB 2 [] b_demand from rfl, runB_eq]
  simp [b_demand, ev_val, endB, keepsL, proj]
@[simp] theorem c_demand_f {r : Sl} (n : D) : callF f_demand [.d (.bool false), .d n] r = .err 0 n r := by
  refine call_datE (as' := [.val (.bool false), .val n]) (xs := [.bool false, n]) rfl rfl ?_
  rw [show f_demand.fn = runB 2 [] b_demand from rfl, runB_eq]
  simp [b_demand, ev_val, endK, keepsL, proj]
end KL
namespace KL
open PySem SR
theorem atI_nat {l : List D} {i : Nat} {x : D} (h : l[i]? = some x) : L2.atI l (i : Int) = some x := by
  have hi := (List.getElem?_eq_some_iff.mp h).1
  unfold L2.atI L2.ixN
  rw [if_pos (by omega), if_pos (by omega)]
  simpa using h
theorem atI_neg {l : List D} {k : Nat} {x : D} (h1 : 1 ≤ k) (h2 : k ≤ l.length) (h : l[l.length - k]? = some x) : L2.atI l (-(k : Int)) = some x := by
  unfold L2.atI L2.ixN
  rw [if_neg (by omega), if_pos (by omega)]
  have e : (-(k : Int) + l.length).toNat = l.length - k := by omega
  simpa [e] using h
/-! ### songs, rules, lists -/
abbrev Row := Int × Int × Int × Int × Int
def rowD (s : Row) : D := .tuple [.int s.1, .int s.2.1, .int s.2.2.1, .int s.2.2.2.1, .int s.2.2.2.2]
def songsD (S : List Row) : D := .tuple (S.map rowD)
def plD (p : List Nat) : D := .tuple (p.map fun i : Nat => .int (i : Int))
def steps (i j : Int) : Int := minI (absI (i - j)) (12 - absI (i - j))
@[simp] theorem c_steps_of {r : Sl} (i j : Int) : callF f_steps_of [.d (.int i), .d (.int j)] r = .ok (.d (.int (steps i j))) r := by
  refine call_dat (v := .dat (.int (steps i j))) (as' := [.val (.int i), .val (.int j)]) (xs := [.int i, .int j]) rfl rfl ?_
  rw [show f_steps_of.fn = runB 3 [] b_steps_of from rfl, runB_eq]
  simp [b_steps_of, ev_val, setK_no, d_KEYS, steps, absI, endB, keepsL, proj]
theorem idx_song {S : List Row} {i : Nat} {s : Row} {r : Sl} (h : S[i]? = some s) : idxK (.d (songsD S)) (.d (.int (i : Int))) r = .ok (.d (rowD s)) r := idx_t (atI_nat (by rw [List.getElem?_map, h]; rfl))
@[simp] theorem row0 {s : Row} {r : Sl} : idxK (.d (rowD s)) (.d (.int 0)) r = .ok (.d (.int s.1)) r := idx_t rfl
@[simp] theorem row1 {s : Row} {r : Sl} : idxK (.d (rowD s)) (.d (.int 1)) r = .ok (.d (.int s.2.1)) r := idx_t rfl
@[simp] theorem row2 {s : Row} {r : Sl} : idxK (.d (rowD s)) (.d (.int 2)) r = .ok (.d (.int s.2.2.1)) r := idx_t rfl
@[simp] theorem row3 {s : Row} {r : Sl} : idxK (.d (rowD s)) (.d (.int 3)) r = .ok (.d (.int s.2.2.2.1)) r := idx_t rfl
@[simp] theorem row4 {s : Row} {r : Sl} : idxK (.d (rowD s)) (.d (.int 4)) r = .ok (.d (.int s.2.2.2.2)) r := idx_t rfl
def marks (i : Nat) (s : Row) : D := .tuple [.int i, .int s.1, .int s.2.1]
theorem c_marks_of {S : List Row} {i : Nat} {s : Row} {r : Sl} (h : S[i]? = some s) : callF f_marks_of [.d (songsD S), .d (.int (i : Int))] r = .ok (.d (marks i s)) r := by
  refine call_dat (v := .dat (marks i s)) (as' := [.val (songsD S), .val (.int i)]) (xs := [songsD S, .int i]) rfl rfl ?_
  rw [show f_marks_of.fn = runB 2 [] b_marks_of from rfl, runB_eq]
  have ht : tupK [.d (.int (i : Int)), .d (.int s.1), .d (.int s.2.1)] [.val (songsD S), .val (.int i)] = .ok (.d (marks i s)) [.val (songsD S), .val (.int i)] := tupK_ok (xs := [.int i, .int s.1, .int s.2.1]) rfl (by simp)
  simp [b_marks_of, ev_val, idx_song h, ht, endB, keepsL, proj]
@[simp] theorem mark0 {i : Nat} {s : Row} {r : Sl} : idxK (.d (marks i s)) (.d (.int 0)) r = .ok (.d (.int i)) r := idx_t rfl
@[simp] theorem mark1 {i : Nat} {s : Row} {r : Sl} : idxK (.d (marks i s)) (.d (.int 1)) r = .ok (.d (.int s.1)) r := idx_t rfl
@[simp] theorem mark2 {i : Nat} {s : Row} {r : Sl} : idxK (.d (marks i s)) (.d (.int 2)) r = .ok (.d (.int s.2.1)) r := idx_t rfl
/-! ### broken -/
def one (b : Bool) (w : Str) : List D := if b then [.str w] else []
/-- what is told of songs i, j (rows s, t), so far apart -/
def brk (s t R : Row) (i j : Nat) (ap : Int) : List D :=
  one (decide (ap < R.1) && decide ((i : Int) = j)) "song" ++ (one (decide (ap < R.2.1) && decide (s.1 = t.1)) "maker" ++ (one (decide (ap < R.2.2.1) && decide (s.2.1 = t.2.1)) "mood" ++
    (one (decide (ap = 1) && decide (R.2.2.2.1 < absI (s.2.2.1 - t.2.2.1))) "jump" ++ one (decide (ap = 1) && decide (R.2.2.2.2 < steps s.2.2.2.1 t.2.2.2.1)) "turn")))
theorem brk_len {s t R : Row} {i j : Nat} {ap : Int} : (brk s t R i j ap).length ≤ 5 := by
  have h : ∀ b w, (one b w).length ≤ 1 := fun b w => by cases b <;> simp [one]
  simp only [brk, List.length_append]
  have h1 := h (decide (ap < R.1) && decide ((i : Int) = j)) "song"
  have h2 := h (decide (ap < R.2.1) && decide (s.1 = t.1)) "maker"
  have h3 := h (decide (ap < R.2.2.1) && decide (s.2.1 = t.2.1)) "mood"
  have h4 := h (decide (ap = 1) && decide (R.2.2.2.1 < absI (s.2.2.1 - t.2.2.1))) "jump"
  have h5 := h (decide (ap = 1) && decide (R.2.2.2.2 < steps s.2.2.2.1 t.2.2.2.1)) "turn"
  omega
/-- if b: xs.append(w) -/
theorem app_if {fs : List FI} {r : Sl} {i : Nat} {l : List D} {b : Bool} {w : Str} {e : CE} {f : Sl → SR.SR} (h : r[i]? = some (.own l)) (hz : l.length < 16777216) (he : evE fs e r = .ok (.d (.str w)) r) :
    seqK (if b then seqK (exS fs (.app i e) r) (fun r1 => .nx r1) else .nx r) f = f (r.set i (.own (l ++ one b w))) := by
  have hi : i < r.length := (List.getElem?_eq_some_iff.mp h).1
  cases b with
  | true => simp [ex_app e h, he, appK_own h hz, one]
  | false =>
    have e : r.set i (.own (l ++ one false w)) = r := by
      simp only [one, Bool.false_eq_true, if_false, List.append_nil]
      apply List.ext_getElem?
      intro k
      by_cases hk : k = i
      · subst hk
        rw [List.getElem?_set_self hi, h]
      · rw [List.getElem?_set_ne (Ne.symm hk)]
    rw [e]
    rfl
end KL
namespace KL
open PySem SR
abbrev fsB : List FI := [f_marks_of, f_steps_of]
abbrev stB (S : List Row) (R : Row) (i j : Nat) (ap : Int) (l : List D) (x y : SV) : Sl := [.val (songsD S), .val (rowD R), .val (.int i), .val (.int j), .val (.int ap), .own l, x, y]
abbrev bodyB : CSs := .cons (.ife (.andE (.cmp .Lt (.var 4) (.idx (.var 1) (.var 6))) (.cmp .Eq (.idx (.call 0 (.cons (.var 0) (.cons (.var 2) .nil))) (.var 6)) (.idx (.call 0 (.cons (.var 0) (.cons (.var 3) .nil))) (.var 6)))) (.cons (.app 5 (.var 7)) .nil) (.nil)) .nil
section
variable {S : List Row} {R s t : Row} {i j : Nat} {ap : Int}
theorem nilF {r : Sl} : (fun r1 : Sl => exSs fsB .nil r1) = fun r1 => .nx r1 := by funext r; simp
theorem st0 (hs : S[i]? = some s) (ht : S[j]? = some t) (l : List D) (hl : l.length < 16777216) (w : Str) : exSs fsB bodyB (stB S R i j ap l (.val (.int 0)) (.val (.str w))) = .nx (stB S R i j ap (l ++ one (decide (ap < R.1) && decide ((i : Int) = j)) w) (.val (.int 0)) (.val (.str w))) := by
  simp only [bodyB, exs_cons, ex_if, ev_and, ev_cmp, ev_idx, ev_call _ (show fsB[0]? = some f_marks_of from rfl), evs_cons, evs_one, ev_val (show (stB S R i j ap l (.val (.int 0)) (.val (.str w)))[0]? = some (.val (songsD S)) from rfl), ev_val (show (stB S R i j ap l (.val (.int 0)) (.val (.str w)))[1]? = some (.val (rowD R)) from rfl), ev_val (show (stB S R i j ap l (.val (.int 0)) (.val (.str w)))[2]? = some (.val (.int i)) from rfl), ev_val (show (stB S R i j ap l (.val (.int 0)) (.val (.str w)))[3]? = some (.val (.int j)) from rfl), ev_val (show (stB S R i j ap l (.val (.int 0)) (.val (.str w)))[4]? = some (.val (.int ap)) from rfl), ev_val (show (stB S R i j ap l (.val (.int 0)) (.val (.str w)))[6]? = some (.val (.int 0)) from rfl), bind_ok, sr_ok, stl_d, row0, c_marks_of hs, c_marks_of ht, mark0, lt_i, eq_i, tstK_and, ifK_b, exs_nil]
  exact app_if rfl hl (ev_val rfl)
theorem st1 (hs : S[i]? = some s) (ht : S[j]? = some t) (l : List D) (hl : l.length < 16777216) (w : Str) : exSs fsB bodyB (stB S R i j ap l (.val (.int 1)) (.val (.str w))) = .nx (stB S R i j ap (l ++ one (decide (ap < R.2.1) && decide (s.1 = t.1)) w) (.val (.int 1)) (.val (.str w))) := by
  simp only [bodyB, exs_cons, ex_if, ev_and, ev_cmp, ev_idx, ev_call _ (show fsB[0]? = some f_marks_of from rfl), evs_cons, evs_one, ev_val (show (stB S R i j ap l (.val (.int 1)) (.val (.str w)))[0]? = some (.val (songsD S)) from rfl), ev_val (show (stB S R i j ap l (.val (.int 1)) (.val (.str w)))[1]? = some (.val (rowD R)) from rfl), ev_val (show (stB S R i j ap l (.val (.int 1)) (.val (.str w)))[2]? = some (.val (.int i)) from rfl), ev_val (show (stB S R i j ap l (.val (.int 1)) (.val (.str w)))[3]? = some (.val (.int j)) from rfl), ev_val (show (stB S R i j ap l (.val (.int 1)) (.val (.str w)))[4]? = some (.val (.int ap)) from rfl), ev_val (show (stB S R i j ap l (.val (.int 1)) (.val (.str w)))[6]? = some (.val (.int 1)) from rfl), bind_ok, sr_ok, stl_d, row1, c_marks_of hs, c_marks_of ht, mark1, lt_i, eq_i, tstK_and, ifK_b, exs_nil]
  exact app_if rfl hl (ev_val rfl)
theorem st2 (hs : S[i]? = some s) (ht : S[j]? = some t) (l : List D) (hl : l.length < 16777216) (w : Str) : exSs fsB bodyB (stB S R i j ap l (.val (.int 2)) (.val (.str w))) = .nx (stB S R i j ap (l ++ one (decide (ap < R.2.2.1) && decide (s.2.1 = t.2.1)) w) (.val (.int 2)) (.val (.str w))) := by
  simp only [bodyB, exs_cons, ex_if, ev_and, ev_cmp, ev_idx, ev_call _ (show fsB[0]? = some f_marks_of from rfl), evs_cons, evs_one, ev_val (show (stB S R i j ap l (.val (.int 2)) (.val (.str w)))[0]? = some (.val (songsD S)) from rfl), ev_val (show (stB S R i j ap l (.val (.int 2)) (.val (.str w)))[1]? = some (.val (rowD R)) from rfl), ev_val (show (stB S R i j ap l (.val (.int 2)) (.val (.str w)))[2]? = some (.val (.int i)) from rfl), ev_val (show (stB S R i j ap l (.val (.int 2)) (.val (.str w)))[3]? = some (.val (.int j)) from rfl), ev_val (show (stB S R i j ap l (.val (.int 2)) (.val (.str w)))[4]? = some (.val (.int ap)) from rfl), ev_val (show (stB S R i j ap l (.val (.int 2)) (.val (.str w)))[6]? = some (.val (.int 2)) from rfl), bind_ok, sr_ok, stl_d, row2, c_marks_of hs, c_marks_of ht, mark2, lt_i, eq_i, tstK_and, ifK_b, exs_nil]
  exact app_if rfl hl (ev_val rfl)
theorem one_len (b : Bool) (w : Str) : (one b w).length ≤ 1 := by cases b <;> simp [one]
theorem broken_fn (hs : S[i]? = some s) (ht : S[j]? = some t) : f_broken.fn [.val (songsD S), .val (rowD R), .val (.int i), .val (.int j), .val (.int ap)] = .ok (.frs (brk s t R i j ap)) [.val (songsD S), .val (rowD R), .val (.int i), .val (.int j), .val (.int ap)] := by
  rw [show f_broken.fn = runB 8 fsB b_broken from rfl, runB_eq]
  generalize hb1 : (decide (ap < R.1) && decide ((i : Int) = j)) = b1
  generalize hb2 : (decide (ap < R.2.1) && decide (s.1 = t.1)) = b2
  generalize hb3 : (decide (ap < R.2.2.1) && decide (s.2.1 = t.2.1)) = b3
  have q1 := one_len b1 "song"
  have q2 := one_len b2 "maker"
  have q3 := one_len b3 "mood"
  have hfor : forK fsB (.tp (.cons (.nm 6) (.cons (.nm 7) .nil))) bodyB (enumD 0 [.str "song", .str "maker", .str "mood"]) (stB S R i j ap [] .no .no) = .nx (stB S R i j ap (one b1 "song" ++ (one b2 "maker" ++ one b3 "mood")) (.val (.int 2)) (.val (.str "mood"))) := by
    have e0 := st0 (R := R) (ap := ap) hs ht [] (by simp) "song"
    have e1 := st1 (R := R) (ap := ap) hs ht (one b1 "song") (by omega) "maker"
    have e2 := st2 (R := R) (ap := ap) hs ht (one b1 "song" ++ one b2 "maker") (by rw [List.length_append]; omega) "mood"
    rw [hb1, List.nil_append] at e0
    rw [hb2] at e1
    rw [hb3] at e2
    show (match exSs fsB bodyB (stB S R i j ap [] (.val (.int 0)) (.val (.str "song"))) with
      | .nx r2 => forL _ _ [.tuple [.int (0 + 1), .str "maker"], .tuple [.int (0 + 1 + 1), .str "mood"]] r2
      | .ct r2 => forL _ _ [.tuple [.int (0 + 1), .str "maker"], .tuple [.int (0 + 1 + 1), .str "mood"]] r2
      | .bk r2 => .nx r2
      | .rt v r2 => .rt v r2
      | .err c p r2 => .err c p r2
      | .bad => .bad) = _
    rw [e0]
    show (match exSs fsB bodyB (stB S R i j ap (one b1 "song") (.val (.int 1)) (.val (.str "maker"))) with
      | .nx r2 => forL _ _ [.tuple [.int (0 + 1 + 1), .str "mood"]] r2
      | .ct r2 => forL _ _ [.tuple [.int (0 + 1 + 1), .str "mood"]] r2
      | .bk r2 => .nx r2
      | .rt v r2 => .rt v r2
      | .err c p r2 => .err c p r2
      | .bad => .bad) = _
    rw [e1]
    show (match exSs fsB bodyB (stB S R i j ap (one b1 "song" ++ one b2 "maker") (.val (.int 2)) (.val (.str "mood"))) with
      | .nx r2 => forL _ _ [] r2
      | .ct r2 => forL _ _ [] r2
      | .bk r2 => .nx r2
      | .rt v r2 => .rt v r2
      | .err c p r2 => .err c p r2
      | .bad => .bad) = _
    rw [e2, List.append_assoc]
    rfl
  have hl0 : lstK [] [.val (songsD S), .val (rowD R), .val (.int i), .val (.int j), .val (.int ap), .no, .no, .no] = .ok (.f []) [.val (songsD S), .val (rowD R), .val (.int i), .val (.int j), .val (.int ap), .no, .no, .no] := lstK_ok rfl (by simp)
  have hs0 : setK 5 true (.f []) [.val (songsD S), .val (rowD R), .val (.int i), .val (.int j), .val (.int ap), .no, .no, .no] = .nx (stB S R i j ap [] .no .no) := setK_own rfl
  -- jump, turn
  have hj : ∀ (l : List D) (x y : SV) (f : Sl → SR.SR), l.length < 16777216 → seqK (exS fsB (.ife (.andE (.cmp .Eq (.var 4) (.lit (.int 1))) (.cmp .Gt (.blt .abs (.cons (.bin .Sub (.idx (.idx (.var 0) (.var 2)) (.lit (.int 2))) (.idx (.idx (.var 0) (.var 3)) (.lit (.int 2)))) .nil)) (.idx (.var 1) (.lit (.int 3))))) (.cons (.app 5 (.lit (.str "jump"))) .nil) (.nil)) (stB S R i j ap l x y)) f =
      f (stB S R i j ap (l ++ one (decide (ap = 1) && decide (R.2.2.2.1 < absI (s.2.2.1 - t.2.2.1))) "jump") x y) := fun l x y f hl => by
    simp only [exs_cons, ex_if, ev_and, ev_cmp, ev_blt, ev_bin, ev_idx, ev_lit, evs_one, ev_val (show (stB S R i j ap l x y)[0]? = some (.val (songsD S)) from rfl), ev_val (show (stB S R i j ap l x y)[1]? = some (.val (rowD R)) from rfl), ev_val (show (stB S R i j ap l x y)[2]? = some (.val (.int i)) from rfl), ev_val (show (stB S R i j ap l x y)[3]? = some (.val (.int j)) from rfl), ev_val (show (stB S R i j ap l x y)[4]? = some (.val (.int ap)) from rfl), bind_ok, sr_ok, idx_song hs, idx_song ht, row2, row3, sub_i, abs_k, gt_i, eq_i, tstK_and, ifK_b, exs_nil]
    exact app_if rfl hl (ev_lit _)
  have htn : ∀ (l : List D) (x y : SV) (f : Sl → SR.SR), l.length < 16777216 → seqK (exS fsB (.ife (.andE (.cmp .Eq (.var 4) (.lit (.int 1))) (.cmp .Gt (.call 1 (.cons (.idx (.idx (.var 0) (.var 2)) (.lit (.int 3))) (.cons (.idx (.idx (.var 0) (.var 3)) (.lit (.int 3))) .nil))) (.idx (.var 1) (.lit (.int 4))))) (.cons (.app 5 (.lit (.str "turn"))) .nil) (.nil)) (stB S R i j ap l x y)) f =
      f (stB S R i j ap (l ++ one (decide (ap = 1) && decide (R.2.2.2.2 < steps s.2.2.2.1 t.2.2.2.1)) "turn") x y) := fun l x y f hl => by
    simp only [exs_cons, ex_if, ev_and, ev_cmp, ev_call _ (show fsB[1]? = some f_steps_of from rfl), ev_idx, ev_lit, evs_cons, evs_one, stl_d, ev_val (show (stB S R i j ap l x y)[0]? = some (.val (songsD S)) from rfl), ev_val (show (stB S R i j ap l x y)[1]? = some (.val (rowD R)) from rfl), ev_val (show (stB S R i j ap l x y)[2]? = some (.val (.int i)) from rfl), ev_val (show (stB S R i j ap l x y)[3]? = some (.val (.int j)) from rfl), ev_val (show (stB S R i j ap l x y)[4]? = some (.val (.int ap)) from rfl), bind_ok, sr_ok, idx_song hs, idx_song ht, row3, row4, c_steps_of, gt_i, eq_i, tstK_and, ifK_b, exs_nil]
    exact app_if rfl hl (ev_lit _)
  have q4 := one_len (decide (ap = 1) && decide (R.2.2.2.1 < absI (s.2.2.1 - t.2.2.1))) "jump"
  show endK _ (exSs fsB b_broken [.val (songsD S), .val (rowD R), .val (.int i), .val (.int j), .val (.int ap), .no, .no, .no]) = _
  unfold b_broken
  rw [exs_cons, ex_set, ev_lst, evs_nil, bind_ok, hl0, sr_ok, hs0, seqK_nx, exs_cons, ex_for, evi_enum, ev_glob, bind_ok]
  show endK _ (seqK (forK fsB (.tp (.cons (.nm 6) (.cons (.nm 7) .nil))) bodyB (enumD 0 [.str "song", .str "maker", .str "mood"]) (stB S R i j ap [] .no .no)) _) = _
  rw [hfor, seqK_nx, exs_cons, hj _ _ _ _ (by simp only [List.length_append]; omega), exs_cons, htn _ _ _ _ (by simp only [List.length_append]; omega), exs_cons, ex_ret, ev_own (show (stB S R i j ap _ _ _)[5]? = some (.own _) from rfl), sr_ok, retS_own rfl]
  simp only [seqK_rt, endK_rt, brk, hb1, hb2, hb3, List.append_assoc]
  rfl
theorem c_broken {r : Sl} (hs : S[i]? = some s) (ht : S[j]? = some t) : callF f_broken [.d (songsD S), .d (rowD R), .d (.int i), .d (.int j), .d (.int ap)] r = .ok (.f (brk s t R i j ap)) r :=
  call_dat (xs := [songsD S, rowD R, .int i, .int j, .int ap]) rfl rfl (broken_fn hs ht)
end
end KL
namespace KL
open PySem SR
theorem flatL_app {n : Nat} : ∀ {a b : List D}, flatL n a = true → flatL n b = true → flatL n (a ++ b) = true
  | [], _, _, h => h
  | x :: a, b, h, g => by
    simp only [flatL, Bool.and_eq_true] at h
    simp only [List.cons_append, flatL, Bool.and_eq_true]
    exact ⟨h.1, flatL_app h.2 g⟩
theorem flat_one {n : Nat} {b : Bool} {w : Str} (h : PyData.strOk w = true) : flatL n (one b w) = true := by
  cases b <;> simp [one, flatL, flat]
  cases n <;> simpa [flat] using h
theorem flat_brk {n : Nat} {s t R : Row} {i j : Nat} {ap : Int} : flatL n (brk s t R i j ap) = true :=
  flatL_app (flat_one (by decide +kernel)) (flatL_app (flat_one (by decide +kernel)) (flatL_app (flat_one (by decide +kernel)) (flatL_app (flat_one (by decide +kernel)) (flat_one (by decide +kernel)))))
theorem flat_l {n : Nat} {l : List D} (h : flatL n l = true) : flat (n + 1) (.list l) = true := by simpa [flat] using h
theorem flat_t {n : Nat} {l : List D} (h : flatL n l = true) : flat (n + 1) (.tuple l) = true := by simpa [flat] using h
theorem eqD_ok {x y : D} (h1 : flat 8 x = true) (h2 : flat 8 y = true) : eqD x y = some (PyData.eqv x y) := by simp [eqD, h1, h2]
theorem eqv_nil (l : List D) : PyData.eqv (.list l) (.list []) = l.isEmpty := by
  cases l <;> rfl
theorem ne_nil {r : Sl} {l : List D} (h : flatL 7 l = true) : cmpK .NotEq (.f l) (.f []) r = .ok (.d (.bool (!l.isEmpty))) r := by
  refine cmpK_ok rfl rfl ?_
  rw [show cmpD .NotEq (.list l) (.list []) = (eqD (.list l) (.list [])).map (!·) from rfl, eqD_ok (flat_l h) rfl, eqv_nil]
  rfl
theorem eq_nil {r : Sl} {l : List D} (h : flatL 7 l = true) : cmpK .Eq (.f l) (.f []) r = .ok (.d (.bool l.isEmpty)) r := by
  refine cmpK_ok rfl rfl ?_
  rw [show cmpD .Eq (.list l) (.list []) = eqD (.list l) (.list []) from rfl, eqD_ok (flat_l h) rfl, eqv_nil]
@[simp] theorem lst_nil {r : Sl} : lstK [] r = .ok (.f []) r := lstK_ok rfl (by simp)
/-! ### loops -/
/-- for x in xs: (return v, if bad) -/
theorem forK_ret {fs : List FI} {tg : Tg} {body : CSs} {v : Ret} (I : Sl → Prop) (bad : D → Bool) : ∀ (xs : List D) (r : Sl), I r →
    (∀ x ∈ xs, ∀ r, I r → ∃ r1, setTg tg x r = some r1 ∧ I r1 ∧ exSs fs body r1 = if bad x then .rt v r1 else .nx r1) →
    ∃ r', I r' ∧ forK fs tg body xs r = if xs.any bad then .rt v r' else .nx r'
  | [], r, h, _ => ⟨r, h, rfl⟩
  | x :: xs, r, h, st => by
    obtain ⟨r1, h1, h2, h3⟩ := st x List.mem_cons_self r h
    cases hb : bad x with
    | true =>
      refine ⟨r1, h2, ?_⟩
      simp only [forK, forL, h1, h3, hb, if_true, List.any_cons, Bool.true_or]
    | false =>
      obtain ⟨r', g1, g2⟩ := forK_ret I bad xs r1 h2 fun y hy => st y (List.mem_cons_of_mem _ hy)
      refine ⟨r', g1, ?_⟩
      simp only [forK] at g2
      simp only [forK, forL, h1, h3, hb, Bool.false_eq_true, if_false, List.any_cons, Bool.false_or, g2]
/-- for x in xs, each turn a step -/
theorem forK_nx {fs : List FI} {tg : Tg} {body : CSs} (I : Nat → Sl → Prop) : ∀ (xs : List D) (n : Nat) (r : Sl), I n r →
    (∀ k x, xs[k]? = some x → ∀ r, I (n + k) r → ∃ r1 r2, setTg tg x r = some r1 ∧ exSs fs body r1 = .nx r2 ∧ I (n + k + 1) r2) →
    ∃ r', I (n + xs.length) r' ∧ forK fs tg body xs r = .nx r'
  | [], n, r, h, _ => ⟨r, h, rfl⟩
  | x :: xs, n, r, h, st => by
    obtain ⟨r1, r2, h1, h2, h3⟩ := st 0 x rfl r h
    obtain ⟨r', g1, g2⟩ := forK_nx I xs (n + 1) r2 h3 fun k y hy r hr => by
      have := st (k + 1) y (by simpa using hy) r (by rw [show n + (k + 1) = n + 1 + k by omega]; exact hr)
      rw [show n + (k + 1) + 1 = n + 1 + k + 1 by omega] at this
      exact this
    refine ⟨r', by rw [List.length_cons, show n + (xs.length + 1) = n + 1 + xs.length by omega]; exact g1, ?_⟩
    simp only [forK] at g2
    simp only [forK, forL, h1, h2, g2]
theorem rangeD_map : ∀ (n : Nat) (lo : Int), rangeD lo n = (List.range n).map fun k : Nat => .int (lo + k)
  | 0, _ => rfl
  | n + 1, lo => by
    rw [rangeD, rangeD_map n (lo + 1), List.range_succ_eq_map, List.map_cons, List.map_map]
    have e0 : (PyData.int lo : D) = .int (lo + ((0 : Nat) : Int)) := by simp
    rw [← e0]
    congr 1
    refine List.map_congr_left fun k _ => ?_
    simp only [Function.comp]
    congr 1
    omega
/-! ### is_next -/
def rw_ (S : List Row) (i : Nat) : Row := (S[i]?).getD (0, 0, 0, 0, 0)
theorem rw_at {S : List Row} {i : Nat} (h : i < S.length) : S[i]? = some (rw_ S i) := by
  unfold rw_
  rw [List.getElem?_eq_getElem h]
  rfl
def brkS (S : List Row) (R : Row) (i j : Nat) (ap : Int) : List D := brk (rw_ S i) (rw_ S j) R i j ap
def okP (S : List Row) (p : List Nat) : Prop := ∀ i ∈ p, i < S.length
/-- nothing is told of the last four of p and j -/
def nextB (S : List Row) (R : Row) (p : List Nat) (j : Nat) : Bool := (List.range (min p.length 4)).all fun k => (brkS S R (p.getD (p.length - (k + 1)) 0) j (k + 1)).isEmpty
abbrev stN (S : List Row) (R : Row) (p : List Nat) (j : Nat) (x : SV) : Sl := [.val (songsD S), .val (rowD R), .val (plD p), .val (.int j), x]
theorem pl_len (p : List Nat) {r : Sl} : bltK .len [.d (plD p)] r = .ok (.d (.int p.length)) r := by
  unfold plD
  rw [len_t, List.length_map]
def badN (S : List Row) (R : Row) (p : List Nat) (j : Nat) : D → Bool
  | .int a => !(brkS S R (p.getD (p.length - a.toNat) 0) j a).isEmpty
  | _ => false
theorem is_next_fn {S : List Row} {R : Row} {p : List Nat} {j : Nat} (hp : okP S p) (hj : j < S.length) (hl : p.length ≤ 1000000) : f_is_next.fn [.val (songsD S), .val (rowD R), .val (plD p), .val (.int j)] = .ok (.dat (.bool (nextB S R p j))) [.val (songsD S), .val (rowD R), .val (plD p), .val (.int j)] := by
  rw [show f_is_next.fn = runB 5 [f_broken] b_is_next from rfl, runB_eq]
  show endK _ (exSs [f_broken] b_is_next (stN S R p j .no)) = _
  unfold b_is_next
  have hm : minI (p.length : Int) 4 = ((min p.length 4 : Nat) : Int) := by unfold minI; split <;> omega
  have hr : rngK 1 (minI (p.length : Int) 4 + 1) (stN S R p j .no) = .ok ((List.range (min p.length 4)).map fun k : Nat => .int (1 + k)) (stN S R p j .no) := by
    rw [hm, rngK_ok (by omega) (by omega) (by omega) (by omega), rangeD_map]
    congr 3
    omega
  rw [exs_cons, ex_for, evi_rng2, ev_lit, bind_ok, ev_bin, ev_blt, evs_cons, ev_blt, evs_one, ev_val (show (stN S R p j .no)[2]? = some (.val (plD p)) from rfl), bind_ok, bind_ok, pl_len, bind_ok, evs_one, ev_glob, bind_ok, bind_ok, stl_d]
  simp only [bind_ok, show d_MOST_GAP = PyData.int 4 from rfl, min_k, ev_lit, add_i, rngW2_i, hr, sr_ok]
  obtain ⟨r', hI, hf⟩ := forK_ret (fs := [f_broken]) (tg := .nm 4) (v := .dat (.bool false)) (body := .cons (.ife (.cmp .NotEq (.call 0 (.cons (.var 0) (.cons (.var 1) (.cons (.idx (.var 2) (.neg (.var 4))) (.cons (.var 3) (.cons (.var 4) .nil)))))) (.lst (.nil))) (.cons (.ret (.lit (.bool false))) .nil) (.nil)) .nil)
    (fun r => ∃ x, r = stN S R p j x ∧ (∀ l, x ≠ .lent l) ∧ ∀ l, x ≠ .scr l) (badN S R p j) ((List.range (min p.length 4)).map fun k : Nat => .int (1 + k)) (stN S R p j .no) ⟨.no, rfl, (fun _ e => by cases e), (fun _ e => by cases e)⟩ (by
    rintro y hy r ⟨x, rfl, hx1, hx2⟩
    obtain ⟨k, hk, rfl⟩ := List.mem_map.mp hy
    have hk' : k < min p.length 4 := List.mem_range.mp hk
    refine ⟨stN S R p j (.val (.int (1 + k))), ?_, ⟨_, rfl, (fun _ e => by cases e), (fun _ e => by cases e)⟩, ?_⟩
    · cases x <;> first | rfl | (exact absurd rfl (hx1 _)) | (exact absurd rfl (hx2 _))
    · have hg : p[p.length - (k + 1)]? = some (p.getD (p.length - (k + 1)) 0) := by
        rw [List.getD_eq_getElem?_getD, List.getElem?_eq_getElem (by omega)]
        rfl
      generalize hq : p.getD (p.length - (k + 1)) 0 = q at hg
      have hqS : q < S.length := hp q (List.mem_of_getElem? hg)
      have e2 : (1 + (k : Int)) = ((k + 1 : Nat) : Int) := by omega
      have hi : idxK (.d (plD p)) (.d (.int (-(1 + (k : Int))))) (stN S R p j (.val (.int (1 + k)))) = .ok (.d (.int q)) (stN S R p j (.val (.int (1 + k)))) := by
        refine idx_t ?_
        rw [e2]
        exact atI_neg (by omega) (by rw [List.length_map]; omega) (by rw [List.length_map, List.getElem?_map, hg]; rfl)
      simp only [exs_cons, ex_if, ev_cmp, ev_call _ (show [f_broken][0]? = some f_broken from rfl), evs_cons, evs_one, ev_idx, ev_neg, ev_lst, evs_nil, ev_val (show (stN S R p j (.val (.int (1 + k))))[0]? = some (.val (songsD S)) from rfl), ev_val (show (stN S R p j (.val (.int (1 + k))))[1]? = some (.val (rowD R)) from rfl), ev_val (show (stN S R p j (.val (.int (1 + k))))[2]? = some (.val (plD p)) from rfl), ev_val (show (stN S R p j (.val (.int (1 + k))))[3]? = some (.val (.int j)) from rfl), ev_val (show (stN S R p j (.val (.int (1 + k))))[4]? = some (.val (.int (1 + k))) from rfl), bind_ok, negK_i, hi, stl_d, c_broken (rw_at hqS) (rw_at hj), lst_nil, ne_nil flat_brk, sr_ok, ifK_b, ex_ret, ev_lit, retS_d, seqK_if, seqK_rt, exs_nil, seqK_nx]
      have e3 : (1 + (k : Int)).toNat = k + 1 := by omega
      simp only [badN, e3, hq]
      rfl)
  rw [hf]
  have ha : (((List.range (min p.length 4)).map fun k : Nat => (.int (1 + k) : D)).any (badN S R p j)) = !nextB S R p j := by
    unfold nextB
    rw [List.any_map, List.not_all_eq_any_not]
    congr 1
    funext k
    simp only [Function.comp, badN]
    have e1 : (1 + (k : Int)).toNat = k + 1 := by omega
    have e2 : (1 + (k : Int)) = (k + 1 : Nat) := by omega
    rw [e1, e2]
    rfl
  rw [ha]
  obtain ⟨x, rfl, _⟩ := hI
  cases nextB S R p j with
  | true => simp [endB, keepsL, proj]
  | false => simp [endB, keepsL, proj]
theorem c_is_next {S : List Row} {R : Row} {p : List Nat} {j : Nat} {r : Sl} (hp : okP S p) (hj : j < S.length) (hl : p.length ≤ 1000000) : callF f_is_next [.d (songsD S), .d (rowD R), .d (plD p), .d (.int j)] r = .ok (.d (.bool (nextB S R p j))) r :=
  call_dat (xs := [songsD S, rowD R, plD p, .int j]) rfl rfl (is_next_fn hp hj hl)
end KL
namespace KL
open PySem SR
theorem cut_to (xs : List D) (k : Nat) : cutL xs none (some (k : Int)) = xs.take k := by
  unfold cutL
  rw [HT.sIx_none, HT.sIx_nat, List.drop_zero, Nat.sub_zero]
  rcases Nat.le_total k xs.length with h | h
  · rw [Nat.min_eq_left h]
  · rw [Nat.min_eq_right h, List.take_length, List.take_of_length_le h]
theorem cut_from (xs : List D) (k : Nat) (h : k ≤ xs.length) : cutL xs (some (k : Int)) none = xs.drop k := by
  unfold cutL
  rw [HT.sIx_none, HT.sIx_nat, Nat.min_eq_left h]
  exact List.take_of_length_le (by rw [List.length_drop]; omega)
theorem enumD_map {α : Type} (f : α → D) (d : α) : ∀ (p : List α) (n : Int), enumD n (p.map f) = (List.range p.length).map fun a : Nat => .tuple [.int (n + a), f (p.getD a d)]
  | [], _ => rfl
  | x :: p, n => by
    rw [List.map_cons, enumD, enumD_map f d p (n + 1), List.length_cons, List.range_succ_eq_map, List.map_cons, List.map_map]
    have e0 : (PyData.tuple [.int n, f x] : D) = .tuple [.int (n + ((0 : Nat) : Int)), f ((x :: p).getD 0 d)] := by simp
    rw [← e0]
    congr 1
    refine List.map_congr_left fun k _ => ?_
    simp only [Function.comp, List.getD_cons_succ]
    congr 3
    omega
/-! ### is_good_of -/
def goodB (S : List Row) (R : Row) (p : List Nat) : Bool := (List.range p.length).all fun a => nextB S R (p.take a) (p.getD a 0)
def gItem (S : List Row) (R : Row) (p : List Nat) : D → D
  | .tuple [.int a, .int s] => .bool (nextB S R (p.take a.toNat) s.toNat)
  | _ => .none
theorem okP_take {S : List Row} {p : List Nat} (h : okP S p) (n : Nat) : okP S (p.take n) := fun i hi => h i (List.mem_of_mem_take hi)
theorem okP_getD {S : List Row} {p : List Nat} (h : okP S p) {n : Nat} (hn : n < p.length) : p.getD n 0 < S.length := h _ (by
  rw [List.getD_eq_getElem?_getD, List.getElem?_eq_getElem hn]
  exact List.getElem_mem hn)
theorem is_good_of_fn {S : List Row} {R : Row} {p : List Nat} (hp : okP S p) (hl : p.length ≤ 1000000) : f_is_good_of.fn [.val (songsD S), .val (rowD R), .val (plD p)] = .ok (.dat (.bool (goodB S R p))) [.val (songsD S), .val (rowD R), .val (plD p)] := by
  rw [show f_is_good_of.fn = runB 5 [f_is_next] b_is_good_of from rfl, runB_eq]
  have hc : compK [f_is_next] [("at", 3), ("song", 4)] (.tp (.cons (.nm 3) (.cons (.nm 4) .nil))) false (.lit .none) (.call 0 (.cons (.var 0) (.cons (.var 1) (.cons (.slc (.var 2) false (.lit .none) true (.var 3)) (.cons (.var 4) .nil)))))
      ((List.range p.length).map fun a : Nat => .tuple [.int (0 + a), .int (p.getD a 0 : Nat)]) [.val (songsD S), .val (rowD R), .val (plD p), .no, .no] = .ok (.f ((List.range p.length).map fun a => .bool (nextB S R (p.take a) (p.getD a 0)))) [.val (songsD S), .val (rowD R), .val (plD p), .no, .no] := by
    rw [compK_all (gItem S R p) (by rw [List.length_map, List.length_range]; omega) rfl rfl fun x hx => ?_]
    · congr 2
      rw [List.map_map]
      refine List.map_congr_left fun a ha => ?_
      simp only [Function.comp, gItem]
      have e1 : (0 + (a : Int)).toNat = a := by omega
      rw [e1, Int.toNat_natCast]
    · obtain ⟨a, ha, rfl⟩ := List.mem_map.mp hx
      have ha' : a < p.length := List.mem_range.mp ha
      have hqS := okP_getD hp ha'
      have hN := c_is_next (R := R) (r := [.val (songsD S), .val (rowD R), .val (plD p), .val (.int a), .val (.int (p.getD a 0 : Nat))]) (okP_take hp a) hqS (by rw [List.length_take]; omega)
      have e1 : (0 + (a : Int)).toNat = a := by omega
      have e0 : (0 + (a : Int)) = ((a : Nat) : Int) := by omega
      refine ⟨[.val (songsD S), .val (rowD R), .val (plD p), .val (.int (0 + a)), .val (.int (p.getD a 0 : Nat))], rfl, ?_, rfl⟩
      simp only [gItem, e1, Int.toNat_natCast]
      rw [e0]
      generalize p.getD a 0 = q at hN ⊢
      have hs : slcK (.d (plD p)) none (some (a : Int)) [.val (songsD S), .val (rowD R), .val (plD p), .val (.int a), .val (.int (q : Nat))] = .ok (.d (plD (p.take a))) [.val (songsD S), .val (rowD R), .val (plD p), .val (.int a), .val (.int (q : Nat))] :=
        slcK_ok rfl (by unfold plD; simp only [slcD]; rw [cut_to, List.map_take])
      simp [ev_call, ev_val, hs, hN]
  have he : itmI (enumD 0) [.val (songsD S), .val (rowD R), .val (plD p), .no, .no] (.d (plD p)) = .ok ((List.range p.length).map fun a : Nat => .tuple [.int (0 + a), .int (p.getD a 0 : Nat)]) [.val (songsD S), .val (rowD R), .val (plD p), .no, .no] := by
    unfold plD
    rw [itmI_t, enumD_map (fun i : Nat => PyData.int (i : Int)) 0]
  simp [b_is_good_of, ev_val, endB, keepsL, proj]
  rw [he]
  simp only [bind_ok, hc, all_k]
  simp [endB, keepsL, proj, goodB]
theorem c_is_good_of {S : List Row} {R : Row} {p : List Nat} {r : Sl} (hp : okP S p) (hl : p.length ≤ 1000000) : callF f_is_good_of [.d (songsD S), .d (rowD R), .d (plD p)] r = .ok (.d (.bool (goodB S R p))) r :=
  call_dat (xs := [songsD S, rowD R, plD p]) rfl rfl (is_good_of_fn hp hl)
/-! ### demands -/
theorem c_demand_rules {s q : D} {r : Sl} (h1 : areSongs s = true) (h2 : areRules q = true) : callF f_demand_rules [.d s, .d q] r = .ok (.d .none) r := by
  refine call_dat (v := .dat .none) (as' := [.val s, .val q]) (xs := [s, q]) rfl rfl ?_
  rw [show f_demand_rules.fn = runB 2 [f_are_songs, f_demand, f_are_rules] b_demand_rules from rfl, runB_eq]
  simp [b_demand_rules, ev_call, ev_val, h1, h2, endB, keepsL, proj]
theorem e_demand_rules1 {s q : D} {r : Sl} (h1 : areSongs s = false) : callF f_demand_rules [.d s, .d q] r = .err 0 (.str "songs") r := by
  refine call_datE (as' := [.val s, .val q]) (xs := [s, q]) rfl rfl ?_
  rw [show f_demand_rules.fn = runB 2 [f_are_songs, f_demand, f_are_rules] b_demand_rules from rfl, runB_eq]
  simp [b_demand_rules, ev_call, ev_val, h1, endK, keepsL, proj]
theorem e_demand_rules2 {s q : D} {r : Sl} (h1 : areSongs s = true) (h2 : areRules q = false) : callF f_demand_rules [.d s, .d q] r = .err 0 (.str "rules") r := by
  refine call_datE (as' := [.val s, .val q]) (xs := [s, q]) rfl rfl ?_
  rw [show f_demand_rules.fn = runB 2 [f_are_songs, f_demand, f_are_rules] b_demand_rules from rfl, runB_eq]
  simp [b_demand_rules, ev_call, ev_val, h1, h2, endK, keepsL, proj]
theorem songs_len (S : List Row) {r : Sl} : bltK .len [.d (songsD S)] r = .ok (.d (.int S.length)) r := by
  unfold songsD
  rw [len_t, List.length_map]
def isList (n : Nat) (v : D) (m : Int) : Bool := areIn v 0 m 0 (n - 1)
theorem c_is_list {S : List Row} {v : D} {m : Int} {r : Sl} (hm : m ≤ 16777216) : callF f_is_list [.d (songsD S), .d v, .d (.int m)] r = .ok (.d (.bool (isList S.length v m))) r := by
  refine call_dat (v := .dat (.bool (isList S.length v m))) (as' := [.val (songsD S), .val v, .val (.int m)]) (xs := [songsD S, v, .int m]) rfl rfl ?_
  rw [show f_is_list.fn = runB 3 [f_are_in] b_is_list from rfl, runB_eq]
  simp [b_is_list, ev_call, ev_val, songs_len, c_are_in _ _ _ _ _ hm, isList, endB, keepsL, proj]
theorem isList_pl {S : List Row} {p : List Nat} {m : Int} (hp : okP S p) (hl : (p.length : Int) ≤ m) : isList S.length (plD p) m = true := by
  simp only [isList, plD, areIn, List.length_map, Bool.and_eq_true, decide_eq_true_eq, List.all_eq_true]
  refine ⟨⟨by omega, hl⟩, fun x hx => ?_⟩
  obtain ⟨i, hi, rfl⟩ := List.mem_map.mp hx
  have := hp i hi
  simp only [isIn, Bool.and_eq_true, decide_eq_true_eq]
  omega
end KL
namespace KL
open PySem SR
/-! ### all pairs -/
def tell (ws : List D) (o t : Nat) : List D := ws.map fun w => .tuple [w, .int (o : Nat), .int (t : Nat)]
def pairT (S : List Row) (R : Row) (p : List Nat) (o t : Nat) : List D := tell (brkS S R (p.getD o 0) (p.getD t 0) ((t : Int) - o)) o t
def rowT (S : List Row) (R : Row) (p : List Nat) (t : Nat) : List D := (List.range t).flatMap fun o => pairT S R p o t
def allT (S : List Row) (R : Row) (p : List Nat) : List D := (List.range p.length).flatMap (rowT S R p)
def okR (R : Row) : Prop := R.1 ≤ 4 ∧ R.2.1 ≤ 4 ∧ R.2.2.1 ≤ 4
theorem brk_far {s t R : Row} {i j : Nat} {ap : Int} (h : okR R) (ha : 4 ≤ ap) : brk s t R i j ap = [] := by
  obtain ⟨h1, h2, h3⟩ := h
  have e1 : decide (ap < R.1) = false := decide_eq_false (by omega)
  have e2 : decide (ap < R.2.1) = false := decide_eq_false (by omega)
  have e3 : decide (ap < R.2.2.1) = false := decide_eq_false (by omega)
  have e4 : decide (ap = 1) = false := decide_eq_false (by omega)
  simp [brk, e1, e2, e3, e4, one]
theorem pairT_len {S : List Row} {R : Row} {p : List Nat} {o t : Nat} : (pairT S R p o t).length ≤ 5 := by
  unfold pairT tell
  rw [List.length_map]
  exact brk_len
theorem pairT_far {S : List Row} {R : Row} {p : List Nat} {o t : Nat} (h : okR R) (ho : o + 4 ≤ t) : pairT S R p o t = [] := by
  unfold pairT brkS
  rw [brk_far h (by omega)]
  rfl
theorem flatMap_len {α β : Type} (f : α → List β) (c : Nat) : ∀ l : List α, (∀ x ∈ l, (f x).length ≤ c) → (l.flatMap f).length ≤ l.length * c
  | [], _ => by simp
  | x :: l, h => by
    rw [List.flatMap_cons, List.length_append, List.length_cons, Nat.succ_mul]
    have h1 := h x List.mem_cons_self
    have h2 := flatMap_len f c l fun y hy => h y (List.mem_cons_of_mem _ hy)
    omega
theorem rowT_len {S : List Row} {R : Row} {p : List Nat} {t : Nat} : (rowT S R p t).length ≤ t * 5 := by
  have := flatMap_len (fun o => pairT S R p o t) 5 (List.range t) fun _ _ => pairT_len
  rwa [List.length_range] at this
theorem range_snoc {β : Type} (f : Nat → List β) (n : Nat) : (List.range (n + 1)).flatMap f = (List.range n).flatMap f ++ f n := by
  rw [List.range_succ, List.flatMap_append]
  simp
/-- the near ones alone -/
theorem rowT_near {S : List Row} {R : Row} {p : List Nat} {t : Nat} (h : okR R) : rowT S R p t = (List.range (t - (t - 4))).flatMap fun k => pairT S R p ((t - 4) + k) t := by
  have key : ∀ n, n ≤ t → (List.range n).flatMap (fun o => pairT S R p o t) = (List.range (n - (t - 4))).flatMap fun k => pairT S R p ((t - 4) + k) t := fun n => by
    induction n with
    | zero => intro _; simp
    | succ n ih =>
      intro hn
      rw [range_snoc, ih (by omega)]
      by_cases hf : n + 4 ≤ t
      · rw [pairT_far h hf, List.append_nil]
        have e1 : n - (t - 4) = 0 := by omega
        by_cases h2 : n + 1 - (t - 4) = 0
        · rw [e1, h2]
        · have e2 : n + 1 = t - 4 + 1 ∨ False := by omega
          have e3 : n = t - 4 := by omega
          have e4 : n + 1 - (t - 4) = 1 := by omega
          rw [e1, e4]
          have := pairT_far (S := S) (R := R) (p := p) (o := t - 4) (t := t) h (by omega)
          simp [this]
      · have e1 : n + 1 - (t - 4) = n - (t - 4) + 1 := by omega
        have e2 : t - 4 + (n - (t - 4)) = n := by omega
        rw [e1, range_snoc, e2]
  exact key t (Nat.le_refl _)
/-! ### faults -/
def okX (x : SV) : Prop := x = .no ∨ ∃ d, x = .val d
theorem set_x {i : Nat} {x : SV} {r : Sl} {d : D} (h : r[i]? = some x) (hx : okX x) : setTg (.nm i) d r = some (r.set i (.val d)) := by
  rcases hx with rfl | ⟨y, rfl⟩ <;> simp [setTg, h]
abbrev fsF : List FI := [f_demand_list, f_broken]
abbrev stF (S : List Row) (R : Row) (p : List Nat) (l : List D) (x y z : SV) : Sl := [.val (songsD S), .val (rowD R), .val (plD p), .own l, x, y, z, .no]
abbrev bodyF : CSs := .cons (.ext 3 (.comp [("word", 7)] (.seq (.call 1 (.cons (.var 0) (.cons (.var 1) (.cons (.idx (.var 2) (.var 6)) (.cons (.var 5) (.cons (.bin .Sub (.var 4) (.var 6)) .nil))))))) (.nm 7) false (.lit .none) (.tup (.cons (.var 7) (.cons (.var 6) (.cons (.var 4) .nil)))))) .nil
theorem idx_pl {p : List Nat} {i : Nat} {r : Sl} (h : i < p.length) : idxK (.d (plD p)) (.d (.int (i : Int))) r = .ok (.d (.int (p.getD i 0 : Nat))) r := idx_t (atI_nat (by
  rw [List.getElem?_map, List.getD_eq_getElem?_getD, List.getElem?_eq_getElem h]
  rfl))
theorem stepF {S : List Row} {R : Row} {p : List Nat} {l : List D} {o t : Nat} (hp : okP S p) (ho : o < p.length) (ht : t < p.length) (hl : l.length + 5 ≤ 16777216) :
    exSs fsF bodyF (stF S R p l (.val (.int t)) (.val (.int (p.getD t 0 : Nat))) (.val (.int o))) = .nx (stF S R p (l ++ pairT S R p o t) (.val (.int t)) (.val (.int (p.getD t 0 : Nat))) (.val (.int o))) := by
  have h1 := okP_getD hp ho
  have h2 := okP_getD hp ht
  have hi := idx_pl (r := stF S R p l (.val (.int t)) (.val (.int (p.getD t 0 : Nat))) (.val (.int o))) ho
  have hlen := pairT_len (S := S) (R := R) (p := p) (o := o) (t := t)
  have hP : pairT S R p o t = tell (brkS S R (p.getD o 0) (p.getD t 0) ((t : Int) - o)) o t := rfl
  rw [hP] at hlen ⊢
  generalize p.getD o 0 = a at h1 hi hlen ⊢
  generalize p.getD t 0 = b at h2 hi hlen ⊢
  have hc : compK fsF [("word", 7)] (.nm 7) false (.lit .none) (.tup (.cons (.var 7) (.cons (.var 6) (.cons (.var 4) .nil)))) (brkS S R a b ((t : Int) - o)) (stF S R p l (.val (.int t)) (.val (.int (b : Nat))) (.val (.int o))) = .ok (.f (tell (brkS S R a b ((t : Int) - o)) o t)) (stF S R p l (.val (.int t)) (.val (.int (b : Nat))) (.val (.int o))) := by
    refine compK_all (fun w => .tuple [w, .int (o : Nat), .int (t : Nat)]) (Nat.le_trans brk_len (by omega)) rfl rfl fun w hw => ⟨[.val (songsD S), .val (rowD R), .val (plD p), .own l, .val (.int t), .val (.int (b : Nat)), .val (.int o), .val w], rfl, ?_, rfl⟩
    have ht : tupK [.d w, .d (.int o), .d (.int t)] [.val (songsD S), .val (rowD R), .val (plD p), .own l, .val (.int t), .val (.int (b : Nat)), .val (.int o), .val w] = .ok (.d (.tuple [w, .int (o : Nat), .int (t : Nat)])) [.val (songsD S), .val (rowD R), .val (plD p), .own l, .val (.int t), .val (.int (b : Nat)), .val (.int o), .val w] := tupK_ok (xs := [w, .int o, .int t]) rfl (by simp)
    simp [ev_val, ht]
  have hb := c_broken (R := R) (ap := (t : Int) - o) (r := stF S R p l (.val (.int t)) (.val (.int (b : Nat))) (.val (.int o))) (rw_at h1) (rw_at h2)
  simp only [bodyF, exs_cons, ex_ext _ (show (stF S R p l (.val (.int t)) (.val (.int (b : Nat))) (.val (.int o)))[3]? = some (.own l) from rfl), ev_comp, evi_seq, ev_call _ (show fsF[1]? = some f_broken from rfl), evs_cons, evs_one, ev_idx, ev_bin, ev_val (show (stF S R p l (.val (.int t)) (.val (.int (b : Nat))) (.val (.int o)))[0]? = some (.val (songsD S)) from rfl), ev_val (show (stF S R p l (.val (.int t)) (.val (.int (b : Nat))) (.val (.int o)))[1]? = some (.val (rowD R)) from rfl), ev_val (show (stF S R p l (.val (.int t)) (.val (.int (b : Nat))) (.val (.int o)))[2]? = some (.val (plD p)) from rfl), ev_val (show (stF S R p l (.val (.int t)) (.val (.int (b : Nat))) (.val (.int o)))[4]? = some (.val (.int t)) from rfl), ev_val (show (stF S R p l (.val (.int t)) (.val (.int (b : Nat))) (.val (.int o)))[5]? = some (.val (.int b)) from rfl), ev_val (show (stF S R p l (.val (.int t)) (.val (.int (b : Nat))) (.val (.int o)))[6]? = some (.val (.int o)) from rfl), bind_ok, sr_ok, stl_d, hi, sub_i, hb, itmI_f]
  rw [show compK fsF _ _ _ _ _ (brk (rw_ S a) (rw_ S b) R a b ((t : Int) - o)) _ = _ from hc, sr_ok, extK_own rfl (by omega)]
  simp
end KL
namespace KL
open PySem SR
section
variable {S : List Row} {R : Row} {p : List Nat}
theorem innerF {l : List D} {t lo n : Nat} {z : SV} (hp : okP S p) (ht : t < p.length) (hn : lo + n ≤ t) (hl : l.length + 5 * n + 5 ≤ 16777216) (hz : okX z) :
    ∃ z', okX z' ∧ forK fsF (.nm 6) bodyF ((List.range n).map fun k : Nat => .int ((lo : Int) + k)) (stF S R p l (.val (.int t)) (.val (.int (p.getD t 0 : Nat))) z) = .nx (stF S R p (l ++ (List.range n).flatMap fun k => pairT S R p (lo + k) t) (.val (.int t)) (.val (.int (p.getD t 0 : Nat))) z') := by
  obtain ⟨r', ⟨z', h1, h2⟩, h3⟩ := forK_nx (fs := fsF) (tg := .nm 6) (body := bodyF) (fun k r => ∃ z', okX z' ∧ r = stF S R p (l ++ (List.range k).flatMap fun k => pairT S R p (lo + k) t) (.val (.int t)) (.val (.int (p.getD t 0 : Nat))) z')
    ((List.range n).map fun k : Nat => .int ((lo : Int) + k)) 0 (stF S R p l (.val (.int t)) (.val (.int (p.getD t 0 : Nat))) z) ⟨z, hz, by simp⟩ (by
      rintro k x hx r ⟨z', hz', rfl⟩
      rw [List.getElem?_map, Option.map_eq_some_iff] at hx
      obtain ⟨k', hk, rfl⟩ := hx
      have hk2 := List.getElem?_eq_some_iff.mp hk
      obtain ⟨hkl, hke⟩ := hk2
      rw [List.length_range] at hkl
      rw [List.getElem_range] at hke
      subst hke
      rw [Nat.zero_add]
      have hlen := flatMap_len (fun k => pairT S R p (lo + k) t) 5 (List.range k) fun _ _ => pairT_len
      rw [List.length_range] at hlen
      have e0 : ((lo : Int) + (k : Int)) = ((lo + k : Nat) : Int) := by omega
      rw [e0]
      refine ⟨_, _, set_x rfl hz', stepF hp (by omega) ht (by rw [List.length_append]; omega), ⟨.val (.int ((lo + k : Nat) : Int)), .inr ⟨_, rfl⟩, ?_⟩⟩
      rw [range_snoc, List.append_assoc])
  rw [List.length_map, List.length_range, Nat.zero_add] at h2
  subst h2
  exact ⟨z', h1, h3⟩
theorem outerF (hp : okP S p) (hR : okR R) (hl : p.length ≤ 1000) :
    ∃ x y z, forK fsF (.tp (.cons (.nm 4) (.cons (.nm 5) .nil))) (.cons (.forS (.rng2 (.blt .max2 (.cons (.lit (.int 0)) (.cons (.bin .Sub (.var 4) (.glob "MOST_GAP" d_MOST_GAP)) .nil))) (.var 4)) (.nm 6) bodyF) .nil)
      ((List.range p.length).map fun a : Nat => .tuple [.int (0 + a), .int (p.getD a 0 : Nat)]) (stF S R p [] .no .no .no) = .nx (stF S R p (allT S R p) x y z) := by
  obtain ⟨r', ⟨x, y, z, h1, h2, h3, h4⟩, h5⟩ := forK_nx (fs := fsF) (tg := .tp (.cons (.nm 4) (.cons (.nm 5) .nil))) (body := .cons (.forS (.rng2 (.blt .max2 (.cons (.lit (.int 0)) (.cons (.bin .Sub (.var 4) (.glob "MOST_GAP" d_MOST_GAP)) .nil))) (.var 4)) (.nm 6) bodyF) .nil)
    (fun k r => ∃ x y z, okX x ∧ okX y ∧ okX z ∧ r = stF S R p ((List.range k).flatMap (rowT S R p)) x y z)
    ((List.range p.length).map fun a : Nat => .tuple [.int (0 + a), .int (p.getD a 0 : Nat)]) 0 (stF S R p [] .no .no .no) ⟨_, _, _, .inl rfl, .inl rfl, .inl rfl, by simp⟩ (by
      rintro k x hx r ⟨x0, y0, z0, hx0, hy0, hz0, rfl⟩
      rw [List.getElem?_map, Option.map_eq_some_iff] at hx
      obtain ⟨k', hk, rfl⟩ := hx
      obtain ⟨hkl, hke⟩ := List.getElem?_eq_some_iff.mp hk
      rw [List.length_range] at hkl
      rw [List.getElem_range] at hke
      subst hke
      rw [Nat.zero_add]
      have hlen := flatMap_len (rowT S R p) 5000 (List.range k) fun j hj => by
        have := rowT_len (S := S) (R := R) (p := p) (t := j)
        have hj := List.mem_range.mp hj
        omega
      rw [List.length_range] at hlen
      have e0 : ((0 : Int) + (k : Int)) = (k : Int) := by omega
      rw [e0]
      generalize hLL : (List.range k).flatMap (rowT S R p) = L at hlen ⊢
      have hset : setTg (.tp (.cons (.nm 4) (.cons (.nm 5) .nil))) (.tuple [.int (k : Int), .int (p.getD k 0 : Nat)]) (stF S R p L x0 y0 z0) = some (stF S R p L (.val (.int k)) (.val (.int (p.getD k 0 : Nat))) z0) := by
        rcases hx0 with rfl | ⟨_, rfl⟩ <;> rcases hy0 with rfl | ⟨_, rfl⟩ <;> rfl
      obtain ⟨z', hz', hin⟩ := innerF (l := L) (R := R) (t := k) (lo := k - 4) (n := k - (k - 4)) (z := z0) hp hkl (by omega) (by omega) hz0
      refine ⟨_, stF S R p (L ++ rowT S R p k) (.val (.int k)) (.val (.int (p.getD k 0 : Nat))) z', hset, ?_, ⟨.val (.int k), .val (.int (p.getD k 0 : Nat)), z', .inr ⟨_, rfl⟩, .inr ⟨_, rfl⟩, hz', ?_⟩⟩
      · rw [rowT_near hR]
        have hm : maxI 0 ((k : Int) - 4) = ((k - 4 : Nat) : Int) := by unfold maxI; split <;> omega
        have hr : rngK (maxI 0 ((k : Int) - 4)) (k : Int) (stF S R p L (.val (.int k)) (.val (.int (p.getD k 0 : Nat))) z0) = .ok ((List.range (k - (k - 4))).map fun j : Nat => .int (((k - 4 : Nat) : Int) + j)) (stF S R p L (.val (.int k)) (.val (.int (p.getD k 0 : Nat))) z0) := by
          rw [hm, rngK_ok (by omega) (by omega) (by omega) (by omega), rangeD_map]
          congr 3
          omega
        simp only [exs_cons, ex_for, evi_rng2, ev_blt, evs_cons, evs_one, ev_lit, ev_bin, ev_glob, ev_val (show (stF S R p L (.val (.int k)) (.val (.int (p.getD k 0 : Nat))) z0)[4]? = some (.val (.int k)) from rfl), bind_ok, stl_d, show d_MOST_GAP = PyData.int 4 from rfl, sub_i, max_k, rngW2_i, hr, sr_ok, hin, seqK_nx, exs_nil]
      · rw [range_snoc, hLL])
  rw [List.length_map, List.length_range, Nat.zero_add] at h4
  subst h4
  exact ⟨x, y, z, h5⟩
theorem c_demand_list {s q v : D} {r : Sl} (h1 : areSongs (songsD S) = true) (h2 : areRules q = true) (h3 : isList S.length v 300 = true) : callF f_demand_list [.d (songsD S), .d q, .d v] r = .ok (.d .none) r := by
  refine call_dat (v := .dat .none) (as' := [.val (songsD S), .val q, .val v]) (xs := [songsD S, q, v]) rfl rfl ?_
  rw [show f_demand_list.fn = runB 3 [f_demand_rules, f_is_list, f_demand] b_demand_list from rfl, runB_eq]
  simp [b_demand_list, ev_call, ev_val, c_demand_rules h1 h2, d_MOST_PLAYED, c_is_list, h3, endB, keepsL, proj]
theorem faults_fn (h1 : areSongs (songsD S) = true) (h2 : areRules (rowD R) = true) (hp : okP S p) (hR : okR R) (hl : p.length ≤ 300) : f_faults.fn [.val (songsD S), .val (rowD R), .val (plD p)] = .ok (.dat (.tuple (allT S R p))) [.val (songsD S), .val (rowD R), .val (plD p)] := by
  rw [show f_faults.fn = runB 8 fsF b_faults from rfl, runB_eq]
  obtain ⟨x, y, z, ho⟩ := outerF hp hR (by omega)
  have he : itmI (enumD 0) (stF S R p [] .no .no .no) (.d (plD p)) = .ok ((List.range p.length).map fun a : Nat => .tuple [.int (0 + a), .int (p.getD a 0 : Nat)]) (stF S R p [] .no .no .no) := by
    unfold plD
    rw [itmI_t, enumD_map (fun i : Nat => PyData.int (i : Int)) 0]
  have hs0 : setK 3 true (.f []) [.val (songsD S), .val (rowD R), .val (plD p), .no, .no, .no, .no, .no] = .nx (stF S R p [] .no .no .no) := setK_own rfl
  show endK _ (exSs fsF b_faults [.val (songsD S), .val (rowD R), .val (plD p), .no, .no, .no, .no, .no]) = _
  unfold b_faults
  have hd := c_demand_list (S := S) (s := .none) (q := rowD R) (v := plD p) (r := [.val (songsD S), .val (rowD R), .val (plD p), .no, .no, .no, .no, .no]) h1 h2 (isList_pl hp (by omega))
  rw [exs_cons, ex_expr, ev_call _ (show fsF[0]? = some f_demand_list from rfl)]
  simp only [evs_cons, evs_one, ev_val (show ([.val (songsD S), .val (rowD R), .val (plD p), .no, .no, .no, .no, .no] : Sl)[0]? = some (.val (songsD S)) from rfl), ev_val (show ([.val (songsD S), .val (rowD R), .val (plD p), .no, .no, .no, .no, .no] : Sl)[1]? = some (.val (rowD R)) from rfl), ev_val (show ([.val (songsD S), .val (rowD R), .val (plD p), .no, .no, .no, .no, .no] : Sl)[2]? = some (.val (plD p)) from rfl), bind_ok, stl_d, hd, sr_ok, seqK_nx]
  rw [exs_cons, ex_set, ev_lst, evs_nil, bind_ok, lst_nil, sr_ok, hs0, seqK_nx, exs_cons, ex_for, evi_enum, ev_val (show (stF S R p [] .no .no .no)[2]? = some (.val (plD p)) from rfl), bind_ok, he, sr_ok, ho, seqK_nx, exs_cons, ex_ret, ev_blt, evs_one, ev_own (show (stF S R p (allT S R p) x y z)[3]? = some (.own (allT S R p)) from rfl), bind_ok, bind_ok, tup_own rfl, sr_ok]
  rfl
theorem c_faults {r : Sl} (h1 : areSongs (songsD S) = true) (h2 : areRules (rowD R) = true) (hp : okP S p) (hR : okR R) (hl : p.length ≤ 300) : callF f_faults [.d (songsD S), .d (rowD R), .d (plD p)] r = .ok (.d (.tuple (allT S R p))) r :=
  call_dat (xs := [songsD S, rowD R, plD p]) rfl rfl (faults_fn h1 h2 hp hR hl)
end
end KL
namespace KL
open PySem SR
theorem rangeD_map0 (n : Nat) : rangeD 0 n = (List.range n).map fun k : Nat => .int (k : Int) := by
  rw [rangeD_map]
  refine List.map_congr_left fun k _ => ?_
  congr 1
  omega
section
variable {S : List Row} {R : Row} {p : List Nat} {r : Sl} {s q v : D}
@[simp] theorem endK_err (as : Sl) (c : Nat) (e : D) (r : Sl) : endK as (.err c e r) = if keepsL as r then .err c e (proj as r) else .bad := rfl
/-! ### what is refused -/
theorem e_demand_list1 (h1 : areSongs s = false) : callF f_demand_list [.d s, .d q, .d v] r = .err 0 (.str "songs") r := by
  refine call_datE (as' := [.val s, .val q, .val v]) (xs := [s, q, v]) rfl rfl ?_
  rw [show f_demand_list.fn = runB 3 [f_demand_rules, f_is_list, f_demand] b_demand_list from rfl, runB_eq]
  simp [b_demand_list, ev_call, ev_val, e_demand_rules1 h1, keepsL, proj]
theorem e_demand_list2 (h1 : areSongs s = true) (h2 : areRules q = false) : callF f_demand_list [.d s, .d q, .d v] r = .err 0 (.str "rules") r := by
  refine call_datE (as' := [.val s, .val q, .val v]) (xs := [s, q, v]) rfl rfl ?_
  rw [show f_demand_list.fn = runB 3 [f_demand_rules, f_is_list, f_demand] b_demand_list from rfl, runB_eq]
  simp [b_demand_list, ev_call, ev_val, e_demand_rules2 h1 h2, keepsL, proj]
theorem e_demand_list3 (h1 : areSongs (songsD S) = true) (h2 : areRules q = true) (h3 : isList S.length v 300 = false) : callF f_demand_list [.d (songsD S), .d q, .d v] r = .err 0 (.str "played") r := by
  refine call_datE (as' := [.val (songsD S), .val q, .val v]) (xs := [songsD S, q, v]) rfl rfl ?_
  rw [show f_demand_list.fn = runB 3 [f_demand_rules, f_is_list, f_demand] b_demand_list from rfl, runB_eq]
  simp [b_demand_list, ev_call, ev_val, c_demand_rules h1 h2, d_MOST_PLAYED, c_is_list, h3, keepsL, proj]
/-! ### is_good -/
theorem c_is_good (h1 : areSongs (songsD S) = true) (h2 : areRules (rowD R) = true) (hp : okP S p) (hl : p.length ≤ 300) : callF f_is_good [.d (songsD S), .d (rowD R), .d (plD p)] r = .ok (.d (.bool (goodB S R p))) r := by
  refine call_dat (v := .dat (.bool (goodB S R p))) (as' := [.val (songsD S), .val (rowD R), .val (plD p)]) (xs := [songsD S, rowD R, plD p]) rfl rfl ?_
  rw [show f_is_good.fn = runB 3 [f_demand_list, f_is_good_of] b_is_good from rfl, runB_eq]
  have hd := fun r => c_demand_list (r := r) (s := .none) h1 h2 (isList_pl hp (show (p.length : Int) ≤ 300 by omega))
  have hg := fun r => c_is_good_of (r := r) (R := R) hp (by omega)
  simp [b_is_good, ev_call, ev_val, hd, hg, endB, keepsL, proj]
theorem e_is_good {n : D} (h : ∀ r, callF f_demand_list [.d s, .d q, .d v] r = .err 0 n r) : callF f_is_good [.d s, .d q, .d v] r = .err 0 n r := by
  refine call_datE (as' := [.val s, .val q, .val v]) (xs := [s, q, v]) rfl rfl ?_
  rw [show f_is_good.fn = runB 3 [f_demand_list, f_is_good_of] b_is_good from rfl, runB_eq]
  simp [b_is_good, ev_call, ev_val, h, keepsL, proj]
theorem e_faults {n : D} (h : ∀ r, callF f_demand_list [.d s, .d q, .d v] r = .err 0 n r) : callF f_faults [.d s, .d q, .d v] r = .err 0 n r := by
  refine call_datE (as' := [.val s, .val q, .val v]) (xs := [s, q, v]) rfl rfl ?_
  rw [show f_faults.fn = runB 8 fsF b_faults from rfl, runB_eq]
  simp [b_faults, ev_call, ev_val, h, keepsL, proj]
/-! ### time_of -/
def timeB (S : List Row) (p : List Nat) : Int := (p.map fun i => (rw_ S i).2.2.2.2).sum
theorem c_time_of (h1 : areSongs (songsD S) = true) (hp : okP S p) (hl : p.length ≤ 300) : callF f_time_of [.d (songsD S), .d (plD p)] r = .ok (.d (.int (timeB S p))) r := by
  refine call_dat (v := .dat (.int (timeB S p))) (as' := [.val (songsD S), .val (plD p)]) (xs := [songsD S, plD p]) rfl rfl ?_
  rw [show f_time_of.fn = runB 3 [f_are_songs, f_demand, f_is_list] b_time_of from rfl, runB_eq]
  have hc : compK [f_are_songs, f_demand, f_is_list] [("song", 2)] (.nm 2) false (.lit .none) (.idx (.idx (.var 0) (.var 2)) (.lit (.int 4))) (p.map fun i : Nat => .int (i : Int)) [.val (songsD S), .val (plD p), .no] = .ok (.f (p.map fun i => .int (rw_ S i).2.2.2.2)) [.val (songsD S), .val (plD p), .no] := by
    rw [compK_all (fun x => match x with | .int i => .int (rw_ S i.toNat).2.2.2.2 | _ => .none) (by rw [List.length_map]; omega) rfl rfl fun x hx => ?_]
    · congr 2
      rw [List.map_map]
      exact List.map_congr_left fun i hi => by simp only [Function.comp, Int.toNat_natCast]
    · obtain ⟨i, hi, rfl⟩ := List.mem_map.mp hx
      refine ⟨[.val (songsD S), .val (plD p), .val (.int i)], rfl, ?_, rfl⟩
      have := fun r => idx_song (r := r) (rw_at (hp i hi))
      simp [ev_val, this]
  have hs := sum_k (r := [.val (songsD S), .val (plD p), .no]) (fun i => (rw_ S i).2.2.2.2) p
  have he : itmI (fun l => l) [.val (songsD S), .val (plD p), .no] (.d (plD p)) = .ok (p.map fun i : Nat => .int (i : Int)) [.val (songsD S), .val (plD p), .no] := rfl
  have hi := isList_pl hp (show (p.length : Int) ≤ 300 by omega)
  simp [b_time_of, ev_call, ev_val, h1, d_MOST_PLAYED, c_is_list, hi, he, hc, hs, endB, keepsL, proj, timeB]
theorem e_time_of1 (h1 : areSongs s = false) : callF f_time_of [.d s, .d v] r = .err 0 (.str "songs") r := by
  refine call_datE (as' := [.val s, .val v]) (xs := [s, v]) rfl rfl ?_
  rw [show f_time_of.fn = runB 3 [f_are_songs, f_demand, f_is_list] b_time_of from rfl, runB_eq]
  simp [b_time_of, ev_call, ev_val, h1, keepsL, proj]
theorem e_time_of2 (h1 : areSongs (songsD S) = true) (h3 : isList S.length v 300 = false) : callF f_time_of [.d (songsD S), .d v] r = .err 0 (.str "played") r := by
  refine call_datE (as' := [.val (songsD S), .val v]) (xs := [songsD S, v]) rfl rfl ?_
  rw [show f_time_of.fn = runB 3 [f_are_songs, f_demand, f_is_list] b_time_of from rfl, runB_eq]
  simp [b_time_of, ev_call, ev_val, h1, d_MOST_PLAYED, c_is_list, h3, keepsL, proj]
/-! ### can_follow -/
def folB (S : List Row) (R : Row) (p : List Nat) : List D := ((List.range S.length).filter (nextB S R p)).map fun i : Nat => .int (i : Int)
theorem folR {n : Nat} (hS : n ≤ 8) : rngW1 (.d (.int n)) r = .ok ((List.range n).map fun k : Nat => .int (k : Int)) r := by
  rw [rngW1_ok (by omega) (by omega), rangeD_map0, Int.toNat_natCast]
theorem folC {n : Nat} {nx : Nat → Bool} (hS : n ≤ 8) (hn : ∀ k, k < n → ∀ r, callF f_is_next [.d s, .d q, .d v, .d (.int (k : Int))] r = .ok (.d (.bool (nx k))) r) :
    compK [f_is_next] [("song", 3)] (.nm 3) true (.call 0 (.cons (.var 0) (.cons (.var 1) (.cons (.var 2) (.cons (.var 3) .nil))))) (.var 3) ((List.range n).map fun k : Nat => .int (k : Int)) [.val s, .val q, .val v, .no] = .ok (.f (((List.range n).filter nx).map fun i : Nat => .int (i : Int))) [.val s, .val q, .val v, .no] := by
  rw [compK_if (fun x => match x with | .int i => nx i.toNat | _ => false) (fun x => x) (by rw [List.length_map, List.length_range]; omega) rfl rfl fun x hx => ?_]
  · congr 2
    rw [List.filter_map, List.map_map]
    rfl
  · obtain ⟨k, hk, rfl⟩ := List.mem_map.mp hx
    have hk := List.mem_range.mp hk
    have hn := hn k hk
    refine ⟨[.val s, .val q, .val v, .val (.int k)], rfl, ?_, fun _ => by simp [ev_val], rfl⟩
    simp only [Int.toNat_natCast]
    simp [ev_call, ev_val, hn]
theorem folE {n : Int} {xs ys : List D} (hlen : ∀ r, bltK .len [.d s] r = .ok (.d (.int n)) r) (hr : rngW1 (.d (.int n)) [.val s, .val q, .val v, .no] = .ok xs [.val s, .val q, .val v, .no])
    (hc : compK [f_is_next] [("song", 3)] (.nm 3) true (.call 0 (.cons (.var 0) (.cons (.var 1) (.cons (.var 2) (.cons (.var 3) .nil))))) (.var 3) xs [.val s, .val q, .val v, .no] = .ok (.f ys) [.val s, .val q, .val v, .no]) :
    endK [.val s, .val q, .val v] (exSs [f_is_next] b_followers [.val s, .val q, .val v, .no]) = .ok (.frs ys) [.val s, .val q, .val v] := by
  simp [b_followers, ev_val, hlen, hr, hc, endB, keepsL, proj]
theorem folF {ys : List D} (h : f_followers.fn [.val s, .val q, .val v] = .ok (.frs ys) [.val s, .val q, .val v]) : callF f_followers [.d s, .d q, .d v] r = .ok (.f ys) r :=
  call_dat (v := .frs ys) (as' := [.val s, .val q, .val v]) (xs := [s, q, v]) rfl rfl h
theorem folG {ys : List D} (h : endK [.val s, .val q, .val v] (exSs [f_is_next] b_followers [.val s, .val q, .val v, .no]) = .ok (.frs ys) [.val s, .val q, .val v]) : callF f_followers [.d s, .d q, .d v] r = .ok (.f ys) r := by
  refine folF ?_
  rw [show f_followers.fn = runB 4 [f_is_next] b_followers from rfl, runB_eq]
  exact h
theorem folX {n : Nat} {nx : Nat → Bool} (hS : n ≤ 8) (hlen : ∀ r, bltK .len [.d s] r = .ok (.d (.int n)) r) (hn : ∀ k, k < n → ∀ r, callF f_is_next [.d s, .d q, .d v, .d (.int (k : Int))] r = .ok (.d (.bool (nx k))) r) :
    callF f_followers [.d s, .d q, .d v] r = .ok (.f (((List.range n).filter nx).map fun i : Nat => .int (i : Int))) r :=
  folG (folE hlen (folR hS) (folC hS hn))
theorem c_followers (hp : okP S p) (hl : p.length ≤ 300) (hS : S.length ≤ 8) : callF f_followers [.d (songsD S), .d (rowD R), .d (plD p)] r = .ok (.f (folB S R p)) r :=
  folX hS (fun r => songs_len S (r := r)) (fun k hk r => c_is_next (r := r) (R := R) hp hk (by omega))
theorem c_demand_good {m : Int} (h1 : areSongs (songsD S) = true) (h2 : areRules (rowD R) = true) (hp : okP S p) (hl : p.length ≤ 300) (hg : goodB S R p = true) : callF f_demand_good [.d (songsD S), .d (rowD R), .d (plD p), .d (.int 300)] r = .ok (.d .none) r := by
  refine call_dat (v := .dat .none) (as' := [.val (songsD S), .val (rowD R), .val (plD p), .val (.int 300)]) (xs := [songsD S, rowD R, plD p, .int 300]) rfl rfl ?_
  rw [show f_demand_good.fn = runB 4 [f_demand_rules, f_is_list, f_is_good_of, f_demand] b_demand_good from rfl, runB_eq]
  have hi := isList_pl hp (show (p.length : Int) ≤ 300 by omega)
  have hq := fun r => c_is_good_of (r := r) (R := R) hp (by omega)
  simp [b_demand_good, ev_call, ev_val, c_demand_rules h1 h2, c_is_list, hi, hq, hg, endB, keepsL, proj]
theorem e_demand_good {m : Int} (h1 : areSongs (songsD S) = true) (h2 : areRules (rowD R) = true) (hp : okP S p) (hl : p.length ≤ 300) (hg : goodB S R p = false) : callF f_demand_good [.d (songsD S), .d (rowD R), .d (plD p), .d (.int 300)] r = .err 0 (.str "played") r := by
  refine call_datE (as' := [.val (songsD S), .val (rowD R), .val (plD p), .val (.int 300)]) (xs := [songsD S, rowD R, plD p, .int 300]) rfl rfl ?_
  rw [show f_demand_good.fn = runB 4 [f_demand_rules, f_is_list, f_is_good_of, f_demand] b_demand_good from rfl, runB_eq]
  have hi := isList_pl hp (show (p.length : Int) ≤ 300 by omega)
  have hq := fun r => c_is_good_of (r := r) (R := R) hp (by omega)
  simp [b_demand_good, ev_call, ev_val, c_demand_rules h1 h2, c_is_list, hi, hq, hg, keepsL, proj]
theorem e_demand_good2 (h1 : areSongs (songsD S) = true) (h2 : areRules q = false) : callF f_demand_good [.d (songsD S), .d q, .d v, .d (.int 300)] r = .err 0 (.str "rules") r := by
  refine call_datE (as' := [.val (songsD S), .val q, .val v, .val (.int 300)]) (xs := [songsD S, q, v, .int 300]) rfl rfl ?_
  rw [show f_demand_good.fn = runB 4 [f_demand_rules, f_is_list, f_is_good_of, f_demand] b_demand_good from rfl, runB_eq]
  simp [b_demand_good, ev_call, ev_val, e_demand_rules2 h1 h2, keepsL, proj]
theorem e_demand_good3 (h1 : areSongs (songsD S) = true) (h2 : areRules q = true) (h3 : isList S.length v 300 = false) : callF f_demand_good [.d (songsD S), .d q, .d v, .d (.int 300)] r = .err 0 (.str "played") r := by
  refine call_datE (as' := [.val (songsD S), .val q, .val v, .val (.int 300)]) (xs := [songsD S, q, v, .int 300]) rfl rfl ?_
  rw [show f_demand_good.fn = runB 4 [f_demand_rules, f_is_list, f_is_good_of, f_demand] b_demand_good from rfl, runB_eq]
  simp [b_demand_good, ev_call, ev_val, c_demand_rules h1 h2, c_is_list, h3, keepsL, proj]
theorem canE {xs : List D} (hd : ∀ r, callF f_demand_good [.d s, .d q, .d v, .d (.int 300)] r = .ok (.d .none) r) (hf : ∀ r, callF f_followers [.d s, .d q, .d v] r = .ok (.f xs) r) : endK [.val s, .val q, .val v] (exSs [f_demand_good, f_followers] b_can_follow [.val s, .val q, .val v]) = .ok (.dat (.tuple xs)) [.val s, .val q, .val v] := by
  simp [b_can_follow, ev_call, ev_val, d_MOST_PLAYED, hd, hf, endB, keepsL, proj]
theorem canF {xs : List D} (h : f_can_follow.fn [.val s, .val q, .val v] = .ok (.dat (.tuple xs)) [.val s, .val q, .val v]) : callF f_can_follow [.d s, .d q, .d v] r = .ok (.d (.tuple xs)) r :=
  call_dat (v := .dat (.tuple xs)) (as' := [.val s, .val q, .val v]) (xs := [s, q, v]) rfl rfl h
theorem canG {xs : List D} (h : endK [.val s, .val q, .val v] (exSs [f_demand_good, f_followers] b_can_follow [.val s, .val q, .val v]) = .ok (.dat (.tuple xs)) [.val s, .val q, .val v]) : callF f_can_follow [.d s, .d q, .d v] r = .ok (.d (.tuple xs)) r := by
  refine canF ?_
  rw [show f_can_follow.fn = runB 3 [f_demand_good, f_followers] b_can_follow from rfl, runB_eq]
  exact h
theorem c_can_follow (h1 : areSongs (songsD S) = true) (h2 : areRules (rowD R) = true) (hp : okP S p) (hl : p.length ≤ 300) (hS : S.length ≤ 8) (hg : goodB S R p = true) : callF f_can_follow [.d (songsD S), .d (rowD R), .d (plD p)] r = .ok (.d (.tuple (folB S R p))) r :=
  canG (canE (fun r => c_demand_good (r := r) (m := 0) h1 h2 hp hl hg) (fun r => c_followers (r := r) (R := R) hp hl hS))
theorem e_can_follow {n : D} (h : ∀ r, callF f_demand_good [.d s, .d q, .d v, .d (.int 300)] r = .err 0 n r) : callF f_can_follow [.d s, .d q, .d v] r = .err 0 n r := by
  refine call_datE (as' := [.val s, .val q, .val v]) (xs := [s, q, v]) rfl rfl ?_
  rw [show f_can_follow.fn = runB 3 [f_demand_good, f_followers] b_can_follow from rfl, runB_eq]
  simp [b_can_follow, ev_call, ev_val, d_MOST_PLAYED, h, keepsL, proj]
/-! ### key_steps -/
theorem c_key_steps {i j : Int} (h1 : isIn (.int i) 0 11 = true) (h2 : isIn (.int j) 0 11 = true) : callF f_key_steps [.d (.int i), .d (.int j)] r = .ok (.d (.int (steps i j))) r := by
  refine call_dat (v := .dat (.int (steps i j))) (as' := [.val (.int i), .val (.int j)]) (xs := [.int i, .int j]) rfl rfl ?_
  rw [show f_key_steps.fn = runB 2 [f_is_in, f_demand, f_steps_of] b_key_steps from rfl, runB_eq]
  simp [b_key_steps, ev_call, ev_val, d_KEYS, h1, h2, endB, keepsL, proj]
theorem e_key_steps1 (h1 : isIn s 0 11 = false) : callF f_key_steps [.d s, .d q] r = .err 0 (.str "one") r := by
  refine call_datE (as' := [.val s, .val q]) (xs := [s, q]) rfl rfl ?_
  rw [show f_key_steps.fn = runB 2 [f_is_in, f_demand, f_steps_of] b_key_steps from rfl, runB_eq]
  simp [b_key_steps, ev_call, ev_val, d_KEYS, h1, keepsL, proj]
theorem e_key_steps2 (h1 : isIn s 0 11 = true) (h2 : isIn q 0 11 = false) : callF f_key_steps [.d s, .d q] r = .err 0 (.str "two") r := by
  refine call_datE (as' := [.val s, .val q]) (xs := [s, q]) rfl rfl ?_
  rw [show f_key_steps.fn = runB 2 [f_is_in, f_demand, f_steps_of] b_key_steps from rfl, runB_eq]
  simp [b_key_steps, ev_call, ev_val, d_KEYS, h1, h2, keepsL, proj]
end
end KL
namespace KL
open PySem SR
/-! ### good lists: the plain law -/
section
variable {S : List Row} {R : Row} {p : List Nat}
theorem pairT_nil {o t : Nat} : pairT S R p o t = [] ↔ brkS S R (p.getD o 0) (p.getD t 0) ((t : Int) - o) = [] := by
  simp [pairT, tell]
theorem rowT_nil {t : Nat} : rowT S R p t = [] ↔ ∀ o < t, brkS S R (p.getD o 0) (p.getD t 0) ((t : Int) - o) = [] := by
  simp only [rowT, List.flatMap_eq_nil_iff, List.mem_range, pairT_nil]
theorem allT_nil : allT S R p = [] ↔ ∀ t < p.length, ∀ o < t, brkS S R (p.getD o 0) (p.getD t 0) ((t : Int) - o) = [] := by
  simp only [allT, List.flatMap_eq_nil_iff, List.mem_range, rowT_nil]
theorem nextB_iff {j : Nat} (m : Nat) (hm : m = 3 ∨ m = 4) (h : okR R) : nextB S R p j = true ↔ ∀ o < p.length, p.length ≤ o + m → brkS S R (p.getD o 0) j ((p.length : Int) - o) = [] := by
  simp only [nextB, List.all_eq_true, List.mem_range, List.isEmpty_iff]
  constructor
  · intro hh o ho ho2
    have := hh (p.length - (o + 1)) (by omega)
    rw [show p.length - (p.length - (o + 1) + 1) = o by omega, show ((p.length - (o + 1) : Nat) : Int) + 1 = (p.length : Int) - o by omega] at this
    exact this
  · intro hh k hk
    by_cases hk3 : k + 1 ≤ m
    · have := hh (p.length - (k + 1)) (by omega) (by omega)
      rw [show (p.length : Int) - ((p.length - (k + 1) : Nat) : Int) = (k : Int) + 1 by omega] at this
      exact this
    · exact brk_far h (by omega)
theorem nextB_all {j : Nat} (h : okR R) : nextB S R p j = true ↔ ∀ o < p.length, brkS S R (p.getD o 0) j ((p.length : Int) - o) = [] := by
  rw [nextB_iff 4 (Or.inr rfl) h]
  constructor
  · intro hh o ho
    by_cases h4 : p.length ≤ o + 4
    · exact hh o ho h4
    · exact brk_far h (by omega)
  · intro hh o ho _
    exact hh o ho
theorem getD_take {a o : Nat} (h : o < a) : (p.take a).getD o 0 = p.getD o 0 := by
  simp [List.getD_eq_getElem?_getD, List.getElem?_take, h]
theorem good_iff (h : okR R) : goodB S R p = true ↔ allT S R p = [] := by
  simp only [goodB, List.all_eq_true, List.mem_range, nextB_all h, allT_nil]
  constructor
  · intro hh t ht o ho
    have := hh t ht o (by rw [List.length_take]; omega)
    rwa [getD_take ho, List.length_take, Nat.min_eq_left (Nat.le_of_lt ht)] at this
  · intro hh t ht o ho
    rw [List.length_take] at ho
    have := hh t ht o (by omega)
    rwa [getD_take (by omega), List.length_take, Nat.min_eq_left (Nat.le_of_lt ht)]
theorem getD_app {j o : Nat} (h : o < p.length) : (p ++ [j]).getD o 0 = p.getD o 0 := by
  simp [List.getD_eq_getElem?_getD, List.getElem?_append_left h]
theorem getD_last {j : Nat} : (p ++ [j]).getD p.length 0 = j := by
  simp [List.getD_eq_getElem?_getD]
theorem allT_snoc {j : Nat} (h : okR R) : allT S R (p ++ [j]) = [] ↔ allT S R p = [] ∧ nextB S R p j = true := by
  rw [allT_nil, allT_nil, nextB_all h]
  simp only [List.length_append, List.length_singleton]
  constructor
  · intro hh
    constructor
    · intro t ht o ho
      have := hh t (by omega) o ho
      rwa [getD_app ht, getD_app (by omega)] at this
    · intro o ho
      have := hh p.length (by omega) o ho
      rwa [getD_last, getD_app ho] at this
  · intro ⟨h1, h2⟩ t ht o ho
    by_cases e : t = p.length
    · subst e
      rw [getD_last, getD_app ho]
      exact h2 o ho
    · rw [getD_app (by omega), getD_app (by omega)]
      exact h1 t (by omega) o ho
/-- the last three -/
def near (p : List Nat) : List Nat := p.drop (p.length - 3)
theorem getD_drop {a o : Nat} : (p.drop a).getD o 0 = p.getD (a + o) 0 := by
  simp [List.getD_eq_getElem?_getD, List.getElem?_drop]
theorem near_good (hp : allT S R p = []) : allT S R (near p) = [] := by
  rw [allT_nil] at hp ⊢
  intro t ht o ho
  unfold near at ht ⊢
  rw [List.length_drop] at ht
  have := hp (p.length - 3 + t) (by omega) (p.length - 3 + o) (by omega)
  rw [getD_drop, getD_drop]
  rwa [show ((p.length - 3 + t : Nat) : Int) - ((p.length - 3 + o : Nat) : Int) = (t : Int) - o by omega] at this
theorem near_next {j : Nat} (h : okR R) : nextB S R (near p) j = nextB S R p j := by
  rw [Bool.eq_iff_iff, nextB_all h, nextB_iff 3 (Or.inl rfl) h]
  unfold near
  rw [List.length_drop]
  constructor
  · intro hh o ho h3
    have := hh (o - (p.length - 3)) (by omega)
    rw [getD_drop, show p.length - 3 + (o - (p.length - 3)) = o by omega] at this
    rwa [show ((p.length - (p.length - 3) : Nat) : Int) - ((o - (p.length - 3) : Nat) : Int) = (p.length : Int) - o by omega] at this
  · intro hh o ho
    have := hh (p.length - 3 + o) (by omega) (by omega)
    rw [getD_drop]
    rwa [show (p.length : Int) - ((p.length - 3 + o : Nat) : Int) = ((p.length - (p.length - 3) : Nat) : Int) - o by omega] at this
theorem snoc_good {j : Nat} (h : okR R) (hp : allT S R p = []) : (allT S R (p ++ [j])).isEmpty = nextB S R p j := by
  rw [Bool.eq_iff_iff, List.isEmpty_iff, allT_snoc h]
  simp [hp]
theorem near_snoc {j : Nat} (h : okR R) (hp : allT S R p = []) : (allT S R (near p ++ [j])).isEmpty = nextB S R p j := by
  rw [snoc_good h (near_good hp), near_next h]
theorem okP_near (h : okP S p) : okP S (near p) := fun i hi => h i (List.mem_of_mem_drop hi)
theorem okP_snoc {j : Nat} (h : okP S p) (hj : j < S.length) : okP S (p ++ [j]) := fun i hi => by
  rcases List.mem_append.mp hi with h1 | h1
  · exact h i h1
  · rw [List.mem_singleton.mp h1]; exact hj
/-! ### steps between keys -/
theorem steps_le {i j : Int} : steps i j = minI (minI (absI (i - j + -12)) (absI (i - j + 0))) (absI (i - j + 12)) ∨ ¬ (0 ≤ i ∧ i < 12 ∧ 0 ≤ j ∧ j < 12) := by
  unfold steps minI absI
  repeat' split
  all_goals omega
end
end KL
namespace KL
open PySem SR
/-! ### the law's own faults -/
def par3K (i j k : Nat) (ws : List W) (r1 : Sl) : SR := match ws with
    | [.d x, .d y, .d z] => (match SR.setW r1 i false (.d x) with
      | some r2 => (match SR.setW r2 j false (.d y) with
        | some r3 => okS (SR.setW r3 k false (.d z))
        | none => .bad)
      | none => .bad)
    | _ => .bad
theorem ex_par3 {fs : List FI} {r : Sl} (i j k : Nat) (a b c : CE) : exS fs (.par3 i j k a b c) r = (evEs fs (.cons a (.cons b (.cons c .nil))) r).sr fun ws r1 => par3K i j k ws r1 := by simp only [exS]; rfl
theorem app_ifT {fs : List FI} {r : Sl} {i : Nat} {l : List D} {b : Bool} {w : Str} {o t : Nat} {e : CE} {f : Sl → SR.SR} (h : r[i]? = some (.own l)) (hz : l.length < 16777216) (he : evE fs e r = .ok (.d (.tuple [.str w, .int (o : Nat), .int (t : Nat)])) r) :
    seqK (if b then seqK (exS fs (.app i e) r) (fun r1 => .nx r1) else .nx r) f = f (r.set i (.own (l ++ tell (one b w) o t))) := by
  have hi : i < r.length := (List.getElem?_eq_some_iff.mp h).1
  cases b with
  | true => simp [ex_app e h, he, appK_own h hz, one, tell]
  | false =>
    have e : r.set i (.own (l ++ tell (one false w) o t)) = r := by
      simp only [one, tell, Bool.false_eq_true, if_false, List.map_nil, List.append_nil]
      apply List.ext_getElem?
      intro k
      by_cases hk : k = i
      · subst hk
        rw [List.getElem?_set_self hi, h]
      · rw [List.getElem?_set_ne (Ne.symm hk)]
    rw [e]
    rfl
abbrev stL (S : List Row) (R : Row) (p : List Nat) (l : List D) (x4 x5 x6 x7 x8 : SV) : Sl := [.val (songsD S), .val (rowD R), .val (plD p), .own l, x4, x5, x6, x7, x8]
abbrev stM (S : List Row) (R : Row) (p : List Nat) (l : List D) (t o : Nat) (s u : Row) (ap : Int) : Sl := stL S R p l (.val (.int t)) (.val (.int o)) (.val (rowD s)) (.val (rowD u)) (.val (.int ap))
section
variable {S : List Row} {R s u : Row} {p : List Nat} {o t a b : Nat} {ap : Int}
theorem tell_tup {w : Str} {l : List D} : evE [] (.tup (.cons (.lit (.str w)) (.cons (.var 5) (.cons (.var 4) .nil)))) (stM S R p l t o s u ap) = .ok (.d (.tuple [.str w, .int (o : Nat), .int (t : Nat)])) (stM S R p l t o s u ap) := by
  have ht : tupK [.d (.str w), .d (.int o), .d (.int t)] (stM S R p l t o s u ap) = .ok (.d (.tuple [.str w, .int (o : Nat), .int (t : Nat)])) (stM S R p l t o s u ap) := tupK_ok (xs := [.str w, .int o, .int t]) rfl (by simp)
  simp [ev_val, ht]
abbrev iL0 : CS := (.ife (.andE (.cmp .Lt (.var 8) (.idx (.var 1) (.lit (.int 0)))) (.cmp .Eq (.idx (.var 2) (.var 5)) (.idx (.var 2) (.var 4)))) (.cons (.app 3 (.tup (.cons (.lit (.str "song")) (.cons (.var 5) (.cons (.var 4) .nil))))) .nil) (.nil))
theorem sL0 {f : Sl → SR.SR} (l : List D) (hs : p.getD o 0 = a) (hu : p.getD t 0 = b) (ho : o < p.length) (ht : t < p.length) (hl : l.length < 16777216) : seqK (exS [] iL0 (stM S R p l t o s u ap)) f = f (stM S R p (l ++ tell (one (decide (ap < R.1) && decide ((a : Int) = b)) "song") o t) t o s u ap) := by
  have h5 := idx_pl (r := stM S R p l t o s u ap) ho
  have h4 := idx_pl (r := stM S R p l t o s u ap) ht
  rw [hs] at h5
  rw [hu] at h4
  simp only [iL0, exs_cons, ex_if, ev_and, ev_cmp, ev_idx, ev_blt, ev_bin, ev_lit, evs_cons, evs_one, ev_val (show (stM S R p l t o s u ap)[1]? = some (.val (rowD R)) from rfl), ev_val (show (stM S R p l t o s u ap)[2]? = some (.val (plD p)) from rfl), ev_val (show (stM S R p l t o s u ap)[4]? = some (.val (.int t)) from rfl), ev_val (show (stM S R p l t o s u ap)[5]? = some (.val (.int o)) from rfl), ev_val (show (stM S R p l t o s u ap)[6]? = some (.val (rowD s)) from rfl), ev_val (show (stM S R p l t o s u ap)[7]? = some (.val (rowD u)) from rfl), ev_val (show (stM S R p l t o s u ap)[8]? = some (.val (.int ap)) from rfl), bind_ok, sr_ok, stl_d, row0, row1, row2, row3, row4, h4, h5, sub_i, abs_k, min_k, lt_i, gt_i, eq_i, tstK_and, ifK_b, exs_nil]
  exact app_ifT rfl hl tell_tup
abbrev iL1 : CS := (.ife (.andE (.cmp .Lt (.var 8) (.idx (.var 1) (.lit (.int 1)))) (.cmp .Eq (.idx (.var 6) (.lit (.int 0))) (.idx (.var 7) (.lit (.int 0))))) (.cons (.app 3 (.tup (.cons (.lit (.str "maker")) (.cons (.var 5) (.cons (.var 4) .nil))))) .nil) (.nil))
theorem sL1 {f : Sl → SR.SR} (l : List D) (hl : l.length < 16777216) : seqK (exS [] iL1 (stM S R p l t o s u ap)) f = f (stM S R p (l ++ tell (one (decide (ap < R.2.1) && decide (s.1 = u.1)) "maker") o t) t o s u ap) := by
  simp only [iL1, exs_cons, ex_if, ev_and, ev_cmp, ev_idx, ev_blt, ev_bin, ev_lit, evs_cons, evs_one, ev_val (show (stM S R p l t o s u ap)[1]? = some (.val (rowD R)) from rfl), ev_val (show (stM S R p l t o s u ap)[2]? = some (.val (plD p)) from rfl), ev_val (show (stM S R p l t o s u ap)[4]? = some (.val (.int t)) from rfl), ev_val (show (stM S R p l t o s u ap)[5]? = some (.val (.int o)) from rfl), ev_val (show (stM S R p l t o s u ap)[6]? = some (.val (rowD s)) from rfl), ev_val (show (stM S R p l t o s u ap)[7]? = some (.val (rowD u)) from rfl), ev_val (show (stM S R p l t o s u ap)[8]? = some (.val (.int ap)) from rfl), bind_ok, sr_ok, stl_d, row0, row1, row2, row3, row4, sub_i, abs_k, min_k, lt_i, gt_i, eq_i, tstK_and, ifK_b, exs_nil]
  exact app_ifT rfl hl tell_tup
abbrev iL2 : CS := (.ife (.andE (.cmp .Lt (.var 8) (.idx (.var 1) (.lit (.int 2)))) (.cmp .Eq (.idx (.var 6) (.lit (.int 1))) (.idx (.var 7) (.lit (.int 1))))) (.cons (.app 3 (.tup (.cons (.lit (.str "mood")) (.cons (.var 5) (.cons (.var 4) .nil))))) .nil) (.nil))
theorem sL2 {f : Sl → SR.SR} (l : List D) (hl : l.length < 16777216) : seqK (exS [] iL2 (stM S R p l t o s u ap)) f = f (stM S R p (l ++ tell (one (decide (ap < R.2.2.1) && decide (s.2.1 = u.2.1)) "mood") o t) t o s u ap) := by
  simp only [iL2, exs_cons, ex_if, ev_and, ev_cmp, ev_idx, ev_blt, ev_bin, ev_lit, evs_cons, evs_one, ev_val (show (stM S R p l t o s u ap)[1]? = some (.val (rowD R)) from rfl), ev_val (show (stM S R p l t o s u ap)[2]? = some (.val (plD p)) from rfl), ev_val (show (stM S R p l t o s u ap)[4]? = some (.val (.int t)) from rfl), ev_val (show (stM S R p l t o s u ap)[5]? = some (.val (.int o)) from rfl), ev_val (show (stM S R p l t o s u ap)[6]? = some (.val (rowD s)) from rfl), ev_val (show (stM S R p l t o s u ap)[7]? = some (.val (rowD u)) from rfl), ev_val (show (stM S R p l t o s u ap)[8]? = some (.val (.int ap)) from rfl), bind_ok, sr_ok, stl_d, row0, row1, row2, row3, row4, sub_i, abs_k, min_k, lt_i, gt_i, eq_i, tstK_and, ifK_b, exs_nil]
  exact app_ifT rfl hl tell_tup
abbrev iL3 : CS := (.ife (.andE (.cmp .Eq (.var 8) (.lit (.int 1))) (.cmp .Gt (.blt .abs (.cons (.bin .Sub (.idx (.var 6) (.lit (.int 2))) (.idx (.var 7) (.lit (.int 2)))) .nil)) (.idx (.var 1) (.lit (.int 3))))) (.cons (.app 3 (.tup (.cons (.lit (.str "jump")) (.cons (.var 5) (.cons (.var 4) .nil))))) .nil) (.nil))
theorem sL3 {f : Sl → SR.SR} (l : List D) (hl : l.length < 16777216) : seqK (exS [] iL3 (stM S R p l t o s u ap)) f = f (stM S R p (l ++ tell (one (decide (ap = 1) && decide (R.2.2.2.1 < absI (s.2.2.1 - u.2.2.1))) "jump") o t) t o s u ap) := by
  simp only [iL3, exs_cons, ex_if, ev_and, ev_cmp, ev_idx, ev_blt, ev_bin, ev_lit, evs_cons, evs_one, ev_val (show (stM S R p l t o s u ap)[1]? = some (.val (rowD R)) from rfl), ev_val (show (stM S R p l t o s u ap)[2]? = some (.val (plD p)) from rfl), ev_val (show (stM S R p l t o s u ap)[4]? = some (.val (.int t)) from rfl), ev_val (show (stM S R p l t o s u ap)[5]? = some (.val (.int o)) from rfl), ev_val (show (stM S R p l t o s u ap)[6]? = some (.val (rowD s)) from rfl), ev_val (show (stM S R p l t o s u ap)[7]? = some (.val (rowD u)) from rfl), ev_val (show (stM S R p l t o s u ap)[8]? = some (.val (.int ap)) from rfl), bind_ok, sr_ok, stl_d, row0, row1, row2, row3, row4, sub_i, abs_k, min_k, lt_i, gt_i, eq_i, tstK_and, ifK_b, exs_nil]
  exact app_ifT rfl hl tell_tup
abbrev iL4 : CS := (.ife (.andE (.cmp .Eq (.var 8) (.lit (.int 1))) (.cmp .Gt (.blt .min2 (.cons (.blt .abs (.cons (.bin .Sub (.idx (.var 6) (.lit (.int 3))) (.idx (.var 7) (.lit (.int 3)))) .nil)) (.cons (.bin .Sub (.lit (.int 12)) (.blt .abs (.cons (.bin .Sub (.idx (.var 6) (.lit (.int 3))) (.idx (.var 7) (.lit (.int 3)))) .nil))) .nil))) (.idx (.var 1) (.lit (.int 4))))) (.cons (.app 3 (.tup (.cons (.lit (.str "turn")) (.cons (.var 5) (.cons (.var 4) .nil))))) .nil) (.nil))
theorem sL4 {f : Sl → SR.SR} (l : List D) (hl : l.length < 16777216) : seqK (exS [] iL4 (stM S R p l t o s u ap)) f = f (stM S R p (l ++ tell (one (decide (ap = 1) && decide (R.2.2.2.2 < steps s.2.2.2.1 u.2.2.2.1)) "turn") o t) t o s u ap) := by
  simp only [iL4, exs_cons, ex_if, ev_and, ev_cmp, ev_idx, ev_blt, ev_bin, ev_lit, evs_cons, evs_one, ev_val (show (stM S R p l t o s u ap)[1]? = some (.val (rowD R)) from rfl), ev_val (show (stM S R p l t o s u ap)[2]? = some (.val (plD p)) from rfl), ev_val (show (stM S R p l t o s u ap)[4]? = some (.val (.int t)) from rfl), ev_val (show (stM S R p l t o s u ap)[5]? = some (.val (.int o)) from rfl), ev_val (show (stM S R p l t o s u ap)[6]? = some (.val (rowD s)) from rfl), ev_val (show (stM S R p l t o s u ap)[7]? = some (.val (rowD u)) from rfl), ev_val (show (stM S R p l t o s u ap)[8]? = some (.val (.int ap)) from rfl), bind_ok, sr_ok, stl_d, row0, row1, row2, row3, row4, sub_i, abs_k, min_k, lt_i, gt_i, eq_i, tstK_and, ifK_b, exs_nil]
  exact app_ifT rfl hl tell_tup
abbrev iLp : CS := (.par3 6 7 8 (.idx (.var 0) (.idx (.var 2) (.var 5))) (.idx (.var 0) (.idx (.var 2) (.var 4))) (.bin .Sub (.var 4) (.var 5)))
abbrev bodyL : CSs := .cons iLp (.cons iL0 (.cons iL1 (.cons iL2 (.cons iL3 (.cons iL4 .nil)))))
theorem tell_app (x y : List D) : tell (x ++ y) o t = tell x o t ++ tell y o t := List.map_append
theorem tell_len (x : List D) : (tell x o t).length = x.length := List.length_map _
theorem stepL {l : List D} {x6 x7 x8 : SV} (h6 : okX x6) (h7 : okX x7) (h8 : okX x8) (hp : okP S p) (ho : o < p.length) (ht : t < p.length) (hl : l.length + 5 ≤ 16777216) :
    exSs [] bodyL (stL S R p l (.val (.int t)) (.val (.int o)) x6 x7 x8) = .nx (stM S R p (l ++ pairT S R p o t) t o (rw_ S (p.getD o 0)) (rw_ S (p.getD t 0)) ((t : Int) - o)) := by
  have h1 := okP_getD hp ho
  have h2 := okP_getD hp ht
  have hio := idx_pl (r := stL S R p l (.val (.int t)) (.val (.int o)) x6 x7 x8) ho
  have hit := idx_pl (r := stL S R p l (.val (.int t)) (.val (.int o)) x6 x7 x8) ht
  have hP : pairT S R p o t = tell (brkS S R (p.getD o 0) (p.getD t 0) ((t : Int) - o)) o t := rfl
  rw [hP]
  generalize ha : p.getD o 0 = a at h1 hio ⊢
  generalize hb : p.getD t 0 = b at h2 hit ⊢
  have hsa := idx_song (r := stL S R p l (.val (.int t)) (.val (.int o)) x6 x7 x8) (rw_at h1)
  have hsb := idx_song (r := stL S R p l (.val (.int t)) (.val (.int o)) x6 x7 x8) (rw_at h2)
  have hpar : par3K 6 7 8 [.d (rowD (rw_ S a)), .d (rowD (rw_ S b)), .d (.int ((t : Int) - o))] (stL S R p l (.val (.int t)) (.val (.int o)) x6 x7 x8) = .nx (stM S R p l t o (rw_ S a) (rw_ S b) ((t : Int) - o)) := by
    rcases h6 with rfl | ⟨_, rfl⟩ <;> rcases h7 with rfl | ⟨_, rfl⟩ <;> rcases h8 with rfl | ⟨_, rfl⟩ <;> rfl
  have hev : evEs [] (.cons (.idx (.var 0) (.idx (.var 2) (.var 5))) (.cons (.idx (.var 0) (.idx (.var 2) (.var 4))) (.cons (.bin .Sub (.var 4) (.var 5)) .nil))) (stL S R p l (.val (.int t)) (.val (.int o)) x6 x7 x8) = .ok [.d (rowD (rw_ S a)), .d (rowD (rw_ S b)), .d (.int ((t : Int) - o))] (stL S R p l (.val (.int t)) (.val (.int o)) x6 x7 x8) := by
    simp only [evs_cons, evs_one, ev_idx, ev_bin, ev_val (show (stL S R p l (.val (.int t)) (.val (.int o)) x6 x7 x8)[0]? = some (.val (songsD S)) from rfl), ev_val (show (stL S R p l (.val (.int t)) (.val (.int o)) x6 x7 x8)[2]? = some (.val (plD p)) from rfl), ev_val (show (stL S R p l (.val (.int t)) (.val (.int o)) x6 x7 x8)[4]? = some (.val (.int t)) from rfl), ev_val (show (stL S R p l (.val (.int t)) (.val (.int o)) x6 x7 x8)[5]? = some (.val (.int o)) from rfl), bind_ok, stl_d, hio, hit, hsa, hsb, sub_i]
  rw [exs_cons, ex_par3, hev, sr_ok, hpar, seqK_nx]
  unfold brkS brk
  generalize rw_ S a = s
  generalize rw_ S b = u
  generalize (t : Int) - o = ap
  have q0 := one_len (decide (ap < R.1) && decide ((a : Int) = b)) "song"
  have q1 := one_len (decide (ap < R.2.1) && decide (s.1 = u.1)) "maker"
  have q2 := one_len (decide (ap < R.2.2.1) && decide (s.2.1 = u.2.1)) "mood"
  have q3 := one_len (decide (ap = 1) && decide (R.2.2.2.1 < absI (s.2.2.1 - u.2.2.1))) "jump"
  rw [exs_cons, sL0 l ha hb ho ht (by omega), exs_cons, sL1 _ (by simp only [List.length_append, tell_len]; omega), exs_cons, sL2 _ (by simp only [List.length_append, tell_len]; omega), exs_cons, sL3 _ (by simp only [List.length_append, tell_len]; omega), exs_cons, sL4 _ (by simp only [List.length_append, tell_len]; omega), exs_nil]
  simp only [tell_app, List.append_assoc]
theorem innerL {l : List D} {t n : Nat} {x5 x6 x7 x8 : SV} (hp : okP S p) (ht : t < p.length) (hn : n ≤ t) (hl : l.length + 5 * n + 5 ≤ 16777216) (h5 : okX x5) (h6 : okX x6) (h7 : okX x7) (h8 : okX x8) :
    ∃ z5 z6 z7 z8, okX z5 ∧ okX z6 ∧ okX z7 ∧ okX z8 ∧ forK [] (.nm 5) bodyL ((List.range n).map fun k : Nat => .int (k : Int)) (stL S R p l (.val (.int t)) x5 x6 x7 x8) = .nx (stL S R p (l ++ (List.range n).flatMap fun k => pairT S R p k t) (.val (.int t)) z5 z6 z7 z8) := by
  obtain ⟨r', ⟨x5', x6', x7', x8', h5', h6', h7', h8', h2⟩, h3⟩ := forK_nx (fs := []) (tg := .nm 5) (body := bodyL) (fun k r => ∃ x5 x6 x7 x8, okX x5 ∧ okX x6 ∧ okX x7 ∧ okX x8 ∧ r = stL S R p (l ++ (List.range k).flatMap fun k => pairT S R p k t) (.val (.int t)) x5 x6 x7 x8)
    ((List.range n).map fun k : Nat => .int (k : Int)) 0 (stL S R p l (.val (.int t)) x5 x6 x7 x8) ⟨_, _, _, _, h5, h6, h7, h8, by simp⟩ (by
      rintro k x hx r ⟨y5, y6, y7, y8, g5, g6, g7, g8, rfl⟩
      rw [List.getElem?_map, Option.map_eq_some_iff] at hx
      obtain ⟨k', hk, rfl⟩ := hx
      obtain ⟨hkl, hke⟩ := List.getElem?_eq_some_iff.mp hk
      rw [List.length_range] at hkl
      rw [List.getElem_range] at hke
      subst hke
      rw [Nat.zero_add]
      have hlen := flatMap_len (fun k => pairT S R p k t) 5 (List.range k) fun _ _ => pairT_len
      rw [List.length_range] at hlen
      refine ⟨_, _, set_x rfl g5, stepL (o := k) g6 g7 g8 hp (by omega) ht (by rw [List.length_append]; omega), ⟨.val (.int k), .val (rowD (rw_ S (p.getD k 0))), .val (rowD (rw_ S (p.getD t 0))), .val (.int ((t : Int) - k)), .inr ⟨_, rfl⟩, .inr ⟨_, rfl⟩, .inr ⟨_, rfl⟩, .inr ⟨_, rfl⟩, ?_⟩⟩
      rw [range_snoc, List.append_assoc])
  rw [List.length_map, List.length_range, Nat.zero_add] at h2
  subst h2
  exact ⟨_, _, _, _, h5', h6', h7', h8', h3⟩
abbrev bodyO : CSs := .cons (.forS (.rng1 (.var 4)) (.nm 5) bodyL) .nil
theorem outerL (hp : okP S p) (hl : p.length ≤ 1000) :
    ∃ x4 x5 x6 x7 x8, forK [] (.nm 4) bodyO ((List.range p.length).map fun k : Nat => .int (k : Int)) (stL S R p [] .no .no .no .no .no) = .nx (stL S R p (allT S R p) x4 x5 x6 x7 x8) := by
  obtain ⟨r', ⟨x4', x5', x6', x7', x8', h4', h5', h6', h7', h8', h2⟩, h3⟩ := forK_nx (fs := []) (tg := .nm 4) (body := bodyO) (fun k r => ∃ x4 x5 x6 x7 x8, okX x4 ∧ okX x5 ∧ okX x6 ∧ okX x7 ∧ okX x8 ∧ r = stL S R p ((List.range k).flatMap (rowT S R p)) x4 x5 x6 x7 x8)
    ((List.range p.length).map fun k : Nat => .int (k : Int)) 0 (stL S R p [] .no .no .no .no .no) ⟨_, _, _, _, _, .inl rfl, .inl rfl, .inl rfl, .inl rfl, .inl rfl, by simp⟩ (by
      rintro k x hx r ⟨y4, y5, y6, y7, y8, g4, g5, g6, g7, g8, rfl⟩
      rw [List.getElem?_map, Option.map_eq_some_iff] at hx
      obtain ⟨k', hk, rfl⟩ := hx
      obtain ⟨hkl, hke⟩ := List.getElem?_eq_some_iff.mp hk
      rw [List.length_range] at hkl
      rw [List.getElem_range] at hke
      subst hke
      rw [Nat.zero_add]
      have hlen := flatMap_len (rowT S R p) 5000 (List.range k) fun j hj => by
        have := rowT_len (S := S) (R := R) (p := p) (t := j)
        have hj := List.mem_range.mp hj
        omega
      rw [List.length_range] at hlen
      generalize hLL : (List.range k).flatMap (rowT S R p) = L at hlen ⊢
      obtain ⟨z5, z6, z7, z8, k5, k6, k7, k8, hin⟩ := innerL (l := L) (R := R) (t := k) (n := k) hp hkl (Nat.le_refl _) (by omega) g5 g6 g7 g8
      refine ⟨_, stL S R p (L ++ rowT S R p k) (.val (.int k)) z5 z6 z7 z8, set_x rfl g4, ?_, ⟨.val (.int k), z5, z6, z7, z8, .inr ⟨_, rfl⟩, k5, k6, k7, k8, ?_⟩⟩
      · have hr : rngW1 (.d (.int (k : Int))) (stL S R p L (.val (.int k)) y5 y6 y7 y8) = .ok ((List.range k).map fun j : Nat => .int (j : Int)) (stL S R p L (.val (.int k)) y5 y6 y7 y8) := by
          rw [rngW1_ok (by omega) (by omega), rangeD_map0, Int.toNat_natCast]
        show exSs [] bodyO (stL S R p L (.val (.int k)) y5 y6 y7 y8) = _
        rw [exs_cons, ex_for, evi_rng1, ev_val (show (stL S R p L (.val (.int k)) y5 y6 y7 y8)[4]? = some (.val (.int k)) from rfl), bind_ok, hr, sr_ok, hin, seqK_nx, exs_nil]
        rfl
      · rw [range_snoc, hLL])
  rw [List.length_map, List.length_range, Nat.zero_add] at h2
  subst h2
  exact ⟨_, _, _, _, _, h3⟩
theorem s_broken_fn (hp : okP S p) (hl : p.length ≤ 1000) : f__law_s_broken.fn [.val (songsD S), .val (rowD R), .val (plD p)] = .ok (.frs (allT S R p)) [.val (songsD S), .val (rowD R), .val (plD p)] := by
  rw [show f__law_s_broken.fn = runB 9 [] b__law_s_broken from rfl, runB_eq]
  obtain ⟨x4, x5, x6, x7, x8, ho⟩ := outerL (R := R) hp hl
  have hs0 : setK 3 true (.f []) [.val (songsD S), .val (rowD R), .val (plD p), .no, .no, .no, .no, .no, .no] = .nx (stL S R p [] .no .no .no .no .no) := setK_own rfl
  have hr : rngW1 (.d (.int (p.length : Int))) (stL S R p [] .no .no .no .no .no) = .ok ((List.range p.length).map fun j : Nat => .int (j : Int)) (stL S R p [] .no .no .no .no .no) := by
    rw [rngW1_ok (by omega) (by omega), rangeD_map0, Int.toNat_natCast]
  show endK _ (exSs [] (.cons (.set 3 true (.lst (.nil))) (.cons (.forS (.rng1 (.blt .len (.cons (.var 2) .nil))) (.nm 4) bodyO) (.cons (.ret (.var 3)) .nil))) [.val (songsD S), .val (rowD R), .val (plD p), .no, .no, .no, .no, .no, .no]) = _
  rw [exs_cons, ex_set, ev_lst, evs_nil, bind_ok, lst_nil, sr_ok, hs0, seqK_nx, exs_cons, ex_for, evi_rng1, ev_blt, evs_one, ev_val (show (stL S R p [] .no .no .no .no .no)[2]? = some (.val (plD p)) from rfl), bind_ok, bind_ok, pl_len, bind_ok, hr, sr_ok, ho, seqK_nx, exs_cons, ex_ret, ev_own (show (stL S R p (allT S R p) x4 x5 x6 x7 x8)[3]? = some (.own (allT S R p)) from rfl), sr_ok, retS_own rfl]
  rfl
theorem c_s_broken {r : Sl} (hp : okP S p) (hl : p.length ≤ 1000) : callF f__law_s_broken [.d (songsD S), .d (rowD R), .d (plD p)] r = .ok (.f (allT S R p)) r :=
  call_dat (xs := [songsD S, rowD R, plD p]) rfl rfl (s_broken_fn hp hl)
end
end KL
namespace KL
open PySem SR
theorem flatL_iff {n : Nat} : ∀ {l : List D}, flatL n l = true ↔ ∀ x ∈ l, flat n x = true
  | [] => by simp [flatL]
  | x :: l => by simp only [flatL, Bool.and_eq_true, List.mem_cons, forall_eq_or_imp, flatL_iff]
theorem flat_ints {n : Nat} {l : List D} (h : ∀ x ∈ l, ∃ i : Int, x = .int i) : flatL n l = true :=
  flatL_iff.mpr fun x hx => by obtain ⟨i, rfl⟩ := h x hx; cases n <;> rfl
theorem flat_tell {n : Nat} {ws : List D} {o t : Nat} (h : flatL n ws = true) : flatL (n + 1) (tell ws o t) = true :=
  flatL_iff.mpr fun x hx => by
    obtain ⟨w, hw, rfl⟩ := List.mem_map.mp hx
    have := flatL_iff.mp h w hw
    refine flat_t ?_
    simp only [flatL, this, Bool.true_and, Bool.and_true]
    cases n <;> rfl
theorem flat_all {n : Nat} {S : List Row} {R : Row} {p : List Nat} : flatL (n + 1) (allT S R p) = true :=
  flatL_iff.mpr fun x hx => by
    obtain ⟨t, -, hx⟩ := List.mem_flatMap.mp hx
    obtain ⟨o, -, hx⟩ := List.mem_flatMap.mp hx
    exact flatL_iff.mp (flat_tell flat_brk) x hx
theorem add_t {r : Sl} {a b : List D} (h : a.length + b.length ≤ 16777216) : binK .Add (.d (.tuple a)) (.d (.tuple b)) r = .ok (.d (.tuple (a ++ b))) r := binK_ok rfl rfl (by simp [binD, addD, h, sizeLine])
theorem add_1 {r : Sl} {v : List D} {x : D} (h : v.length ≤ 1000) : binK .Add (.d (.tuple v)) (.d (.tuple [x])) r = .ok (.d (.tuple (v ++ [x]))) r := add_t (by rw [List.length_singleton]; omega)
theorem tup1 {r : Sl} (x : D) : tupK [.d x] r = .ok (.d (.tuple [x])) r := tupK_ok (xs := [x]) rfl (by simp)
section
variable {S : List Row} {R : Row} {p : List Nat} {r : Sl} {s q w : D}
abbrev nC : CE := .cmp .Eq (.call 0 (.cons (.var 0) (.cons (.var 1) (.cons (.bin .Add (.var 3) (.tup (.cons (.var 4) .nil))) .nil)))) (.lst (.nil))
theorem nxB {v l : List D} {x : D} (hv : v.length ≤ 1000) (hn : ∀ r, callF f__law_s_broken [.d s, .d q, .d (.tuple (v ++ [x]))] r = .ok (.f l) r) (hf : flatL 7 l = true) : evE [f__law_s_broken] nC [.val s, .val q, .val w, .val (.tuple v), .val x] = .ok (.d (.bool l.isEmpty)) [.val s, .val q, .val w, .val (.tuple v), .val x] := by
  have ha := add_1 (r := [.val s, .val q, .val w, .val (.tuple v), .val x]) (x := x) hv
  have he := eq_nil (r := [.val s, .val q, .val w, .val (.tuple v), .val x]) hf
  have hn := hn [.val s, .val q, .val w, .val (.tuple v), .val x]
  generalize hst : ([.val s, .val q, .val w, .val (.tuple v), .val x] : Sl) = st at ha he hn ⊢
  have g0 : st[0]? = some (.val s) := by rw [← hst]; rfl
  have g1 : st[1]? = some (.val q) := by rw [← hst]; rfl
  have g3 : st[3]? = some (.val (.tuple v)) := by rw [← hst]; rfl
  have g4 : st[4]? = some (.val x) := by rw [← hst]; rfl
  rw [ev_cmp, ev_call _ (show [f__law_s_broken][0]? = some f__law_s_broken from rfl), evs_cons, ev_val g0, bind_ok, evs_cons, ev_val g1, bind_ok, evs_one, ev_bin, ev_val g3, bind_ok, ev_tup, evs_one, ev_val g4, bind_ok, bind_ok, tup1, bind_ok, ha, bind_ok, bind_ok, bind_ok, bind_ok, stl_d, stl_d, hn, bind_ok, ev_lst, evs_nil, bind_ok, lst_nil, bind_ok, he]
theorem nxC {n : Nat} {v : List D} {L : Nat → List D} (hS : n ≤ 8) (hv : v.length ≤ 1000) (hf : ∀ k, flatL 7 (L k) = true) (hn : ∀ k, k < n → ∀ r, callF f__law_s_broken [.d s, .d q, .d (.tuple (v ++ [.int (k : Int)]))] r = .ok (.f (L k)) r) :
    compK [f__law_s_broken] [("song", 4)] (.nm 4) true nC (.var 4) ((List.range n).map fun k : Nat => .int (k : Int)) [.val s, .val q, .val w, .val (.tuple v), .no] = .ok (.f (((List.range n).filter fun k => (L k).isEmpty).map fun i : Nat => .int (i : Int))) [.val s, .val q, .val w, .val (.tuple v), .no] := by
  rw [compK_if (fun x => match x with | .int i => (L i.toNat).isEmpty | _ => false) (fun x => x) (by rw [List.length_map, List.length_range]; omega) rfl rfl fun x hx => ?_]
  · congr 2
    rw [List.filter_map, List.map_map]
    rfl
  · obtain ⟨k, hk, rfl⟩ := List.mem_map.mp hx
    have hk := List.mem_range.mp hk
    have hn := hn k hk
    refine ⟨[.val s, .val q, .val w, .val (.tuple v), .val (.int k)], rfl, ?_, fun _ => by simp [ev_val], rfl⟩
    simp only [Int.toNat_natCast]
    exact nxB hv hn (hf k)
theorem nxE {n : Int} {v ws ys : List D} {m k : Nat} (hw : ∀ r, bltK .len [.d (.tuple ws)] r = .ok (.d (.int m)) r) (hk : maxI 0 ((m : Int) - 3) = k) (hkw : k ≤ ws.length) (hv : ws.drop k = v)
    (hlen : ∀ r, bltK .len [.d s] r = .ok (.d (.int n)) r) {xs : List D} (hr : rngW1 (.d (.int n)) [.val s, .val q, .val (.tuple ws), .val (.tuple v), .no] = .ok xs [.val s, .val q, .val (.tuple ws), .val (.tuple v), .no])
    (hc : compK [f__law_s_broken] [("song", 4)] (.nm 4) true nC (.var 4) xs [.val s, .val q, .val (.tuple ws), .val (.tuple v), .no] = .ok (.f ys) [.val s, .val q, .val (.tuple ws), .val (.tuple v), .no]) :
    endK [.val s, .val q, .val (.tuple ws)] (exSs [f__law_s_broken] b__law_s_next [.val s, .val q, .val (.tuple ws), .no, .no]) = .ok (.frs ys) [.val s, .val q, .val (.tuple ws)] := by
  have hs : slcK (.d (.tuple ws)) (some (k : Int)) none [.val s, .val q, .val (.tuple ws), .no, .no] = .ok (.d (.tuple v)) [.val s, .val q, .val (.tuple ws), .no, .no] := slcK_ok rfl (by simp only [slcD]; rw [cut_from _ _ hkw, hv])
  have hset : setK 3 false (.d (.tuple v)) [.val s, .val q, .val (.tuple ws), .no, .no] = .nx [.val s, .val q, .val (.tuple ws), .val (.tuple v), .no] := setK_no rfl
  simp [b__law_s_next, ev_val, hw, hk, hs, hset, hlen, hr, hc, endB, keepsL, proj]
theorem nxF {v ys : List D} (h : endK [.val s, .val q, .val (.tuple v)] (exSs [f__law_s_broken] b__law_s_next [.val s, .val q, .val (.tuple v), .no, .no]) = .ok (.frs ys) [.val s, .val q, .val (.tuple v)]) : callF f__law_s_next [.d s, .d q, .d (.tuple v)] r = .ok (.f ys) r := by
  refine call_dat (v := .frs ys) (as' := [.val s, .val q, .val (.tuple v)]) (xs := [s, q, .tuple v]) rfl rfl ?_
  rw [show f__law_s_next.fn = runB 5 [f__law_s_broken] b__law_s_next from rfl, runB_eq]
  exact h
theorem pl_snoc (p : List Nat) (j : Nat) : plD (p ++ [j]) = .tuple ((p.map fun i : Nat => (.int (i : Int) : D)) ++ [.int (j : Int)]) := by simp [plD]
theorem c_s_next (hR : okR R) (hp : okP S p) (hg : allT S R p = []) (hl : p.length ≤ 300) (hS : S.length ≤ 8) : callF f__law_s_next [.d (songsD S), .d (rowD R), .d (plD p)] r = .ok (.f (folB S R p)) r := by
  refine nxF (nxE (v := (near p).map fun i : Nat => .int (i : Int)) (m := p.length) (k := p.length - 3) (n := S.length) (fun r => pl_len p) (by unfold maxI; split <;> omega) (by rw [List.length_map]; omega) (by rw [← List.map_drop]; rfl) (fun r => songs_len S) (xs := (List.range S.length).map fun k : Nat => .int (k : Int)) (folR hS) ?_)
  have e : folB S R p = ((List.range S.length).filter fun k => (allT S R (near p ++ [k])).isEmpty).map fun i : Nat => .int (i : Int) := by
    unfold folB
    congr 1
    exact List.filter_congr fun k _ => (near_snoc hR hg).symm
  rw [e]
  have hnl : (near p).length ≤ 3 := by unfold near; rw [List.length_drop]; omega
  refine nxC (L := fun k => allT S R (near p ++ [k])) hS (by rw [List.length_map]; omega) (fun k => flat_all) fun k hk r => ?_
  rw [← pl_snoc]
  exact c_s_broken (okP_snoc (okP_near hp) hk) (by rw [List.length_append, List.length_singleton]; omega)
end
end KL
namespace KL
open PySem SR
/-! ### a def with a lent first list -/
theorem call_len {f : FI} {ws : List W} {xs l l' : List D} {v : Ret} {as' r : Sl} (hl : f.lp = .lent :: List.replicate xs.length .dat) (hw : wsD ws = some xs) (h0 : r[0]? = some (.lent l)) (h : f.fn (.lent l :: xs.map SV.val) = .ok v (.lent l' :: as')) : callF f (.s 0 :: ws) r = .ok (retW v) (r.set 0 (.lent l')) := by
  have ha : argAll r f.lp (.s 0 :: ws) = some (.lent l :: xs.map SV.val, r) := by
    rw [hl, argAll_lent _ _ h0, argAll_dat hw]
    rfl
  rw [callF_ok ha (by simp only [nLent, nLent_dat]; omega) (by simp only [lentIn, h0]), callK_ok h]
  simp only [backA, h0]
theorem call_lenF {f : FI} {l : List D} {v : Ret} {as' r : Sl} (hl : f.lp = [.lent]) (h : f.fn [.lent l] = .ok v as') : callF f [.f l] r = .ok (retW v) r := by
  have ha : argAll r f.lp [.f l] = some ([.lent l], r) := by rw [hl]; rfl
  rw [callF_ok ha (by simp only [nLent]; omega) rfl, callK_ok h]
  cases as' <;> rfl
def putK (i : Nat) (wk w : W) (r2 : Sl) : SR.SR := match wk with
    | .d (.int n) => (match keepW r2 w with
      | some (x, r3) => okS (appL r3 i fun l => (L2.ixN l.length n).map fun j => l.set j x)
      | none => .bad)
    | _ => .bad
theorem ex_put {fs : List FI} {r : Sl} {i : Nat} {l : List D} {x : D} {n : Int} {e : CE} (h : r[i]? = some (.lent l)) (he : evE fs e r = .ok (.d x) r) : exS fs (.put i (.lit (.int n)) e) r = putK i (.d (.int n)) (.d x) r := by
  simp only [exS, he, sr_ok, show ownS r i = true by simp [ownS, h], if_true, ev_lit]
  rfl
theorem putK_ok {r : Sl} {i j : Nat} {l : List D} {x : D} {n : Int} (h : r[i]? = some (.lent l)) (hj : L2.ixN l.length n = some j) : putK i (.d (.int n)) (.d x) r = .nx (r.set i (.lent (l.set j x))) := by
  simp [putK, appL, h, hj]
theorem idx_lent {r : Sl} {i : Nat} {l : List D} {n : Int} {d : D} (hr : r[i]? = some (.lent l)) (h : L2.atI l n = some d) : idxK (.s i) (.d (.int n)) r = .ok (.d d) r := idxK_ok (fixW_lent hr) rfl h
theorem at0 {a b c : D} : L2.atI [a, b, c] 0 = some a := rfl
theorem at1 {a b c : D} : L2.atI [a, b, c] 1 = some b := rfl
theorem at2 {a b c : D} : L2.atI [a, b, c] 2 = some c := rfl
/-! ### dice -/
def dOk (k : Nat) (l : List D) : Prop := ∃ a b c : Int, l = [.int a, .int b, .int c] ∧ 0 ≤ a ∧ 0 ≤ b ∧ b < 2147480009 ∧ 0 ≤ c ∧ c + k ≤ 100000
theorem lg {i : Int} (h : i.natAbs < 2 ^ 64) : i.natAbs.log2 < 64 := by
  by_cases h0 : i.natAbs = 0
  · rw [h0]; decide
  · exact (Nat.log2_lt h0).mpr h
theorem mul_s {r : Sl} {i j : Int} (h1 : i.natAbs < 2 ^ 64) (h2 : j.natAbs < 2 ^ 64) : binK .Mult (.d (.int i)) (.d (.int j)) r = .ok (.d (.int (i * j))) r := mul_i (by have := lg h1; have := lg h2; omega)
theorem fdiv_s {r : Sl} {i j : Int} (h1 : 0 < j) (h2 : j.natAbs < 2 ^ 64) : binK .FloorDiv (.d (.int i)) (.d (.int j)) r = .ok (.d (.int (i / j))) r := fdiv_i h1 (by have := lg h2; omega)
section
variable {a b c n : Int} {k : Nat}
abbrev stD (a b c n : Int) (x : SV) : Sl := [.lent [.int a, .int b, .int c], .val (.int n), x]
theorem roll_fn1 (ha : 0 < a) (hn : 0 < n) (hn2 : n.natAbs < 2 ^ 64) : f__law_roll.fn [.lent [.int a, .int b, .int c], .val (.int n)] = .ok (.dat (.int (a % n))) [.lent [.int (a / n), .int b, .int c], .val (.int n)] := by
  rw [show f__law_roll.fn = runB 3 [] b__law_roll from rfl, runB_eq]
  show endK _ (exSs [] b__law_roll (stD a b c n .no)) = _
  have g0 : (stD a b c n .no)[0]? = some (.lent [.int a, .int b, .int c]) := rfl
  have g1 : (stD a b c n .no)[1]? = some (.val (.int n)) := rfl
  have i0 := idx_lent g0 at0
  have hs : setK 2 false (.d (.int (a % n))) (stD a b c n .no) = .nx (stD a b c n (.val (.int (a % n)))) := setK_no rfl
  have k0 : (stD a b c n (.val (.int (a % n))))[0]? = some (.lent [.int a, .int b, .int c]) := rfl
  have k1 : (stD a b c n (.val (.int (a % n))))[1]? = some (.val (.int n)) := rfl
  have k2 : (stD (a / n) b c n (.val (.int (a % n))))[2]? = some (.val (.int (a % n))) := rfl
  have j0 := idx_lent k0 at0
  have hp : putK 0 (.d (.int 0)) (.d (.int (a / n))) (stD a b c n (.val (.int (a % n)))) = .nx (stD (a / n) b c n (.val (.int (a % n)))) := putK_ok (j := 0) k0 rfl
  have he : evE [] (.bin .FloorDiv (.idx (.var 0) (.lit (.int 0))) (.var 1)) (stD a b c n (.val (.int (a % n)))) = .ok (.d (.int (a / n))) (stD a b c n (.val (.int (a % n)))) := by
    rw [ev_bin, ev_idx, ev_lent k0, bind_ok, ev_lit, bind_ok, j0, bind_ok, ev_val k1, bind_ok, fdiv_s hn hn2]
  unfold b__law_roll
  rw [exs_cons, ex_if, ev_cmp, ev_idx, ev_lent g0, bind_ok, ev_lit, bind_ok, i0, bind_ok, ev_lit, bind_ok, gt_i, sr_ok, decide_eq_true ha, ifK_b, if_pos rfl,
    exs_cons, ex_set, ev_bin, ev_blt, evs_one, ev_idx, ev_lent g0, bind_ok, ev_lit, bind_ok, i0, bind_ok, bind_ok, int_k, bind_ok, ev_val g1, bind_ok, mod_i hn, sr_ok, hs, seqK_nx,
    exs_cons, ex_put k0 he, hp, seqK_nx, exs_cons, ex_ret, ev_val k2, sr_ok, retS_d]
  rfl
def rollB (b c : Int) : Int := (b * 52501 + (c + 1) * (c + 1) * 1009 + 77) % 2147480009
theorem roll_fn2 (ha : ¬ 0 < a) (hb : 0 ≤ b) (hb2 : b < 2147480009) (hc : 0 ≤ c) (hc2 : c ≤ 100000) (hn : 0 < n) : f__law_roll.fn [.lent [.int a, .int b, .int c], .val (.int n)] = .ok (.dat (.int (rollB b c / 211 % n))) [.lent [.int a, .int (rollB b c), .int (c + 1)], .val (.int n)] := by
  rw [show f__law_roll.fn = runB 3 [] b__law_roll from rfl, runB_eq]
  show endK _ (exSs [] b__law_roll (stD a b c n .no)) = _
  have hcc : ((c + 1) * (c + 1)).natAbs < 2 ^ 64 := by
    have h1 : 0 ≤ (c + 1) * (c + 1) := Int.mul_nonneg (by omega) (by omega)
    have h2 : (c + 1) * (c + 1) ≤ 100001 * 100001 := Int.mul_le_mul (by omega) (by omega) (by omega) (by omega)
    omega
  have g0 : (stD a b c n .no)[0]? = some (.lent [.int a, .int b, .int c]) := rfl
  have i0 := idx_lent g0 at0
  have i2 := idx_lent g0 at2
  have k0 : (stD a b (c + 1) n .no)[0]? = some (.lent [.int a, .int b, .int (c + 1)]) := rfl
  have j1 := idx_lent k0 at1
  have j2 := idx_lent k0 at2
  have m0 : (stD a (rollB b c) (c + 1) n .no)[0]? = some (.lent [.int a, .int (rollB b c), .int (c + 1)]) := rfl
  have m1 : (stD a (rollB b c) (c + 1) n .no)[1]? = some (.val (.int n)) := rfl
  have l1 := idx_lent m0 at1
  have hp : putK 0 (.d (.int 2)) (.d (.int (c + 1))) (stD a b c n .no) = .nx (stD a b (c + 1) n .no) := putK_ok (j := 2) g0 rfl
  have hp2 : putK 0 (.d (.int 1)) (.d (.int (rollB b c))) (stD a b (c + 1) n .no) = .nx (stD a (rollB b c) (c + 1) n .no) := putK_ok (j := 1) k0 rfl
  have he : evE [] (.bin .Add (.idx (.var 0) (.lit (.int 2))) (.lit (.int 1))) (stD a b c n .no) = .ok (.d (.int (c + 1))) (stD a b c n .no) := by
    rw [ev_bin, ev_idx, ev_lent g0, bind_ok, ev_lit, bind_ok, i2, bind_ok, ev_lit, bind_ok, add_i]
  have he2 : evE [] (.bin .Mod (.blt .int (.cons (.bin .Add (.bin .Add (.bin .Mult (.idx (.var 0) (.lit (.int 1))) (.lit (.int 52501))) (.bin .Mult (.bin .Mult (.idx (.var 0) (.lit (.int 2))) (.idx (.var 0) (.lit (.int 2)))) (.lit (.int 1009)))) (.lit (.int 77))) .nil)) (.lit (.int 2147480009))) (stD a b (c + 1) n .no) = .ok (.d (.int (rollB b c))) (stD a b (c + 1) n .no) := by
    rw [ev_bin, ev_blt, evs_one, ev_bin, ev_bin, ev_bin, ev_idx, ev_lent k0, bind_ok, ev_lit, bind_ok, j1, bind_ok, ev_lit, bind_ok, mul_s (by omega) (by omega), bind_ok, ev_bin, ev_bin, ev_idx, ev_lent k0, bind_ok, ev_lit, bind_ok, j2, bind_ok, ev_idx, ev_lent k0, bind_ok, ev_lit, bind_ok, j2, bind_ok, mul_s (by omega) (by omega), bind_ok, ev_lit, bind_ok, mul_s hcc (by omega), bind_ok, add_i, bind_ok, ev_lit, bind_ok, add_i, bind_ok, bind_ok, int_k, bind_ok, ev_lit, bind_ok, mod_i (by omega)]
    rfl
  unfold b__law_roll
  rw [exs_cons, ex_if, ev_cmp, ev_idx, ev_lent g0, bind_ok, ev_lit, bind_ok, i0, bind_ok, ev_lit, bind_ok, gt_i, sr_ok, decide_eq_false ha, ifK_b, if_neg (by simp), exs_nil, seqK_nx,
    exs_cons, ex_put g0 he, hp, seqK_nx, exs_cons, ex_put k0 he2, hp2, seqK_nx, exs_cons, ex_ret, ev_bin, ev_blt, evs_one, ev_bin, ev_idx, ev_lent m0, bind_ok, ev_lit, bind_ok, l1, bind_ok, ev_lit, bind_ok, fdiv_s (by omega) (by omega), bind_ok, bind_ok, int_k, bind_ok, ev_val m1, bind_ok, mod_i hn, sr_ok, retS_d]
  rfl
/-- one roll -/
theorem c_roll {l : List D} {r : Sl} (h0 : r[0]? = some (.lent l)) (h : dOk (k + 1) l) (hn : 0 < n) (hn2 : n < 100000) : ∃ (v : Nat) (l' : List D), (v : Int) < n ∧ dOk k l' ∧ callF f__law_roll [.s 0, .d (.int n)] r = .ok (.d (.int v)) (r.set 0 (.lent l')) := by
  obtain ⟨a, b, c, rfl, ha, hb, hb2, hc, hc2⟩ := h
  by_cases h1 : 0 < a
  · have hv := Int.emod_nonneg a (show n ≠ 0 by omega)
    refine ⟨(a % n).toNat, [.int (a / n), .int b, .int c], by have := Int.emod_lt_of_pos a hn; omega, ⟨_, _, _, rfl, Int.ediv_nonneg ha (by omega), hb, hb2, hc, by omega⟩, ?_⟩
    rw [Int.toNat_of_nonneg hv]
    exact call_len (xs := [.int n]) rfl rfl h0 (roll_fn1 h1 hn (by omega))
  · have hv := Int.emod_nonneg (rollB b c / 211) (show n ≠ 0 by omega)
    refine ⟨(rollB b c / 211 % n).toNat, [.int a, .int (rollB b c), .int (c + 1)], by have := Int.emod_lt_of_pos (rollB b c / 211) hn; omega, ⟨_, _, _, rfl, ha, Int.emod_nonneg _ (by omega), Int.emod_lt_of_pos _ (by omega), by omega, by omega⟩, ?_⟩
    rw [Int.toNat_of_nonneg hv]
    exact call_len (xs := [.int n]) rfl rfl h0 (roll_fn2 h1 hb hb2 hc (by omega) hn)
end
end KL
namespace KL
open PySem SR
section
variable {l xs : List D} {r : Sl} {k : Nat}
theorem pick_fn (h : dOk (k + 1) l) (h1 : 0 < xs.length) (h2 : xs.length < 100000) : ∃ (v : Nat) (x : D) (l' : List D), xs[v]? = some x ∧ dOk k l' ∧ f__law_pick.fn [.lent l, .val (.list xs)] = .ok (.dat x) [.lent l', .val (.list xs)] := by
  have g0 : ([.lent l, .val (.list xs)] : Sl)[0]? = some (.lent l) := rfl
  have g1 : ([.lent l, .val (.list xs)] : Sl)[1]? = some (.val (.list xs)) := rfl
  obtain ⟨v, l', hv, hd, hc⟩ := c_roll (n := xs.length) g0 h (by omega) (by omega)
  have hx : xs[v]? = some (xs[v]'(by omega)) := List.getElem?_eq_getElem (by omega)
  refine ⟨v, _, l', hx, hd, ?_⟩
  rw [show f__law_pick.fn = runB 2 [f__law_roll] b__law_pick from rfl, runB_eq]
  show endK _ (exSs [f__law_roll] b__law_pick [.lent l, .val (.list xs)]) = _
  unfold b__law_pick
  rw [exs_cons, ex_ret, ev_idx, ev_val g1, bind_ok, ev_call _ (show [f__law_roll][0]? = some f__law_roll from rfl), evs_cons, ev_lent g0, bind_ok, evs_one, ev_blt, evs_one, ev_val g1, bind_ok, bind_ok, len_l, bind_ok, bind_ok, bind_ok, stl_s, hc, bind_ok, idx_l (atI_nat hx), sr_ok, retS_d]
  rfl
theorem c_pick {ws : List W} (hw : wsD ws = some [.list xs]) (h0 : r[0]? = some (.lent l)) (h : dOk (k + 1) l) (h1 : 0 < xs.length) (h2 : xs.length < 100000) : ∃ (v : Nat) (x : D) (l' : List D), xs[v]? = some x ∧ dOk k l' ∧ callF f__law_pick (.s 0 :: ws) r = .ok (.d x) (r.set 0 (.lent l')) := by
  obtain ⟨v, x, l', hx, hd, hf⟩ := pick_fn h h1 h2
  exact ⟨v, x, l', hx, hd, call_len (xs := [.list xs]) rfl hw h0 hf⟩
/-! ### rules -/
abbrev fsR : List FI := [f__law_pick, f__law_roll]
theorem lits3 {fs : List FI} (a b c : D) : evE fs (.lst (.cons (.lit a) (.cons (.lit b) (.cons (.lit c) .nil)))) r = .ok (.f [a, b, c]) r := by
  rw [ev_lst, evs_cons, ev_lit, bind_ok, evs_cons, ev_lit, bind_ok, evs_one, ev_lit, bind_ok, bind_ok, bind_ok, bind_ok]
  exact lstK_ok rfl (by simp)
theorem lits4 {fs : List FI} (a b c d : D) : evE fs (.lst (.cons (.lit a) (.cons (.lit b) (.cons (.lit c) (.cons (.lit d) .nil))))) r = .ok (.f [a, b, c, d]) r := by
  rw [ev_lst, evs_cons, ev_lit, bind_ok, evs_cons, ev_lit, bind_ok, evs_cons, ev_lit, bind_ok, evs_one, ev_lit, bind_ok, bind_ok, bind_ok, bind_ok, bind_ok]
  exact lstK_ok rfl (by simp)
theorem pick3 {fs : List FI} {i : Nat} {a b c : Int} (hi : fs[i]? = some f__law_pick) (h0 : r[0]? = some (.lent l)) (h : dOk (k + 1) l) : ∃ (x : Int) (l' : List D), (x = a ∨ x = b ∨ x = c) ∧ dOk k l' ∧ evE fs (.call i (.cons (.var 0) (.cons (.lst (.cons (.lit (.int a)) (.cons (.lit (.int b)) (.cons (.lit (.int c)) .nil)))) .nil))) r = .ok (.d (.int x)) (r.set 0 (.lent l')) := by
  obtain ⟨v, x, l', hx, hd, hc⟩ := c_pick (xs := [.int a, .int b, .int c]) (ws := [.f [.int a, .int b, .int c]]) rfl h0 h (by simp) (by simp)
  have hx : ∃ y : Int, x = .int y ∧ (y = a ∨ y = b ∨ y = c) := by
    rcases v with _ | _ | _ | v
    · exact ⟨a, by simpa using hx.symm, .inl rfl⟩
    · exact ⟨b, by simpa using hx.symm, .inr (.inl rfl)⟩
    · exact ⟨c, by simpa using hx.symm, .inr (.inr rfl)⟩
    · simp at hx
  obtain ⟨y, rfl, hy⟩ := hx
  refine ⟨y, l', hy, hd, ?_⟩
  rw [ev_call _ hi, evs_cons, ev_lent h0, bind_ok, evs_one, lits3, bind_ok, bind_ok, bind_ok, stl_s, hc]
theorem pick4 {fs : List FI} {i : Nat} {a b c d : Int} (hi : fs[i]? = some f__law_pick) (h0 : r[0]? = some (.lent l)) (h : dOk (k + 1) l) : ∃ (x : Int) (l' : List D), (x = a ∨ x = b ∨ x = c ∨ x = d) ∧ dOk k l' ∧ evE fs (.call i (.cons (.var 0) (.cons (.lst (.cons (.lit (.int a)) (.cons (.lit (.int b)) (.cons (.lit (.int c)) (.cons (.lit (.int d)) .nil))))) .nil))) r = .ok (.d (.int x)) (r.set 0 (.lent l')) := by
  obtain ⟨v, x, l', hx, hd, hc⟩ := c_pick (xs := [.int a, .int b, .int c, .int d]) (ws := [.f [.int a, .int b, .int c, .int d]]) rfl h0 h (by simp) (by simp)
  have hx : ∃ y : Int, x = .int y ∧ (y = a ∨ y = b ∨ y = c ∨ y = d) := by
    rcases v with _ | _ | _ | _ | v
    · exact ⟨a, by simpa using hx.symm, .inl rfl⟩
    · exact ⟨b, by simpa using hx.symm, .inr (.inl rfl)⟩
    · exact ⟨c, by simpa using hx.symm, .inr (.inr (.inl rfl))⟩
    · exact ⟨d, by simpa using hx.symm, .inr (.inr (.inr rfl))⟩
    · simp at hx
  obtain ⟨y, rfl, hy⟩ := hx
  refine ⟨y, l', hy, hd, ?_⟩
  rw [ev_call _ hi, evs_cons, ev_lent h0, bind_ok, evs_one, lits4, bind_ok, bind_ok, bind_ok, stl_s, hc]
/-- a roll of a literal many -/
theorem rollL {fs : List FI} {i : Nat} {n : Int} (hi : fs[i]? = some f__law_roll) (h0 : r[0]? = some (.lent l)) (h : dOk (k + 1) l) (hn : 0 < n) (hn2 : n < 100000) : ∃ (v : Nat) (l' : List D), (v : Int) < n ∧ dOk k l' ∧ evE fs (.call i (.cons (.var 0) (.cons (.lit (.int n)) .nil))) r = .ok (.d (.int v)) (r.set 0 (.lent l')) := by
  obtain ⟨v, l', hv, hd, hc⟩ := c_roll (n := n) h0 h hn hn2
  refine ⟨v, l', hv, hd, ?_⟩
  rw [ev_call _ hi, evs_cons, ev_lent h0, bind_ok, evs_one, ev_lit, bind_ok, bind_ok, bind_ok, stl_s, hc]
/-- a roll of as many as a slot says -/
theorem rollV {fs : List FI} {i j : Nat} {n : Int} (hi : fs[i]? = some f__law_roll) (h0 : r[0]? = some (.lent l)) (hj : r[j]? = some (.val (.int n))) (h : dOk (k + 1) l) (hn : 0 < n) (hn2 : n < 100000) : ∃ (v : Nat) (l' : List D), (v : Int) < n ∧ dOk k l' ∧ evE fs (.call i (.cons (.var 0) (.cons (.var j) .nil))) r = .ok (.d (.int v)) (r.set 0 (.lent l')) := by
  obtain ⟨v, l', hv, hd, hc⟩ := c_roll (n := n) h0 h hn hn2
  refine ⟨v, l', hv, hd, ?_⟩
  rw [ev_call _ hi, evs_cons, ev_lent h0, bind_ok, evs_one, ev_val hj, bind_ok, bind_ok, bind_ok, stl_s, hc]
theorem c_s_rules (h0 : r[0]? = some (.lent l)) (h : dOk (k + 5) l) : ∃ (R : Row) (l' : List D), okR R ∧ areRules (rowD R) = true ∧ dOk k l' ∧ callF f__law_s_rules [.s 0, .d (.int 4)] r = .ok (.d (rowD R)) (r.set 0 (.lent l')) := by
  obtain ⟨v1, l1, b1, h, e1⟩ := rollV (r := [.lent l, .val (.int 4)]) (k := k + 4) (fs := fsR) (i := 1) (j := 1) (n := 4) rfl rfl rfl h (by omega) (by omega)
  obtain ⟨v2, l2, b2, h, e2⟩ := rollV (r := [.lent l1, .val (.int 4)]) (k := k + 3) (fs := fsR) (i := 1) (j := 1) (n := 4) rfl rfl rfl h (by omega) (by omega)
  obtain ⟨v3, l3, b3, h, e3⟩ := pick3 (r := [.lent l2, .val (.int 4)]) (k := k + 2) (fs := fsR) (i := 0) (a := 1) (b := 1) (c := 2) rfl rfl h
  obtain ⟨v4, l4, b4, h, e4⟩ := pick4 (r := [.lent l3, .val (.int 4)]) (k := k + 1) (fs := fsR) (i := 0) (a := 180) (b := 180) (c := 20) (d := 60) rfl rfl h
  obtain ⟨v5, l5, b5, h, e5⟩ := pick4 (r := [.lent l4, .val (.int 4)]) (k := k) (fs := fsR) (i := 0) (a := 6) (b := 6) (c := 3) (d := 5) rfl rfl h
  refine ⟨(1 + v1, 1 + v2, v3, v4, v5), l5, ⟨by show 1 + (v1 : Int) ≤ 4; omega, by show 1 + (v2 : Int) ≤ 4; omega, by show v3 ≤ 4; omega⟩, ?_, h, ?_⟩
  · simp only [areRules, rowD, isIn, Bool.and_eq_true, decide_eq_true_eq]; omega
  · refine call_len (xs := [.int 4]) (v := .dat (rowD (1 + v1, 1 + v2, v3, v4, v5))) (as' := [.val (.int 4)]) rfl rfl h0 ?_
    rw [show f__law_s_rules.fn = runB 2 fsR b__law_s_rules from rfl, runB_eq]
    show endK _ (exSs fsR b__law_s_rules [.lent l, .val (.int 4)]) = _
    have ht : tupK [.d (.int (1 + v1)), .d (.int (1 + v2)), .d (.int v3), .d (.int v4), .d (.int v5)] ([.lent l5, .val (.int 4)] : Sl) = .ok (.d (rowD (1 + v1, 1 + v2, v3, v4, v5))) [.lent l5, .val (.int 4)] := tupK_ok rfl (by simp)
    unfold b__law_s_rules
    rw [exs_cons, ex_ret, ev_tup, evs_cons, ev_bin, ev_lit, bind_ok, e1, bind_ok, add_i, bind_ok, evs_cons, ev_bin, ev_lit, bind_ok, List.set_cons_zero, e2, bind_ok, add_i, bind_ok, evs_cons, List.set_cons_zero, e3, bind_ok, evs_cons, List.set_cons_zero, e4, bind_ok, evs_one, List.set_cons_zero, e5, bind_ok, List.set_cons_zero, bind_ok, bind_ok, bind_ok, bind_ok, bind_ok, stl_d, stl_d, stl_d, stl_d, ht, sr_ok, retS_d]
    rfl
end
end KL
namespace KL
open PySem SR
theorem dOk_le {l : List D} {j k : Nat} (h : dOk k l) (hj : j ≤ k) : dOk j l := by
  obtain ⟨a, b, c, rfl, h1, h2, h3, h4, h5⟩ := h
  exact ⟨a, b, c, rfl, h1, h2, h3, h4, by omega⟩
/-! ### songs -/
section
variable {l L : List D} {r : Sl} {k : Nat}
abbrev fsS : List FI := [f__law_roll, f__law_pick]
abbrev stS (l : List D) (m t : Int) (L : List D) (x : SV) : Sl := [.lent l, .val (.int 8), .val (.int 60), .val (.int m), .val (.int t), .own L, x]
abbrev bodyS : CSs := .cons (.app 5 (.tup (.cons (.call 0 (.cons (.var 0) (.cons (.var 3) .nil))) (.cons (.call 0 (.cons (.var 0) (.cons (.lit (.int 3)) .nil))) (.cons (.blt .min2 (.cons (.lit (.int 220)) (.cons (.bin .Add (.var 4) (.call 1 (.cons (.var 0) (.cons (.lst (.cons (.lit (.int 0)) (.cons (.lit (.int 5)) (.cons (.lit (.int 20)) (.cons (.lit (.int 60)) .nil))))) .nil)))) .nil))) (.cons (.call 0 (.cons (.var 0) (.cons (.lit (.int 12)) .nil))) (.cons (.bin .Add (.lit (.int 1)) (.call 0 (.cons (.var 0) (.cons (.var 2) .nil)))) .nil))))))) .nil
theorem stepS {m t : Int} {x : SV} (h : dOk (k + 5) l) (hm : 0 < m) (hm2 : m ≤ 4) (ht : 60 ≤ t) (ht2 : t < 160) (hL : L.length < 100) : ∃ (s : Row) (l' : List D), isSong (rowD s) = true ∧ dOk k l' ∧ exSs fsS bodyS (stS l m t L x) = .nx (stS l' m t (L ++ [rowD s]) x) := by
  obtain ⟨v1, l1, b1, h, e1⟩ := rollV (r := stS l m t L x) (k := k + 4) (fs := fsS) (i := 0) (j := 3) (n := m) rfl rfl rfl h hm (by omega)
  obtain ⟨v2, l2, b2, h, e2⟩ := rollL (r := stS l1 m t L x) (k := k + 3) (fs := fsS) (i := 0) (n := 3) rfl rfl h (by omega) (by omega)
  obtain ⟨v3, l3, b3, h, e3⟩ := pick4 (r := stS l2 m t L x) (k := k + 2) (fs := fsS) (i := 1) (a := 0) (b := 5) (c := 20) (d := 60) rfl rfl h
  obtain ⟨v4, l4, b4, h, e4⟩ := rollL (r := stS l3 m t L x) (k := k + 1) (fs := fsS) (i := 0) (n := 12) rfl rfl h (by omega) (by omega)
  obtain ⟨v5, l5, b5, h, e5⟩ := rollV (r := stS l4 m t L x) (k := k) (fs := fsS) (i := 0) (j := 2) (n := 60) rfl rfl rfl h (by omega) (by omega)
  refine ⟨(v1, v2, minI 220 (t + v3), v4, 1 + v5), l5, ?_, h, ?_⟩
  · have q1 : minI 220 (t + v3) ≤ 220 := by unfold minI; split <;> omega
    have q2 : 40 ≤ minI 220 (t + v3) := by unfold minI; split <;> omega
    simp only [isSong, rowD, isIn, Bool.and_eq_true, decide_eq_true_eq]
    omega
  · have ht : tupK [.d (.int v1), .d (.int v2), .d (.int (minI 220 (t + v3))), .d (.int v4), .d (.int (1 + v5))] (stS l5 m t L x) = .ok (.d (rowD (v1, v2, minI 220 (t + v3), v4, 1 + v5))) (stS l5 m t L x) := tupK_ok rfl (by simp)
    have g4 : (stS l2 m t L x)[4]? = some (.val (.int t)) := rfl
    rw [exs_cons, ex_app _ (show (stS l m t L x)[5]? = some (.own L) from rfl), ev_tup, evs_cons, e1, bind_ok, evs_cons, List.set_cons_zero, e2, bind_ok, evs_cons, List.set_cons_zero, ev_blt, evs_cons, ev_lit, bind_ok, evs_one, ev_bin, ev_val g4, bind_ok, e3, bind_ok, add_i, bind_ok, bind_ok, bind_ok, stl_d, min_k, bind_ok, evs_cons, List.set_cons_zero, e4, bind_ok, evs_one, ev_bin, ev_lit, bind_ok, List.set_cons_zero, e5, bind_ok, add_i, bind_ok, List.set_cons_zero, bind_ok, bind_ok, bind_ok, bind_ok, stl_d, stl_d, stl_d, stl_d, bind_ok, ht, sr_ok, appK_own rfl (by omega), seqK_nx, exs_nil]
    rfl
theorem loopS {m t : Int} {n : Nat} (hn : n ≤ 8) (h : dOk (k + 5 * n) l) (hm : 0 < m) (hm2 : m ≤ 4) (ht : 60 ≤ t) (ht2 : t < 160) :
    ∃ (S : List Row) (l' : List D) (x : SV), S.length = n ∧ (S.map rowD).all isSong = true ∧ dOk k l' ∧ forK fsS (.nm 6) bodyS ((List.range n).map fun k : Nat => .int (k : Int)) (stS l m t [] .no) = .nx (stS l' m t (S.map rowD) x) := by
  obtain ⟨r', ⟨S, l', x, h1, h2, h3, hx, h4⟩, h5⟩ := forK_nx (fs := fsS) (tg := .nm 6) (body := bodyS) (fun j r => ∃ (S : List Row) (l' : List D) (x : SV), S.length = j ∧ (S.map rowD).all isSong = true ∧ dOk (k + 5 * (n - j)) l' ∧ okX x ∧ r = stS l' m t (S.map rowD) x)
    ((List.range n).map fun k : Nat => .int (k : Int)) 0 (stS l m t [] .no) ⟨[], l, .no, rfl, rfl, h, .inl rfl, rfl⟩ (by
      rintro j y hy r ⟨S, l', x, h1, h2, h3, hx, rfl⟩
      rw [List.getElem?_map, Option.map_eq_some_iff] at hy
      obtain ⟨k', hk, rfl⟩ := hy
      obtain ⟨hkl, hke⟩ := List.getElem?_eq_some_iff.mp hk
      rw [List.length_range] at hkl
      rw [List.getElem_range] at hke
      subst hke
      rw [Nat.zero_add] at h1 h3 ⊢
      obtain ⟨s, l2, g1, g2, g3⟩ := stepS (k := k + 5 * (n - (j + 1))) (L := S.map rowD) (m := m) (t := t) (x := .val (.int (j : Int))) (dOk_le h3 (by omega)) hm hm2 ht ht2 (by rw [List.length_map]; omega)
      refine ⟨_, _, set_x rfl hx, g3, ⟨S ++ [s], l2, .val (.int j), by rw [List.length_append, h1]; rfl, ?_, g2, .inr ⟨_, rfl⟩, by rw [List.map_append]; rfl⟩⟩
      rw [List.map_append, List.all_append, h2]
      simp [g1])
  rw [List.length_map, List.length_range, Nat.zero_add] at h1 h3
  subst h4
  exact ⟨S, l', x, h1, h2, dOk_le h3 (by omega), h5⟩
theorem s_songs_fn (h : dOk (k + 43) l) : ∃ (S : List Row) (l' : List D), areSongs (songsD S) = true ∧ S.length ≤ 8 ∧ 0 < S.length ∧ dOk k l' ∧ f__law_s_songs.fn [.lent l, .val (.int 8), .val (.int 60)] = .ok (.dat (songsD S)) [.lent l', .val (.int 8), .val (.int 60)] := by
  obtain ⟨v1, l1, b1, h, e1⟩ := rollL (r := [.lent l, .val (.int 8), .val (.int 60), .no, .no, .no, .no]) (k := k + 42) (fs := fsS) (i := 0) (n := 4) rfl rfl h (by omega) (by omega)
  obtain ⟨v2, l2, b2, h, e2⟩ := rollL (r := [.lent l1, .val (.int 8), .val (.int 60), .no, .no, .no, .no]) (k := k + 41) (fs := fsS) (i := 0) (n := 100) rfl rfl h (by omega) (by omega)
  obtain ⟨v3, l3, b3, h, e3⟩ := rollV (r := stS l2 (1 + v1) (60 + v2) [] .no) (k := k + 40) (fs := fsS) (i := 0) (j := 1) (n := 8) rfl rfl rfl h (by omega) (by omega)
  obtain ⟨S, l', x, h1, h2, h3, h4⟩ := loopS (n := 1 + v3) (k := k) (m := 1 + v1) (t := 60 + v2) (by omega) (dOk_le h (by omega)) (by omega) (by omega) (by omega) (by omega)
  have hp : par2K 3 false 4 false (.d (.int (1 + v1))) (.d (.int (60 + v2))) ([.lent l2, .val (.int 8), .val (.int 60), .no, .no, .no, .no] : Sl) = .nx [.lent l2, .val (.int 8), .val (.int 60), .val (.int (1 + v1)), .val (.int (60 + v2)), .no, .no] := par2K_ok rfl rfl
  have hs0 : setK 5 true (.f []) ([.lent l2, .val (.int 8), .val (.int 60), .val (.int (1 + v1)), .val (.int (60 + v2)), .no, .no] : Sl) = .nx (stS l2 (1 + v1) (60 + v2) [] .no) := setK_own rfl
  have hr : rngW1 (.d (.int (1 + v3))) (stS l3 (1 + v1) (60 + v2) [] .no) = .ok ((List.range (1 + v3)).map fun j : Nat => .int (j : Int)) (stS l3 (1 + v1) (60 + v2) [] .no) := by
    rw [rngW1_ok (by omega) (by omega), rangeD_map0, show ((1 : Int) + v3).toNat = 1 + v3 by omega]
  refine ⟨S, l', ?_, by omega, by omega, h3, ?_⟩
  · simp only [areSongs, songsD, List.length_map, Bool.and_eq_true, decide_eq_true_eq]
    exact ⟨⟨by omega, by omega⟩, h2⟩
  · rw [show f__law_s_songs.fn = runB 7 fsS b__law_s_songs from rfl, runB_eq]
    show endK _ (exSs fsS b__law_s_songs [.lent l, .val (.int 8), .val (.int 60), .no, .no, .no, .no]) = _
    unfold b__law_s_songs
    rw [exs_cons, ex_par2, ev_bin, ev_lit, bind_ok, e1, bind_ok, add_i, sr_ok, List.set_cons_zero, ev_bin, ev_lit, bind_ok, e2, bind_ok, add_i, sr_ok, List.set_cons_zero, hp, seqK_nx, exs_cons, ex_set, ev_lst, evs_nil, bind_ok, lst_nil, sr_ok, hs0, seqK_nx, exs_cons, ex_for, evi_rng1, ev_bin, ev_lit, bind_ok, e3, bind_ok, add_i, bind_ok, List.set_cons_zero, hr, sr_ok, h4, seqK_nx, exs_cons, ex_ret, ev_blt, evs_one, ev_own (show (stS l' (1 + v1) (60 + v2) (S.map rowD) x)[5]? = some (.own (S.map rowD)) from rfl), bind_ok, bind_ok, tup_own rfl, sr_ok, retS_d]
    rfl
theorem c_s_songs (h0 : r[0]? = some (.lent l)) (h : dOk (k + 43) l) : ∃ (S : List Row) (l' : List D), areSongs (songsD S) = true ∧ S.length ≤ 8 ∧ 0 < S.length ∧ dOk k l' ∧ callF f__law_s_songs [.s 0, .d (.int 8), .d (.int 60)] r = .ok (.d (songsD S)) (r.set 0 (.lent l')) := by
  obtain ⟨S, l', h1, h2, h3, h4, h5⟩ := s_songs_fn h
  exact ⟨S, l', h1, h2, h3, h4, call_len (xs := [.int 8, .int 60]) rfl rfl h0 h5⟩
end
end KL
namespace KL
open PySem SR
/-! ### a drawn good list -/
section
variable {l : List D} {S : List Row} {R : Row} {p : List Nat} {r : Sl} {k : Nat}
theorem neq_nil {r : Sl} {l : List D} (h : flatL 7 l = true) : cmpK .NotEq (.d (.list l)) (.f []) r = .ok (.d (.bool (!l.isEmpty))) r := by
  refine cmpK_ok rfl rfl ?_
  rw [show cmpD .NotEq (.list l) (.list []) = (eqD (.list l) (.list [])).map (!·) from rfl, eqD_ok (flat_l h) rfl, eqv_nil]
  rfl
theorem flat_fol {n : Nat} : flatL n (folB S R p) = true := flat_ints fun x hx => by
  obtain ⟨i, -, rfl⟩ := List.mem_map.mp hx
  exact ⟨_, rfl⟩
theorem fol_len : (folB S R p).length ≤ S.length := by
  unfold folB
  rw [List.length_map]
  have := List.length_filter_le (nextB S R p) (List.range S.length)
  rwa [List.length_range] at this
theorem fol_at {v : Nat} {x : D} (h : (folB S R p)[v]? = some x) : ∃ j : Nat, j < S.length ∧ nextB S R p j = true ∧ x = .int (j : Int) := by
  obtain ⟨j, hj, rfl⟩ := List.mem_map.mp (List.mem_of_getElem? h)
  obtain ⟨h1, h2⟩ := List.mem_filter.mp hj
  exact ⟨j, List.mem_range.mp h1, h2, rfl⟩
abbrev fsP : List FI := [f__law_s_next, f__law_pick]
abbrev stP (l : List D) (S : List Row) (R : Row) (n : Int) (p : List Nat) (x5 x6 : SV) : Sl := [.lent l, .val (songsD S), .val (rowD R), .val (.int n), .val (plD p), x5, x6]
abbrev bodyP : CSs := .cons (.set 6 false (.call 0 (.cons (.var 1) (.cons (.var 2) (.cons (.var 4) .nil))))) (.cons (.ife (.cmp .NotEq (.var 6) (.lst (.nil))) (.cons (.set 4 false (.bin .Add (.var 4) (.tup (.cons (.call 1 (.cons (.var 0) (.cons (.var 6) .nil))) .nil)))) .nil) (.nil)) .nil)
theorem stepP {n : Int} {x5 x6 : SV} (hR : okR R) (hp : okP S p) (hg : allT S R p = []) (hl : p.length ≤ 100) (hS : S.length ≤ 8) (h6 : okX x6) (h : dOk (k + 1) l) :
    ∃ (p' : List Nat) (l' : List D) (x6' : SV), okX x6' ∧ okP S p' ∧ allT S R p' = [] ∧ p'.length ≤ p.length + 1 ∧ dOk k l' ∧ exSs fsP bodyP (stP l S R n p x5 x6) = .nx (stP l' S R n p' x5 x6') := by
  have hcall := c_s_next (r := stP l S R n p x5 x6) hR hp hg (by omega) hS
  have hset : setK 6 false (.f (folB S R p)) (stP l S R n p x5 x6) = .nx (stP l S R n p x5 (.val (.list (folB S R p)))) := by
    rcases h6 with rfl | ⟨_, rfl⟩
    · exact setK_nof rfl
    · exact setK_ref rfl
  have g1 : (stP l S R n p x5 x6)[1]? = some (.val (songsD S)) := rfl
  have g2 : (stP l S R n p x5 x6)[2]? = some (.val (rowD R)) := rfl
  have g4 : (stP l S R n p x5 x6)[4]? = some (.val (plD p)) := rfl
  have hne := fun r => neq_nil (r := r) (l := folB S R p) flat_fol
  have q0 : (stP l S R n p x5 (.val (.list (folB S R p))))[0]? = some (.lent l) := rfl
  have q4 : (stP l S R n p x5 (.val (.list (folB S R p))))[4]? = some (.val (plD p)) := rfl
  have q6 : (stP l S R n p x5 (.val (.list (folB S R p))))[6]? = some (.val (.list (folB S R p))) := rfl
  cases he : (folB S R p).isEmpty with
  | true =>
    refine ⟨p, l, .val (.list (folB S R p)), .inr ⟨_, rfl⟩, hp, hg, by omega, dOk_le h (by omega), ?_⟩
    rw [exs_cons, ex_set, ev_call _ (show fsP[0]? = some f__law_s_next from rfl), evs_cons, ev_val g1, bind_ok, evs_cons, ev_val g2, bind_ok, evs_one, ev_val g4, bind_ok, bind_ok, bind_ok, bind_ok, stl_d, stl_d, hcall, sr_ok, hset, seqK_nx, exs_cons, ex_if, ev_cmp, ev_val q6, bind_ok, ev_lst, evs_nil, bind_ok, lst_nil, bind_ok, hne, sr_ok, he, ifK_b, Bool.not_true, if_neg (by simp), exs_nil, seqK_nx, exs_nil]
  | false =>
    have hlen := fol_len (S := S) (R := R) (p := p)
    have hpos : 0 < (folB S R p).length := by
      cases hh : folB S R p with
      | nil => rw [hh] at he; cases he
      | cons _ _ => simp
    obtain ⟨v, x, l', hx, hd, hc⟩ := c_pick (ws := [.d (.list (folB S R p))]) (r := stP l S R n p x5 (.val (.list (folB S R p)))) rfl q0 h hpos (by omega)
    obtain ⟨j, hj, hnx, rfl⟩ := fol_at hx
    have ha := add_1 (r := stP l' S R n p x5 (.val (.list (folB S R p)))) (v := p.map fun i : Nat => (.int (i : Int) : D)) (x := .int (j : Int)) (by rw [List.length_map]; omega)
    have hs2 : setK 4 false (.d (plD (p ++ [j]))) (stP l' S R n p x5 (.val (.list (folB S R p)))) = .nx (stP l' S R n (p ++ [j]) x5 (.val (.list (folB S R p)))) := setK_re rfl
    rw [← pl_snoc] at ha
    refine ⟨p ++ [j], l', .val (.list (folB S R p)), .inr ⟨_, rfl⟩, okP_snoc hp hj, (allT_snoc hR).mpr ⟨hg, hnx⟩, by rw [List.length_append]; simp, hd, ?_⟩
    rw [exs_cons, ex_set, ev_call _ (show fsP[0]? = some f__law_s_next from rfl), evs_cons, ev_val g1, bind_ok, evs_cons, ev_val g2, bind_ok, evs_one, ev_val g4, bind_ok, bind_ok, bind_ok, bind_ok, stl_d, stl_d, hcall, sr_ok, hset, seqK_nx, exs_cons, ex_if, ev_cmp, ev_val q6, bind_ok, ev_lst, evs_nil, bind_ok, lst_nil, bind_ok, hne, sr_ok, he, ifK_b, Bool.not_false, if_pos rfl,
      exs_cons, ex_set, ev_bin, ev_val q4, bind_ok, ev_tup, evs_one, ev_call _ (show fsP[1]? = some f__law_pick from rfl), evs_cons, ev_lent q0, bind_ok, evs_one, ev_val q6, bind_ok, bind_ok, bind_ok, stl_s, hc, bind_ok, bind_ok, tup1, bind_ok, List.set_cons_zero]
    rw [show binK .Add (.d (plD p)) (.d (.tuple [.int (j : Int)])) (stP l' S R n p x5 (.val (.list (folB S R p)))) = _ from ha, sr_ok, hs2, seqK_nx, exs_nil, seqK_nx, exs_nil]
theorem okP_nil : okP S [] := fun x hi => absurd hi List.not_mem_nil
theorem s_list_fn {n : Nat} (hR : okR R) (hS : S.length ≤ 8) (hn : n ≤ 50) (h : dOk (k + n) l) : ∃ (p : List Nat) (l' : List D), okP S p ∧ allT S R p = [] ∧ p.length ≤ n ∧ dOk k l' ∧ f__law_s_list.fn [.lent l, .val (songsD S), .val (rowD R), .val (.int n)] = .ok (.dat (plD p)) [.lent l', .val (songsD S), .val (rowD R), .val (.int n)] := by
  obtain ⟨r', ⟨p, l', x5, x6, h1, h2, h3, h4, h5, h6, h7⟩, h8⟩ := forK_nx (fs := fsP) (tg := .nm 5) (body := bodyP) (fun j r => ∃ (p : List Nat) (l' : List D) (x5 x6 : SV), okP S p ∧ allT S R p = [] ∧ p.length ≤ j ∧ dOk (k + (n - j)) l' ∧ okX x5 ∧ okX x6 ∧ r = stP l' S R n p x5 x6)
    ((List.range n).map fun k : Nat => .int (k : Int)) 0 (stP l S R n [] .no .no) ⟨[], l, .no, .no, okP_nil, rfl, Nat.le_refl _, h, .inl rfl, .inl rfl, rfl⟩ (by
      rintro j y hy r ⟨p, l', x5, x6, h1, h2, h3, h4, h5, h6, rfl⟩
      rw [List.getElem?_map, Option.map_eq_some_iff] at hy
      obtain ⟨k', hk, rfl⟩ := hy
      obtain ⟨hkl, hke⟩ := List.getElem?_eq_some_iff.mp hk
      rw [List.length_range] at hkl
      rw [List.getElem_range] at hke
      subst hke
      rw [Nat.zero_add] at h3 h4 ⊢
      obtain ⟨p', l2, x6', g1, g2, g3, g4, g5, g6⟩ := stepP (k := k + (n - (j + 1))) (n := n) (x5 := .val (.int (j : Int))) hR h1 h2 (by omega) hS h6 (dOk_le h4 (by omega))
      exact ⟨_, _, set_x rfl h5, g6, ⟨p', l2, _, x6', g2, g3, by omega, g5, .inr ⟨_, rfl⟩, g1, rfl⟩⟩)
  rw [List.length_map, List.length_range, Nat.zero_add] at h3 h4
  subst h7
  refine ⟨p, l', h1, h2, h3, dOk_le h4 (by omega), ?_⟩
  rw [show f__law_s_list.fn = runB 7 fsP b__law_s_list from rfl, runB_eq]
  show endK _ (exSs fsP b__law_s_list [.lent l, .val (songsD S), .val (rowD R), .val (.int n), .no, .no, .no]) = _
  have ht : tupK [] ([.lent l, .val (songsD S), .val (rowD R), .val (.int n), .no, .no, .no] : Sl) = .ok (.d (.tuple [])) [.lent l, .val (songsD S), .val (rowD R), .val (.int n), .no, .no, .no] := tupK_ok rfl (by simp)
  have hs0 : setK 4 false (.d (.tuple [])) ([.lent l, .val (songsD S), .val (rowD R), .val (.int n), .no, .no, .no] : Sl) = .nx (stP l S R n [] .no .no) := setK_no rfl
  have hr : rngW1 (.d (.int (n : Int))) (stP l S R n [] .no .no) = .ok ((List.range n).map fun j : Nat => .int (j : Int)) (stP l S R n [] .no .no) := by
    rw [rngW1_ok (by omega) (by omega), rangeD_map0, Int.toNat_natCast]
  unfold b__law_s_list
  rw [exs_cons, ex_set, ev_tup, evs_nil, bind_ok, ht, sr_ok, hs0, seqK_nx, exs_cons, ex_for, evi_rng1, ev_val (show (stP l S R n [] .no .no)[3]? = some (.val (.int n)) from rfl), bind_ok, hr, sr_ok, h8, seqK_nx, exs_cons, ex_ret, ev_val (show (stP l' S R n p x5 x6)[4]? = some (.val (plD p)) from rfl), sr_ok, retS_d]
  rfl
theorem c_s_list {n : Nat} (hR : okR R) (hS : S.length ≤ 8) (hn : n ≤ 50) (h0 : r[0]? = some (.lent l)) (h : dOk (k + n) l) : ∃ (p : List Nat) (l' : List D), okP S p ∧ allT S R p = [] ∧ p.length ≤ n ∧ dOk k l' ∧ callF f__law_s_list [.s 0, .d (songsD S), .d (rowD R), .d (.int n)] r = .ok (.d (plD p)) (r.set 0 (.lent l')) := by
  obtain ⟨p, l', h1, h2, h3, h4, h5⟩ := s_list_fn hR hS hn h
  exact ⟨p, l', h1, h2, h3, h4, call_len (xs := [songsD S, rowD R, .int n]) rfl rfl h0 h5⟩
end
end KL
namespace KL
open PySem SR
/-! ### wrong songs, wrong rules -/
section
variable {l : List D} {r : Sl} {k : Nat}
def badL : List D := [.none, .tuple [], .list [.tuple [.int 0, .int 0, .int 100, .int 0, .int 1]], .tuple [.tuple [.int 10, .int 0, .int 100, .int 0, .int 1]], .tuple [.tuple [.int 0, .int 6, .int 100, .int 0, .int 1]], .tuple [.tuple [.int 0, .int 0, .int 39, .int 0, .int 1]], .tuple [.tuple [.int 0, .int 0, .int 100, .int 12, .int 1]], .tuple [.tuple [.int 0, .int 0, .int 100, .int 0, .int 0]], .tuple [.tuple [.int 0, .int 0, .int 100, .int 0]]]
theorem badL_all : badL.all (fun x => !areSongs x) = true := by decide +kernel
theorem bad_lst : evE [f__law_pick] (.lst (.cons (.lit (.none)) (.cons (.tup (.nil)) (.cons (.lst (.cons (.tup (.cons (.lit (.int 0)) (.cons (.lit (.int 0)) (.cons (.lit (.int 100)) (.cons (.lit (.int 0)) (.cons (.lit (.int 1)) .nil)))))) .nil)) (.cons (.tup (.cons (.tup (.cons (.lit (.int 10)) (.cons (.lit (.int 0)) (.cons (.lit (.int 100)) (.cons (.lit (.int 0)) (.cons (.lit (.int 1)) .nil)))))) .nil)) (.cons (.tup (.cons (.tup (.cons (.lit (.int 0)) (.cons (.lit (.int 6)) (.cons (.lit (.int 100)) (.cons (.lit (.int 0)) (.cons (.lit (.int 1)) .nil)))))) .nil)) (.cons (.tup (.cons (.tup (.cons (.lit (.int 0)) (.cons (.lit (.int 0)) (.cons (.lit (.int 39)) (.cons (.lit (.int 0)) (.cons (.lit (.int 1)) .nil)))))) .nil)) (.cons (.tup (.cons (.tup (.cons (.lit (.int 0)) (.cons (.lit (.int 0)) (.cons (.lit (.int 100)) (.cons (.lit (.int 12)) (.cons (.lit (.int 1)) .nil)))))) .nil)) (.cons (.tup (.cons (.tup (.cons (.lit (.int 0)) (.cons (.lit (.int 0)) (.cons (.lit (.int 100)) (.cons (.lit (.int 0)) (.cons (.lit (.int 0)) .nil)))))) .nil)) (.cons (.tup (.cons (.tup (.cons (.lit (.int 0)) (.cons (.lit (.int 0)) (.cons (.lit (.int 100)) (.cons (.lit (.int 0)) .nil))))) .nil)) .nil)))))))))) [.lent l] = .ok (.f badL) [.lent l] := by
  rfl
theorem c_s_bad (h0 : r[0]? = some (.lent l)) (h : dOk (k + 1) l) : ∃ (x : D) (l' : List D), areSongs x = false ∧ dOk k l' ∧ callF f__law_s_bad [.s 0] r = .ok (.d x) (r.set 0 (.lent l')) := by
  obtain ⟨v, x, l', hx, hd, hc⟩ := c_pick (xs := badL) (ws := [.f badL]) (r := [.lent l]) rfl rfl h (by decide) (by decide)
  refine ⟨x, l', ?_, hd, ?_⟩
  · have := List.all_eq_true.mp badL_all x (List.mem_of_getElem? hx)
    simpa using this
  · refine call_len (xs := []) (v := .dat x) (as' := []) rfl rfl h0 ?_
    rw [show f__law_s_bad.fn = runB 1 [f__law_pick] b__law_s_bad from rfl, runB_eq]
    show endK _ (exSs [f__law_pick] b__law_s_bad [.lent l]) = _
    unfold b__law_s_bad
    rw [exs_cons, ex_ret, ev_call _ (show [f__law_pick][0]? = some f__law_pick from rfl), evs_cons, ev_lent (show ([.lent l] : Sl)[0]? = some (.lent l) from rfl), bind_ok, evs_one, bad_lst, bind_ok, bind_ok, bind_ok, stl_s, hc, sr_ok, List.set_cons_zero, retS_d]
    rfl
def oddL : List D := [.none, .tuple [], .tuple [.int 0, .int 1, .int 1, .int 0, .int 0], .tuple [.int 5, .int 1, .int 1, .int 0, .int 0], .tuple [.int 1, .int 1, .int 1, .int 181, .int 0], .tuple [.int 1, .int 1, .int 1, .int 0, .int 7], .tuple [.int 1, .int 1, .int 1, .int 0], .list [.int 1, .int 1, .int 1, .int 0, .int 0], .tuple [.bool true, .int 1, .int 1, .int 0, .int 0]]
theorem oddL_all : oddL.all (fun x => !areRules x) = true := by decide +kernel
theorem odd_lst : evE [f__law_pick] (.lst (.cons (.lit (.none)) (.cons (.tup (.nil)) (.cons (.tup (.cons (.lit (.int 0)) (.cons (.lit (.int 1)) (.cons (.lit (.int 1)) (.cons (.lit (.int 0)) (.cons (.lit (.int 0)) .nil)))))) (.cons (.tup (.cons (.lit (.int 5)) (.cons (.lit (.int 1)) (.cons (.lit (.int 1)) (.cons (.lit (.int 0)) (.cons (.lit (.int 0)) .nil)))))) (.cons (.tup (.cons (.lit (.int 1)) (.cons (.lit (.int 1)) (.cons (.lit (.int 1)) (.cons (.lit (.int 181)) (.cons (.lit (.int 0)) .nil)))))) (.cons (.tup (.cons (.lit (.int 1)) (.cons (.lit (.int 1)) (.cons (.lit (.int 1)) (.cons (.lit (.int 0)) (.cons (.lit (.int 7)) .nil)))))) (.cons (.tup (.cons (.lit (.int 1)) (.cons (.lit (.int 1)) (.cons (.lit (.int 1)) (.cons (.lit (.int 0)) .nil))))) (.cons (.lst (.cons (.lit (.int 1)) (.cons (.lit (.int 1)) (.cons (.lit (.int 1)) (.cons (.lit (.int 0)) (.cons (.lit (.int 0)) .nil)))))) (.cons (.tup (.cons (.lit (.bool true)) (.cons (.lit (.int 1)) (.cons (.lit (.int 1)) (.cons (.lit (.int 0)) (.cons (.lit (.int 0)) .nil)))))) .nil)))))))))) [.lent l] = .ok (.f oddL) [.lent l] := by
  rfl
theorem c_s_odd (h0 : r[0]? = some (.lent l)) (h : dOk (k + 1) l) : ∃ (x : D) (l' : List D), areRules x = false ∧ dOk k l' ∧ callF f__law_s_odd [.s 0] r = .ok (.d x) (r.set 0 (.lent l')) := by
  obtain ⟨v, x, l', hx, hd, hc⟩ := c_pick (xs := oddL) (ws := [.f oddL]) (r := [.lent l]) rfl rfl h (by decide) (by decide)
  refine ⟨x, l', ?_, hd, ?_⟩
  · have := List.all_eq_true.mp oddL_all x (List.mem_of_getElem? hx)
    simpa using this
  · refine call_len (xs := []) (v := .dat x) (as' := []) rfl rfl h0 ?_
    rw [show f__law_s_odd.fn = runB 1 [f__law_pick] b__law_s_odd from rfl, runB_eq]
    show endK _ (exSs [f__law_pick] b__law_s_odd [.lent l]) = _
    unfold b__law_s_odd
    rw [exs_cons, ex_ret, ev_call _ (show [f__law_pick][0]? = some f__law_pick from rfl), evs_cons, ev_lent (show ([.lent l] : Sl)[0]? = some (.lent l) from rfl), bind_ok, evs_one, odd_lst, bind_ok, bind_ok, bind_ok, stl_s, hc, sr_ok, List.set_cons_zero, retS_d]
    rfl
end
end KL
namespace KL
open PySem SR
/-! ### refusals -/
section
variable {l : List D} {r : Sl} {k : Nat} {S : List Row} {R : Row} {fs : List FI} {f : FI} {x y z n : D} {a b c i : Nat}
theorem rf3 (hi : fs[i]? = some f) (ha : r[a]? = some (.val x)) (hb : r[b]? = some (.val y)) (hc : r[c]? = some (.val z)) (h : callF f [.d x, .d y, .d z] r = .err 0 n r) : evE fs (.refused (.call i (.cons (.var a) (.cons (.var b) (.cons (.var c) .nil))))) r = .ok (.d n) r := by
  rw [ev_refused, ev_call _ hi, evs_cons, ev_val ha, bind_ok, evs_cons, ev_val hb, bind_ok, evs_one, ev_val hc, bind_ok, bind_ok, bind_ok, bind_ok, stl_d, stl_d, h, refK_err]
theorem rf2 (hi : fs[i]? = some f) (ha : r[a]? = some (.val x)) (hb : r[b]? = some (.val y)) (h : callF f [.d x, .d y] r = .err 0 n r) : evE fs (.refused (.call i (.cons (.var a) (.cons (.var b) .nil)))) r = .ok (.d n) r := by
  rw [ev_refused, ev_call _ hi, evs_cons, ev_val ha, bind_ok, evs_one, ev_val hb, bind_ok, bind_ok, bind_ok, stl_d, h, refK_err]
def wrongL (n : Nat) : List D := [.none, .list [.int 0], .tuple [.int (n : Int)], .tuple [.int (-1)], .tuple [.bool true], .tuple (List.replicate 301 (.int 0))]
theorem wrong_all {n : Nat} {v : Nat} {x : D} (h : (wrongL n)[v]? = some x) : isList n x 300 = false := by
  rcases v with _ | _ | _ | _ | _ | _ | v
  · cases h; rfl
  · cases h; rfl
  · cases h; simp [isList, areIn, isIn]; omega
  · cases h; simp [isList, areIn, isIn]
  · cases h; simp [isList, areIn, isIn]
  · cases h; simp only [isList, areIn, List.length_replicate]; rfl
  · simp [wrongL] at h
theorem mul301 : binK .Mult (.d (.tuple [.int 0])) (.d (.int 301)) r = .ok (.d (.tuple (List.replicate 301 (.int 0)))) r := binK_ok rfl rfl (by rfl)
abbrev eW : CE := .lst (.cons (.lit (.none)) (.cons (.lst (.cons (.lit (.int 0)) .nil)) (.cons (.tup (.cons (.blt .len (.cons (.var 1) .nil)) .nil)) (.cons (.tup (.cons (.neg (.lit (.int 1))) .nil)) (.cons (.tup (.cons (.lit (.bool true)) .nil)) (.cons (.bin .Mult (.tup (.cons (.lit (.int 0)) .nil)) (.lit (.int 301))) .nil))))))
theorem wrong_lst (h1 : r[1]? = some (.val (songsD S))) : evE fs eW r = .ok (.f (wrongL S.length)) r := by
  have hl0 : lstK [.d (.int 0)] r = .ok (.f [.int 0]) r := lstK_ok rfl (by simp)
  have hl : lstK [.d .none, .d (.list [.int 0]), .d (.tuple [.int (S.length : Int)]), .d (.tuple [.int (-1)]), .d (.tuple [.bool true]), .d (.tuple (List.replicate 301 (.int 0)))] r = .ok (.f (wrongL S.length)) r := lstK_ok (xs := wrongL S.length) rfl (by show 6 ≤ 16777216; omega)
  rw [ev_lst, evs_cons, ev_lit, bind_ok, evs_cons, ev_lst, evs_one, ev_lit, bind_ok, bind_ok, hl0, bind_ok, evs_cons, ev_tup, evs_one, ev_blt, evs_one, ev_val h1, bind_ok, bind_ok, songs_len, bind_ok, bind_ok, tup1, bind_ok, evs_cons, ev_tup, evs_one, ev_neg, ev_lit, bind_ok, negK_i, bind_ok, bind_ok, tup1, bind_ok, evs_cons, ev_tup, evs_one, ev_lit, bind_ok, bind_ok, tup1, bind_ok, evs_one, ev_bin, ev_tup, evs_one, ev_lit, bind_ok, bind_ok, tup1, bind_ok, ev_lit, bind_ok, mul301, bind_ok, bind_ok, bind_ok, bind_ok, bind_ok, bind_ok, stl_d, stl_f, stl_d, stl_d, stl_d, bind_ok, hl]
end
end KL
namespace KL
open PySem SR
section
variable {l : List D} {r : Sl} {k : Nat} {S : List Row} {R : Row} {bad odd wrong : D}
abbrev fsZ : List FI := [f__law_pick, f__law_s_odd, f__law_s_bad, f_time_of, f_faults, f_is_good, f_key_steps, f_can_follow]
abbrev stZ (l : List D) (S : List Row) (R : Row) (bad odd wrong : D) (x : SV) : Sl := [.lent l, .val (songsD S), .val (rowD R), .val bad, .val odd, .val wrong, x]
abbrev n6 : List D := [.str "songs", .str "rules", .str "played", .str "played", .str "songs", .str "played"]
abbrev n4 : List D := [.str "rules", .str "played", .str "one", .str "two"]
abbrev e6 : CE := .lst (.cons (.refused (.call 5 (.cons (.var 3) (.cons (.var 4) (.cons (.var 5) .nil))))) (.cons (.refused (.call 5 (.cons (.var 1) (.cons (.var 4) (.cons (.var 5) .nil))))) (.cons (.refused (.call 5 (.cons (.var 1) (.cons (.var 2) (.cons (.var 5) .nil))))) (.cons (.refused (.call 4 (.cons (.var 1) (.cons (.var 2) (.cons (.var 5) .nil))))) (.cons (.refused (.call 3 (.cons (.var 3) (.cons (.var 5) .nil)))) (.cons (.refused (.call 3 (.cons (.var 1) (.cons (.var 5) .nil)))) .nil))))))
theorem six {st : Sl} (g1 : st[1]? = some (.val (songsD S))) (g2 : st[2]? = some (.val (rowD R))) (g3 : st[3]? = some (.val bad)) (g4 : st[4]? = some (.val odd)) (g5 : st[5]? = some (.val wrong))
    (h1 : areSongs (songsD S) = true) (h2 : areRules (rowD R) = true) (b1 : areSongs bad = false) (b2 : areRules odd = false) (b3 : isList S.length wrong 300 = false) :
    evE fsZ e6 st = .ok (.f n6) st := by
  have c1 := rf3 (fs := fsZ) (i := 5) (f := f_is_good) rfl g3 g4 g5 (e_is_good fun r => e_demand_list1 b1)
  have c2 := rf3 (fs := fsZ) (i := 5) (f := f_is_good) rfl g1 g4 g5 (e_is_good fun r => e_demand_list2 h1 b2)
  have c3 := rf3 (fs := fsZ) (i := 5) (f := f_is_good) rfl g1 g2 g5 (e_is_good fun r => e_demand_list3 h1 h2 b3)
  have c4 := rf3 (fs := fsZ) (i := 4) (f := f_faults) rfl g1 g2 g5 (e_faults fun r => e_demand_list3 h1 h2 b3)
  have c5 := rf2 (fs := fsZ) (i := 3) (f := f_time_of) rfl g3 g5 (e_time_of1 b1)
  have c6 := rf2 (fs := fsZ) (i := 3) (f := f_time_of) rfl g1 g5 (e_time_of2 h1 b3)
  have hl : lstK [.d (.str "songs"), .d (.str "rules"), .d (.str "played"), .d (.str "played"), .d (.str "songs"), .d (.str "played")] st = .ok (.f n6) st := lstK_ok (xs := n6) rfl (by show 6 ≤ 16777216; omega)
  rw [ev_lst, evs_cons, c1, bind_ok, evs_cons, c2, bind_ok, evs_cons, c3, bind_ok, evs_cons, c4, bind_ok, evs_cons, c5, bind_ok, evs_one, c6, bind_ok, bind_ok, bind_ok, bind_ok, bind_ok, bind_ok]
  simp only [stl_d, bind_ok]
  exact hl
abbrev e4 : CE := .lst (.cons (.refused (.call 7 (.cons (.var 1) (.cons (.var 4) (.cons (.var 5) .nil))))) (.cons (.refused (.call 7 (.cons (.var 1) (.cons (.var 2) (.cons (.var 5) .nil))))) (.cons (.refused (.call 6 (.cons (.lit (.int 12)) (.cons (.neg (.lit (.int 1))) .nil)))) (.cons (.refused (.call 6 (.cons (.lit (.int 0)) (.cons (.call 0 (.cons (.var 0) (.cons (.lst (.cons (.neg (.lit (.int 1))) (.cons (.lit (.int 12)) (.cons (.lit (.none)) (.cons (.lit (.bool true)) .nil))))) .nil))) .nil)))) .nil))))
theorem four {st : Sl} (g0 : st[0]? = some (.lent l)) (hd : dOk (k + 1) l) (g1 : st[1]? = some (.val (songsD S))) (g2 : st[2]? = some (.val (rowD R))) (g4 : st[4]? = some (.val odd)) (g5 : st[5]? = some (.val wrong))
    (h1 : areSongs (songsD S) = true) (h2 : areRules (rowD R) = true) (b2 : areRules odd = false) (b3 : isList S.length wrong 300 = false) :
    ∃ l', dOk k l' ∧ evE fsZ e4 st = .ok (.f n4) (st.set 0 (.lent l')) := by
  have c1 := rf3 (fs := fsZ) (i := 7) (f := f_can_follow) rfl g1 g4 g5 (e_can_follow fun r => e_demand_good2 h1 b2)
  have c2 := rf3 (fs := fsZ) (i := 7) (f := f_can_follow) rfl g1 g2 g5 (e_can_follow fun r => e_demand_good3 h1 h2 b3)
  have c3 : callF f_key_steps [.d (.int 12), .d (.int (-1))] st = .err 0 (.str "one") st := e_key_steps1 rfl
  have hp : lstK [.d (.int (-1)), .d (.int 12), .d .none, .d (.bool true)] st = .ok (.f [.int (-1), .int 12, .none, .bool true]) st := lstK_ok rfl (by simp)
  obtain ⟨v, x, l', hx, hd', hc⟩ := c_pick (xs := [.int (-1), .int 12, .none, .bool true]) (ws := [.f [.int (-1), .int 12, .none, .bool true]]) rfl g0 hd (by simp) (by simp)
  have hx2 : isIn x 0 11 = false := by
    rcases v with _ | _ | _ | _ | v
    · cases hx; rfl
    · cases hx; rfl
    · cases hx; rfl
    · cases hx; rfl
    · simp at hx
  have c4 : callF f_key_steps [.d (.int 0), .d x] (st.set 0 (.lent l')) = .err 0 (.str "two") (st.set 0 (.lent l')) := e_key_steps2 rfl hx2
  have hl : ∀ st : Sl, lstK [.d (.str "rules"), .d (.str "played"), .d (.str "one"), .d (.str "two")] st = .ok (.f n4) st := fun st => lstK_ok (xs := n4) rfl (by show 4 ≤ 16777216; omega)
  refine ⟨l', hd', ?_⟩
  rw [ev_lst, evs_cons, c1, bind_ok, evs_cons, c2, bind_ok, evs_cons, ev_refused, ev_call _ (show fsZ[6]? = some f_key_steps from rfl), evs_cons, ev_lit, bind_ok, evs_one, ev_neg, ev_lit, bind_ok, negK_i, bind_ok, bind_ok, bind_ok, stl_d, c3, refK_err, bind_ok, evs_one, ev_refused, ev_call _ (show fsZ[6]? = some f_key_steps from rfl), evs_cons, ev_lit, bind_ok, evs_one, ev_call _ (show fsZ[0]? = some f__law_pick from rfl), evs_cons, ev_lent g0, bind_ok, evs_one, ev_lst, evs_cons, ev_neg, ev_lit, bind_ok, negK_i, bind_ok, evs_cons, ev_lit, bind_ok, evs_cons, ev_lit, bind_ok, evs_one, ev_lit, bind_ok, bind_ok, bind_ok, bind_ok, stl_d, stl_d, stl_d, bind_ok, hp, bind_ok, bind_ok, bind_ok, stl_s, hc, bind_ok, bind_ok, bind_ok, stl_d, c4, refK_err, bind_ok, bind_ok, bind_ok, bind_ok, stl_d, stl_d, stl_d, bind_ok, hl]
end
end KL
namespace KL
open PySem SR
section
variable {l : List D} {r : Sl} {k : Nat} {S : List Row} {R : Row} {bad odd wrong : D}
abbrev e10 : CE := .lst (.cons (.lit (.str "songs")) (.cons (.lit (.str "rules")) (.cons (.lit (.str "played")) (.cons (.lit (.str "played")) (.cons (.lit (.str "songs")) (.cons (.lit (.str "played")) (.cons (.lit (.str "rules")) (.cons (.lit (.str "played")) (.cons (.lit (.str "one")) (.cons (.lit (.str "two")) .nil))))))))))
theorem ten {st : Sl} : evE fsZ e10 st = .ok (.f (n6 ++ n4)) st := by
  simp only [ev_lst, evs_cons, evs_one, ev_lit, bind_ok, stl_d]
  exact lstK_ok (xs := n6 ++ n4) rfl (by show 10 ≤ 16777216; omega)
theorem add64 {st : Sl} : binK .Add (.d (.list n6)) (.f n4) st = .ok (.f (n6 ++ n4)) st := binK_ok rfl rfl (by simp [binD, addD, sizeLine])
theorem eq10 {st : Sl} : cmpK .Eq (.d (.list (n6 ++ n4))) (.f (n6 ++ n4)) st = .ok (.d (.bool true)) st := cmpK_ok rfl rfl (by decide +kernel)
theorem refuses_fn (h1 : areSongs (songsD S) = true) (h2 : areRules (rowD R) = true) (h : dOk (k + 4) l) : ∃ l', dOk k l' ∧ f__law_refuses.fn [.lent l, .val (songsD S), .val (rowD R)] = .ok (.dat (.bool true)) [.lent l', .val (songsD S), .val (rowD R)] := by
  obtain ⟨bad, l1, b1, h, c1⟩ := c_s_bad (k := k + 3) (r := [.lent l, .val (songsD S), .val (rowD R), .no, .no, .no, .no]) rfl h
  obtain ⟨odd, l2, b2, h, c2⟩ := c_s_odd (k := k + 2) (r := [.lent l1, .val (songsD S), .val (rowD R), .no, .no, .no, .no]) rfl h
  obtain ⟨v, wrong, l3, hx, h, c3⟩ := c_pick (k := k + 1) (xs := wrongL S.length) (ws := [.f (wrongL S.length)]) (r := [.lent l2, .val (songsD S), .val (rowD R), .no, .no, .no, .no]) rfl rfl h (by show 0 < 6; omega) (by show 6 < 100000; omega)
  have b3 := wrong_all hx
  have hw := wrong_lst (fs := fsZ) (S := S) (r := [.lent l2, .val (songsD S), .val (rowD R), .no, .no, .no, .no]) rfl
  have hs := six (st := stZ l3 S R bad odd wrong .no) rfl rfl rfl rfl rfl h1 h2 b1 b2 b3
  obtain ⟨l4, h, hf⟩ := four (k := k) (st := stZ l3 S R bad odd wrong (.val (.list n6))) rfl h rfl rfl rfl rfl h1 h2 b2 b3
  refine ⟨l4, h, ?_⟩
  have ht : tupK [.d bad, .d odd, .d wrong] ([.lent l3, .val (songsD S), .val (rowD R), .no, .no, .no, .no] : Sl) = .ok (.d (.tuple [bad, odd, wrong])) [.lent l3, .val (songsD S), .val (rowD R), .no, .no, .no, .no] := tupK_ok (xs := [bad, odd, wrong]) rfl (by show 3 ≤ 16777216; omega)
  have ha : asgK (.tp (.cons (.nm 3) (.cons (.nm 4) (.cons (.nm 5) .nil)))) (.d (.tuple [bad, odd, wrong])) ([.lent l3, .val (songsD S), .val (rowD R), .no, .no, .no, .no] : Sl) = .nx (stZ l3 S R bad odd wrong .no) := rfl
  have s1 : setK 6 false (.f n6) (stZ l3 S R bad odd wrong .no) = .nx (stZ l3 S R bad odd wrong (.val (.list n6))) := setK_nof rfl
  have s2 : setK 6 false (.f (n6 ++ n4)) (stZ l4 S R bad odd wrong (.val (.list n6))) = .nx (stZ l4 S R bad odd wrong (.val (.list (n6 ++ n4)))) := setK_ref rfl
  rw [show f__law_refuses.fn = runB 7 fsZ b__law_refuses from rfl, runB_eq]
  show endK _ (exSs fsZ (.cons (.asg (.tp (.cons (.nm 3) (.cons (.nm 4) (.cons (.nm 5) .nil)))) (.tup (.cons (.call 2 (.cons (.var 0) .nil)) (.cons (.call 1 (.cons (.var 0) .nil)) (.cons (.call 0 (.cons (.var 0) (.cons eW .nil))) .nil))))) (.cons (.set 6 false e6) (.cons (.set 6 false (.bin .Add (.var 6) e4)) (.cons (.ret (.cmp .Eq (.var 6) e10)) .nil)))) [.lent l, .val (songsD S), .val (rowD R), .no, .no, .no, .no]) = _
  rw [exs_cons, ex_asg, ev_tup, evs_cons, ev_call _ (show fsZ[2]? = some f__law_s_bad from rfl), evs_one, ev_lent (show ([.lent l, .val (songsD S), .val (rowD R), .no, .no, .no, .no] : Sl)[0]? = some (.lent l) from rfl), bind_ok, bind_ok, c1, bind_ok, List.set_cons_zero, evs_cons, ev_call _ (show fsZ[1]? = some f__law_s_odd from rfl), evs_one, ev_lent (show ([.lent l1, .val (songsD S), .val (rowD R), .no, .no, .no, .no] : Sl)[0]? = some (.lent l1) from rfl), bind_ok, bind_ok, c2, bind_ok, List.set_cons_zero, evs_one, ev_call _ (show fsZ[0]? = some f__law_pick from rfl), evs_cons, ev_lent (show ([.lent l2, .val (songsD S), .val (rowD R), .no, .no, .no, .no] : Sl)[0]? = some (.lent l2) from rfl), bind_ok, evs_one, hw, bind_ok, bind_ok, bind_ok, stl_s, c3, bind_ok, List.set_cons_zero, bind_ok, bind_ok]
  simp only [stl_d, bind_ok]
  rw [ht, sr_ok, ha, seqK_nx, exs_cons, ex_set, hs, sr_ok, s1, seqK_nx, exs_cons, ex_set, ev_bin, ev_val (show (stZ l3 S R bad odd wrong (.val (.list n6)))[6]? = some (.val (.list n6)) from rfl), bind_ok, hf, bind_ok, add64, sr_ok, List.set_cons_zero, s2, seqK_nx, exs_cons, ex_ret, ev_cmp, ev_val (show (stZ l4 S R bad odd wrong (.val (.list (n6 ++ n4))))[6]? = some (.val (.list (n6 ++ n4))) from rfl), bind_ok, ten, bind_ok, eq10, sr_ok, retS_d]
  rfl
theorem c_refuses (h0 : r[0]? = some (.lent l)) (h1 : areSongs (songsD S) = true) (h2 : areRules (rowD R) = true) (h : dOk (k + 4) l) : ∃ l', dOk k l' ∧ callF f__law_refuses [.s 0, .d (songsD S), .d (rowD R)] r = .ok (.d (.bool true)) (r.set 0 (.lent l')) := by
  obtain ⟨l', h3, h4⟩ := refuses_fn h1 h2 h
  exact ⟨l', h3, call_len (xs := [songsD S, rowD R]) rfl rfl h0 h4⟩
end
end KL
namespace KL
open PySem SR
section
variable {ns : List Int} {s : Nat} {r : Sl}
abbrev xsI (ns : List Int) : List D := ns.map .int
theorem own_ev {st : Sl} (g0 : st[0]? = some (.scr (xsI ns))) (g1 : st[1]? = some (.val (.int (s : Int)))) (hs : s < 100) : ∃ w : Int, evE [] (.ite (.cmp .Lt (.var 1) (.blt .len (.cons (.var 0) .nil))) (.idx (.var 0) (.var 1)) (.bin .Add (.bin .Mult (.lit (.int 733)) (.var 1)) (.lit (.int 29)))) st = .ok (.d (.int w)) st := by
  have hl : bltK .len [.s 0] st = .ok (.d (.int (xsI ns).length)) st := bltK_ok (xs := [.list (xsI ns)]) (by rw [fixAll_s [] (fixW_scr g0)]; rfl) rfl
  by_cases h : s < ns.length
  · have hat : (xsI ns)[s]? = some (.int ns[s]) := by rw [List.getElem?_map, List.getElem?_eq_getElem h]; rfl
    have hi : idxK (.s 0) (.d (.int (s : Int))) st = .ok (.d (.int ns[s])) st := idxK_ok (fixW_scr g0) rfl (atI_nat hat)
    refine ⟨ns[s], ?_⟩
    have hd : decide ((s : Int) < ((xsI ns).length : Nat)) = true := by rw [List.length_map]; exact decide_eq_true (by omega)
    rw [ev_ite, ev_cmp, ev_val g1, bind_ok, ev_blt, evs_one, ev_scr g0, bind_ok, bind_ok, hl, bind_ok, lt_i, bind_ok, hd, tstK_t, ev_idx, ev_scr g0, bind_ok, ev_val g1, bind_ok, hi]
  · refine ⟨733 * s + 29, ?_⟩
    have hd : decide ((s : Int) < ((xsI ns).length : Nat)) = false := by rw [List.length_map]; exact decide_eq_false (by omega)
    rw [ev_ite, ev_cmp, ev_val g1, bind_ok, ev_blt, evs_one, ev_scr g0, bind_ok, bind_ok, hl, bind_ok, lt_i, bind_ok, hd, tstK_f, ev_bin, ev_bin, ev_lit, bind_ok, ev_val g1, bind_ok, mul_s (by omega) (by omega), bind_ok, ev_lit, bind_ok, add_i]
abbrev bodyM : CSs := .cons (.set 3 false (.bin .Mod (.blt .int (.cons (.bin .Add (.bin .Mult (.var 3) (.lit (.int 48271))) (.bin .Mod (.blt .int (.cons (.var 4) .nil)) (.lit (.int 2147480009)))) .nil)) (.lit (.int 2147480009)))) .nil
abbrev stI (ns : List Int) (s : Nat) (w m : Int) (x : SV) : Sl := [.scr (xsI ns), .val (.int (s : Int)), .val (.int w), .val (.int m), x]
theorem mixS {w m c : Int} (h1 : 0 ≤ m) (h2 : m < 2147480009) : ∃ m' : Int, 0 ≤ m' ∧ m' < 2147480009 ∧ exSs [] bodyM (stI ns s w m (.val (.int c))) = .nx (stI ns s w m' (.val (.int c))) := by
  refine ⟨(m * 48271 + c % 2147480009) % 2147480009, Int.emod_nonneg _ (by omega), Int.emod_lt_of_pos _ (by omega), ?_⟩
  have g3 : (stI ns s w m (.val (.int c)))[3]? = some (.val (.int m)) := rfl
  have g4 : (stI ns s w m (.val (.int c)))[4]? = some (.val (.int c)) := rfl
  have hs : ∀ m', setK 3 false (.d (.int m')) (stI ns s w m (.val (.int c))) = .nx (stI ns s w m' (.val (.int c))) := fun m' => setK_re rfl
  rw [exs_cons, ex_set, ev_bin, ev_blt, evs_one, ev_bin, ev_bin, ev_val g3, bind_ok, ev_lit, bind_ok, mul_s (by omega) (by omega), bind_ok, ev_bin, ev_blt, evs_one, ev_val g4, bind_ok, bind_ok, int_k, bind_ok, ev_lit, bind_ok, mod_i (by omega), bind_ok, add_i, bind_ok, bind_ok, int_k, bind_ok, ev_lit, bind_ok, mod_i (by omega), sr_ok, hs, seqK_nx, exs_nil]
theorem mixL {w : Int} {xs : List D} (hx : ∀ x ∈ xs, ∃ i : Int, x = .int i) {m : Int} (h1 : 0 ≤ m) (h2 : m < 2147480009) : ∃ (m' : Int) (x : SV), 0 ≤ m' ∧ m' < 2147480009 ∧ forK [] (.nm 4) bodyM xs (stI ns s w m .no) = .nx (stI ns s w m' x) := by
  obtain ⟨r', ⟨m', x, g1, g2, g3, g4⟩, g5⟩ := forK_nx (fs := []) (tg := .nm 4) (body := bodyM) (fun _ r => ∃ (m' : Int) (x : SV), 0 ≤ m' ∧ m' < 2147480009 ∧ okX x ∧ r = stI ns s w m' x) xs 0 (stI ns s w m .no) ⟨m, .no, h1, h2, .inl rfl, rfl⟩ (by
    rintro j y hy r ⟨m1, x, g1, g2, g3, rfl⟩
    obtain ⟨c, rfl⟩ := hx y (List.mem_of_getElem? hy)
    obtain ⟨m2, q1, q2, q3⟩ := mixS (ns := ns) (s := s) (w := w) (c := c) g1 g2
    exact ⟨_, _, set_x rfl g3, q3, m2, _, q1, q2, .inr ⟨_, rfl⟩, rfl⟩)
  subst g4
  exact ⟨m', x, g1, g2, g5⟩
theorem pow16 : binK .Pow (.d (.int 10)) (.d (.int 16)) r = .ok (.d (.int (10 ^ 16))) r := binK_ok rfl rfl (by simp [binD, powD])
theorem head_ev {st : Sl} {w : Int} (g2 : st[2]? = some (.val (.int w))) : ∃ a : Int, 0 ≤ a ∧ evE [] (.ite (.orE (.cmp .Lt (.var 2) (.lit (.int 0))) (.cmp .GtE (.var 2) (.bin .Pow (.lit (.int 10)) (.lit (.int 16))))) (.blt .abs (.cons (.var 2) .nil)) (.lit (.int 0))) st = .ok (.d (.int a)) st := by
  have hc : evE [] (.orE (.cmp .Lt (.var 2) (.lit (.int 0))) (.cmp .GtE (.var 2) (.bin .Pow (.lit (.int 10)) (.lit (.int 16))))) st = .ok (.d (.bool (decide (w < 0) || decide ((10 : Int) ^ 16 ≤ w)))) st := by
    rw [ev_or, ev_cmp, ev_val g2, bind_ok, ev_lit, bind_ok, lt_i, bind_ok, ev_cmp, ev_val g2, bind_ok, ev_bin, ev_lit, bind_ok, ev_lit, bind_ok, pow16, bind_ok, ge_i, tstK_or]
  generalize (decide (w < 0) || decide ((10 : Int) ^ 16 ≤ w)) = b at hc
  cases b with
  | true => exact ⟨absI w, by unfold absI; split <;> omega, by rw [ev_ite, hc, bind_ok, tstK_t, ev_blt, evs_one, ev_val g2, bind_ok, bind_ok, abs_k]⟩
  | false => exact ⟨0, by omega, by rw [ev_ite, hc, bind_ok, tstK_f, ev_lit]⟩
end
end KL
namespace KL
open PySem SR
section
variable {ns : List Int} {s : Nat} {r : Sl}
theorem dice_fn (hs : s < 100) (hn : ns.length ≤ 63) : ∃ l, dOk 1000 l ∧ f__law_dice.fn [.scr (xsI ns), .val (.int (s : Int))] = .ok (.frs l) [.scr (xsI ns), .val (.int (s : Int))] := by
  obtain ⟨w, hw⟩ := own_ev (ns := ns) (s := s) (st := [.scr (xsI ns), .val (.int (s : Int)), .no, .no, .no]) rfl rfl hs
  obtain ⟨m, x, m1, m2, hm⟩ := mixL (ns := ns) (s := s) (w := w) (xs := (xsI ns).take 6 ++ [.int w]) (fun y hy => by
    rcases List.mem_append.mp hy with h | h
    · obtain ⟨i, -, rfl⟩ := List.mem_map.mp (List.mem_of_mem_take h)
      exact ⟨i, rfl⟩
    · exact ⟨w, List.mem_singleton.mp h⟩) (m := 910003 + 7907 * (s : Int)) (by omega) (by omega)
  obtain ⟨a, ha, hh⟩ := head_ev (st := stI ns s w m x) (w := w) rfl
  refine ⟨[.int a, .int m, .int 0], ⟨a, m, 0, rfl, ha, m1, m2, by omega, by omega⟩, ?_⟩
  have s1 : setK 2 false (.d (.int w)) ([.scr (xsI ns), .val (.int (s : Int)), .no, .no, .no] : Sl) = .nx [.scr (xsI ns), .val (.int (s : Int)), .val (.int w), .no, .no] := setK_no rfl
  have s2 : setK 3 false (.d (.int (910003 + 7907 * (s : Int)))) ([.scr (xsI ns), .val (.int (s : Int)), .val (.int w), .no, .no] : Sl) = .nx (stI ns s w (910003 + 7907 * (s : Int)) .no) := setK_no rfl
  have hsl : slcK (.s 0) none (some 6) (stI ns s w (910003 + 7907 * (s : Int)) .no) = .ok (.f ((xsI ns).take 6)) (stI ns s w (910003 + 7907 * (s : Int)) .no) := slcK_ok (fixW_scr (show (stI ns s w (910003 + 7907 * (s : Int)) .no)[0]? = some (.scr (xsI ns)) from rfl)) (by simp only [slcD]; rw [show (6 : Int) = ((6 : Nat) : Int) from rfl, cut_to])
  have hl1 : ∀ st : Sl, lstK [.d (.int w)] st = .ok (.f [.int w]) st := fun st => lstK_ok (xs := [.int w]) rfl (by show 1 ≤ 16777216; omega)
  have hadd : ∀ st : Sl, binK .Add (.f ((xsI ns).take 6)) (.f [.int w]) st = .ok (.f ((xsI ns).take 6 ++ [.int w])) st := fun st => binK_ok rfl rfl (if_pos (by rw [List.length_take, List.length_singleton]; show _ ≤ 16777216; omega))
  have hl3 : ∀ st : Sl, lstK [.d (.int a), .d (.int m), .d (.int 0)] st = .ok (.f [.int a, .int m, .int 0]) st := fun st => lstK_ok (xs := [.int a, .int m, .int 0]) rfl (by show 3 ≤ 16777216; omega)
  rw [show f__law_dice.fn = runB 5 [] b__law_dice from rfl, runB_eq]
  show endK _ (exSs [] b__law_dice [.scr (xsI ns), .val (.int (s : Int)), .no, .no, .no]) = _
  unfold b__law_dice
  rw [exs_cons, ex_set, hw, sr_ok, s1, seqK_nx, exs_cons, ex_set, ev_bin, ev_lit, bind_ok, ev_bin, ev_lit, bind_ok, ev_val (show ([.scr (xsI ns), .val (.int (s : Int)), .val (.int w), .no, .no] : Sl)[1]? = some (.val (.int (s : Int))) from rfl), bind_ok, mul_s (by omega) (by omega), bind_ok, add_i, sr_ok, s2, seqK_nx, exs_cons, ex_for, evi_seq, ev_bin, ev_slc, ev_scr (show (stI ns s w (910003 + 7907 * (s : Int)) .no)[0]? = some (.scr (xsI ns)) from rfl), bind_ok, partE_f, bind_ok, ev_lit, partE_t, bind_ok, hsl, bind_ok, ev_lst, evs_one, ev_val (show (stI ns s w (910003 + 7907 * (s : Int)) .no)[2]? = some (.val (.int w)) from rfl), bind_ok, bind_ok, hl1, bind_ok, hadd, bind_ok, itmI_f, sr_ok, hm, seqK_nx, exs_cons, ex_ret, ev_lst, evs_cons, hh, bind_ok, evs_cons, ev_val (show (stI ns s w m x)[3]? = some (.val (.int m)) from rfl), bind_ok, evs_one, ev_lit, bind_ok, bind_ok, bind_ok]
  simp only [stl_d, bind_ok]
  rw [hl3, sr_ok, retS_f]
  rfl
theorem c_dice (h0 : r[0]? = some (.scr (xsI ns))) (hs : s < 100) (hn : ns.length ≤ 63) : ∃ l, dOk 1000 l ∧ callF f__law_dice [.s 0, .d (.int (s : Int))] r = .ok (.f l) r := by
  obtain ⟨l, h1, h2⟩ := dice_fn (ns := ns) hs hn
  refine ⟨l, h1, ?_⟩
  have ha : argAll r f__law_dice.lp [.s 0, .d (.int (s : Int))] = some ([.scr (xsI ns), .val (.int (s : Int))], r) := by
    rw [show f__law_dice.lp = [.scr, .dat] from rfl]
    simp only [argAll, argW, h0, keepW]
  rw [callF_ok ha (by simp only [nLent]; omega) rfl, callK_ok h2]
  rfl
end
end KL
namespace KL
open PySem SR
mutual
theorem eqv_flat : ∀ (n : Nat) (d : D), flat n d = true → PyData.eqv d d = true
  | _, .none, _ => rfl
  | _, .bool b, _ => by simp [PyData.eqv]
  | _, .int i, _ => by simp [PyData.eqv]
  | _, .str x, _ => by simp [PyData.eqv]
  | 0, .list xs, h => by simp [flat] at h
  | 0, .tuple xs, h => by simp [flat] at h
  | n + 1, .list xs, h => by rw [PyData.eqv]; exact eqvL_flat n xs (by simpa [flat] using h)
  | n + 1, .tuple xs, h => by rw [PyData.eqv]; exact eqvL_flat n xs (by simpa [flat] using h)
  | n, .dict _, h => by cases n <;> simp [flat] at h
theorem eqvL_flat : ∀ (n : Nat) (xs : List D), flatL n xs = true → PyData.eqvAll xs xs = true
  | _, [], _ => rfl
  | n, x :: xs, h => by
    simp only [flatL, Bool.and_eq_true] at h
    rw [PyData.eqvAll, eqv_flat n x h.1, eqvL_flat n xs h.2]; rfl
end
theorem ne_same {r : Sl} {x : D} (h : flat 8 x = true) : cmpK .NotEq (.d x) (.d x) r = .ok (.d (.bool false)) r := by
  refine cmpK_ok rfl rfl ?_
  rw [show cmpD .NotEq x x = (eqD x x).map (!·) from rfl, eqD_ok h h, eqv_flat 8 x h]
  rfl
end KL
namespace KL
open PySem SR
section
variable {l : List D} {r : Sl} {k : Nat} {fs : List FI} {f : FI} {x y z n : D} {a b c i : Nat} {kn : List Str}
theorem ca3 (hi : fs[i]? = some f) (ha : r[a]? = some (.val x)) (hb : r[b]? = some (.val y)) (hc : r[c]? = some (.val z)) : evE fs (.call i (.cons (.var a) (.cons (.var b) (.cons (.var c) .nil)))) r = callF f [.d x, .d y, .d z] r := by
  rw [ev_call _ hi, evs_cons, ev_val ha, bind_ok, evs_cons, ev_val hb, bind_ok, evs_one, ev_val hc, bind_ok, bind_ok, bind_ok, bind_ok, stl_d, stl_d]
theorem ca2 (hi : fs[i]? = some f) (ha : r[a]? = some (.val x)) (hb : r[b]? = some (.val y)) : evE fs (.call i (.cons (.var a) (.cons (.var b) .nil))) r = callF f [.d x, .d y] r := by
  rw [ev_call _ hi, evs_cons, ev_val ha, bind_ok, evs_one, ev_val hb, bind_ok, bind_ok, bind_ok, stl_d]
theorem ck3 (hi : fs[i]? = some f) (ha : r[a]? = some (.val x)) (hb : r[b]? = some (.val y)) (hc : r[c]? = some (.val z)) : evE fs (.callk i .nil kn (.cons (.var a) (.cons (.var b) (.cons (.var c) .nil))) [2, 1, 0]) r = callF f [.d z, .d y, .d x] r := by
  rw [ev_callk _ _ _ _ hi, evs_nil, bind_ok, evs_cons, ev_val ha, bind_ok, evs_cons, ev_val hb, bind_ok, evs_one, ev_val hc, bind_ok, bind_ok, bind_ok, bind_ok]
  rfl
theorem ck2 (hi : fs[i]? = some f) (ha : r[a]? = some (.val x)) (hb : r[b]? = some (.val y)) : evE fs (.callk i .nil kn (.cons (.var a) (.cons (.var b) .nil)) [1, 0]) r = callF f [.d y, .d x] r := by
  rw [ev_callk _ _ _ _ hi, evs_nil, bind_ok, evs_cons, ev_val ha, bind_ok, evs_one, ev_val hb, bind_ok, bind_ok, bind_ok]
  rfl
end
end KL
namespace KL
open PySem SR
abbrev fsQ : List FI := [f__law_s_rules, f__law_s_songs, f__law_roll, f__law_s_list, f__law_pick, f__law_s_broken, f_faults, f_is_good, f_time_of, f_can_follow, f_key_steps, f__law_refuses]
abbrev stQ (l : List D) (S : List Row) (R : Row) (x3 x4 x5 x6 x7 x8 x9 : SV) : Sl := [.lent l, .val (songsD S), .val (rowD R), x3, x4, x5, x6, x7, x8, x9, .no, .no, .no]
section
variable {l : List D} {S : List Row} {R : Row} {p g : List Nat} {k : Nat} {x3 x4 x5 x6 x7 x8 x9 : SV}
abbrev eT : CE := .idx (.idx (.var 1) (.var 11)) (.lit (.int 4))
theorem sumT (hp : okP S p) (hl : p.length ≤ 300) : compK fsQ [("song", 11)] (.nm 11) false (.lit .none) eT (p.map fun i : Nat => .int (i : Int)) (stQ l S R x3 x4 x5 x6 x7 x8 x9) = .ok (.f (p.map fun i => .int (rw_ S i).2.2.2.2)) (stQ l S R x3 x4 x5 x6 x7 x8 x9) := by
  rw [compK_all (fun x => match x with | .int i => .int (rw_ S i.toNat).2.2.2.2 | _ => .none) (by rw [List.length_map]; omega) rfl rfl fun x hx => ?_]
  · congr 2
    rw [List.map_map]
    exact List.map_congr_left fun i hi => by simp only [Function.comp, Int.toNat_natCast]
  · obtain ⟨i, hi, rfl⟩ := List.mem_map.mp hx
    refine ⟨[.lent l, .val (songsD S), .val (rowD R), x3, x4, x5, x6, x7, x8, x9, .no, .val (.int i), .no], rfl, ?_, rfl⟩
    have hs := fun r => idx_song (r := r) (rw_at (hp i hi))
    rw [ev_idx, ev_idx, ev_val (show ([.lent l, .val (songsD S), .val (rowD R), x3, x4, x5, x6, x7, x8, x9, .no, .val (.int i), .no] : Sl)[1]? = some (.val (songsD S)) from rfl), bind_ok, ev_val (show ([.lent l, .val (songsD S), .val (rowD R), x3, x4, x5, x6, x7, x8, x9, .no, .val (.int i), .no] : Sl)[11]? = some (.val (.int i)) from rfl), bind_ok, hs, bind_ok, ev_lit, bind_ok, row4]
    rfl
abbrev cA : CE := .cmp .Eq (.call 5 (.cons (.var 1) (.cons (.var 2) (.cons (.bin .Add (.var 3) (.tup (.cons (.var 11) .nil))) .nil)))) (.lst (.nil))
theorem aftB {st : Sl} {j : Nat} (g1 : st[1]? = some (.val (songsD S))) (g2 : st[2]? = some (.val (rowD R))) (g3 : st[3]? = some (.val (plD g))) (g11 : st[11]? = some (.val (.int (j : Int)))) (hR : okR R) (hg : okP S g) (hj : j < S.length) (hG : allT S R g = []) (hl : g.length ≤ 300) : evE fsQ cA st = .ok (.d (.bool (nextB S R g j))) st := by
  have ha := add_1 (r := st) (v := g.map fun i : Nat => (.int (i : Int) : D)) (x := .int (j : Int)) (by rw [List.length_map]; omega)
  rw [← pl_snoc] at ha
  have hc := c_s_broken (r := st) (R := R) (okP_snoc hg hj) (by rw [List.length_append, List.length_singleton]; omega)
  have he := eq_nil (r := st) (l := allT S R (g ++ [j])) flat_all
  rw [snoc_good hR hG] at he
  rw [ev_cmp, ev_call _ (show fsQ[5]? = some f__law_s_broken from rfl), evs_cons, ev_val g1, bind_ok, evs_cons, ev_val g2, bind_ok, evs_one, ev_bin, ev_val g3, bind_ok, ev_tup, evs_one, ev_val g11, bind_ok, bind_ok, tup1, bind_ok, show binK .Add (.d (plD g)) (.d (.tuple [.int (j : Int)])) st = _ from ha, bind_ok, bind_ok, bind_ok, bind_ok, stl_d, stl_d, hc, bind_ok, ev_lst, evs_nil, bind_ok, lst_nil, bind_ok, he]
theorem aftC (hR : okR R) (hg : okP S g) (hG : allT S R g = []) (hl : g.length ≤ 300) (hS : S.length ≤ 8) : compK fsQ [("song", 11)] (.nm 11) true cA (.var 11) ((List.range S.length).map fun k : Nat => .int (k : Int)) (stQ l S R (.val (plD g)) x4 x5 x6 x7 x8 x9) = .ok (.f (folB S R g)) (stQ l S R (.val (plD g)) x4 x5 x6 x7 x8 x9) := by
  rw [compK_if (fun x => match x with | .int i => nextB S R g i.toNat | _ => false) (fun x => x) (by rw [List.length_map, List.length_range]; omega) rfl rfl fun x hx => ?_]
  · unfold folB
    congr 2
    rw [List.filter_map, List.map_map]
    rfl
  · obtain ⟨j, hj, rfl⟩ := List.mem_map.mp hx
    have hj := List.mem_range.mp hj
    refine ⟨[.lent l, .val (songsD S), .val (rowD R), .val (plD g), x4, x5, x6, x7, x8, x9, .no, .val (.int j), .no], rfl, ?_, fun _ => ev_val rfl, rfl⟩
    exact aftB rfl rfl rfl rfl hR hg hj hG hl
end
end KL
namespace KL
open PySem SR
section
variable {l : List D} {S : List Row} {R : Row} {p g : List Nat} {k : Nat} {x3 x4 x5 x6 x7 x8 x9 : SV}
abbrev eR : CE := .call 2 (.cons (.var 0) (.cons (.blt .len (.cons (.var 1) .nil)) .nil))
theorem rollS {st : Sl} (g0 : st[0]? = some (.lent l)) (g1 : st[1]? = some (.val (songsD S))) (h : dOk (k + 1) l) (h1 : 0 < S.length) (h2 : S.length ≤ 8) : ∃ (v : Nat) (l' : List D), v < S.length ∧ dOk k l' ∧ evE fsQ eR st = .ok (.d (.int v)) (st.set 0 (.lent l')) := by
  obtain ⟨v, l', hv, hd, hc⟩ := c_roll (n := S.length) g0 h (by omega) (by omega)
  refine ⟨v, l', by omega, hd, ?_⟩
  rw [ev_call _ (show fsQ[2]? = some f__law_roll from rfl), evs_cons, ev_lent g0, bind_ok, evs_one, ev_blt, evs_one, ev_val g1, bind_ok, bind_ok, songs_len, bind_ok, bind_ok, bind_ok, stl_s, hc]
abbrev stR (l : List D) (S : List Row) (R : Row) (x3 x10 : SV) : Sl := [.lent l, .val (songsD S), .val (rowD R), x3, .no, .no, .no, .no, .no, .no, x10, .no, .no]
theorem compR (h1 : 0 < S.length) (h2 : S.length ≤ 8) : ∀ (xs acc : List D) (l : List D), dOk (k + xs.length) l →
    ∃ (p : List Nat) (l' : List D), okP S p ∧ p.length = xs.length ∧ dOk k l' ∧ compL [10] (setTg (.nm 10)) (fun q => .ok true q) (fun q => evE fsQ eR q) xs acc (stR l S R x3 .no) = .ok (acc ++ p.map fun i : Nat => .int (i : Int)) (stR l' S R x3 .no)
  | [], acc, l, h => ⟨[], l, okP_nil, rfl, h, by simp [compL]⟩
  | x :: xs, acc, l, h => by
    obtain ⟨v, l1, hv, hd, he⟩ := rollS (S := S) (k := k + xs.length) (st := stR l S R x3 (.val x)) rfl rfl h h1 h2
    obtain ⟨p, l2, q1, q2, q3, q4⟩ := compR h1 h2 xs (acc ++ [.int (v : Int)]) l1 hd
    refine ⟨v :: p, l2, fun i hi => ?_, by rw [List.length_cons, q2]; rfl, q3, ?_⟩
    · rcases List.mem_cons.mp hi with rfl | h
      · exact hv
      · exact q1 i h
    · have hs : setTg (.nm 10) x (stR l S R x3 .no) = some (stR l S R x3 (.val x)) := rfl
      have hw : wipeS ((stR l S R x3 (.val x)).set 0 (.lent l1)) [10] = stR l1 S R x3 .no := rfl
      simp only [compL, hs, SR.R.bind, if_true, he, keepW_d, hw]
      rw [q4, List.append_assoc]
      rfl
abbrev eC : CE := .comp [("play", 10)] (.rng1 (.call 2 (.cons (.var 0) (.cons (.lit (.int 10)) .nil)))) (.nm 10) false (.lit .none) eR
theorem compE (h : dOk (k + 10) l) (h1 : 0 < S.length) (h2 : S.length ≤ 8) : ∃ (p : List Nat) (l' : List D), okP S p ∧ p.length ≤ 10 ∧ dOk k l' ∧ evE fsQ eC (stR l S R x3 .no) = .ok (.f (p.map fun i : Nat => .int (i : Int))) (stR l' S R x3 .no) := by
  obtain ⟨v, l1, hv, hd, he⟩ := rollL (r := stR l S R x3 .no) (k := k + 9) (fs := fsQ) (i := 2) (n := 10) rfl rfl h (by omega) (by omega)
  have hr : rngW1 (.d (.int (v : Int))) (stR l1 S R x3 .no) = .ok (rangeD 0 v) (stR l1 S R x3 .no) := by
    rw [rngW1_ok (by omega) (by omega), Int.toNat_natCast]
  have hl : (rangeD 0 v).length = v := by rw [rangeD_map0, List.length_map, List.length_range]
  obtain ⟨p, l2, q1, q2, q3, q4⟩ := compR (R := R) (x3 := x3) (k := k) h1 h2 (rangeD 0 v) [] l1 (dOk_le hd (by rw [hl]; omega))
  refine ⟨p, l2, q1, by omega, q3, ?_⟩
  have hk : compK fsQ [("play", 10)] (.nm 10) false (.lit .none) eR (rangeD 0 v) (stR l1 S R x3 .no) = .ok (.f (p.map fun i : Nat => .int (i : Int))) (stR l2 S R x3 .no) := by
    unfold compK
    rw [if_pos (by rw [hl, sizeLine_eq]; omega)]
    show SR.R.bind (SR.R.calm (compL [10] (setTg (.nm 10)) (fun q => .ok true q) (fun q => evE fsQ eR q) (rangeD 0 v) [] (stR l1 S R x3 .no))) (fun acc r2 => SR.R.ok (W.f acc) (backS (stR l1 S R x3 .no) r2 [10])) = _
    rw [q4, calm_ok, bind_ok, List.nil_append]
    rfl
  rw [ev_comp, evi_rng1, he, bind_ok, List.set_cons_zero, hr, bind_ok, hk]
abbrev eL : CE := .lst (.cons (.var 3) (.cons (.blt .tuple (.cons eC .nil)) (.cons (.bin .Add (.var 3) (.tup (.cons eR .nil))) .nil)))
theorem lstE (h : dOk (k + 11) l) (hg : okP S g) (hl : g.length ≤ 12) (h1 : 0 < S.length) (h2 : S.length ≤ 8) : ∃ (p : List Nat) (j : Nat) (l' : List D), okP S p ∧ p.length ≤ 10 ∧ j < S.length ∧ dOk k l' ∧ evE fsQ eL (stR l S R (.val (plD g)) .no) = .ok (.f [plD g, plD p, plD (g ++ [j])]) (stR l' S R (.val (plD g)) .no) := by
  obtain ⟨p, l1, q1, q2, hd, he⟩ := compE (R := R) (x3 := .val (plD g)) (k := k + 1) h h1 h2
  obtain ⟨j, l2, q3, hd, he2⟩ := rollS (S := S) (k := k) (st := stR l1 S R (.val (plD g)) .no) rfl rfl hd h1 h2
  refine ⟨p, j, l2, q1, q2, q3, hd, ?_⟩
  have ha := add_1 (r := stR l2 S R (.val (plD g)) .no) (v := g.map fun i : Nat => (.int (i : Int) : D)) (x := .int (j : Int)) (by rw [List.length_map]; omega)
  rw [← pl_snoc] at ha
  have ht : lstK [.d (plD g), .d (plD p), .d (plD (g ++ [j]))] (stR l2 S R (.val (plD g)) .no) = .ok (.f [plD g, plD p, plD (g ++ [j])]) (stR l2 S R (.val (plD g)) .no) := lstK_ok (xs := [plD g, plD p, plD (g ++ [j])]) rfl (by show 3 ≤ 16777216; omega)
  rw [ev_lst, evs_cons, ev_val (show (stR l S R (.val (plD g)) .no)[3]? = some (.val (plD g)) from rfl), bind_ok, evs_cons, ev_blt, evs_one, he, bind_ok, bind_ok, tup_f, bind_ok, evs_one, ev_bin, ev_val (show (stR l1 S R (.val (plD g)) .no)[3]? = some (.val (plD g)) from rfl), bind_ok, ev_tup, evs_one, he2, bind_ok, bind_ok, tup1, bind_ok, List.set_cons_zero,
    show binK .Add (.d (plD g)) (.d (.tuple [.int (j : Int)])) (stR l2 S R (.val (plD g)) .no) = _ from ha, bind_ok, bind_ok, bind_ok, stl_d, stl_d, bind_ok]
  exact ht
theorem drawE (h : dOk (k + 12) l) (hg : okP S g) (hl : g.length ≤ 12) (h1 : 0 < S.length) (h2 : S.length ≤ 8) : ∃ (p : List Nat) (l' : List D), okP S p ∧ p.length ≤ 13 ∧ dOk k l' ∧ evE fsQ (.call 4 (.cons (.var 0) (.cons eL .nil))) (stR l S R (.val (plD g)) .no) = .ok (.d (plD p)) (stR l' S R (.val (plD g)) .no) := by
  obtain ⟨p, j, l1, q1, q2, q3, hd, he⟩ := lstE (R := R) (k := k + 1) h hg hl h1 h2
  obtain ⟨v, x, l2, hx, hd, hc⟩ := c_pick (k := k) (xs := [plD g, plD p, plD (g ++ [j])]) (ws := [.f [plD g, plD p, plD (g ++ [j])]]) (r := stR l1 S R (.val (plD g)) .no) rfl rfl hd (by show 0 < 3; omega) (by show 3 < 100000; omega)
  have hp : ∃ q : List Nat, okP S q ∧ q.length ≤ 13 ∧ x = plD q := by
    rcases v with _ | _ | _ | v
    · exact ⟨g, hg, by omega, by simpa using hx.symm⟩
    · exact ⟨p, q1, by omega, by simpa using hx.symm⟩
    · exact ⟨g ++ [j], okP_snoc hg q3, by rw [List.length_append, List.length_singleton]; omega, by simpa using hx.symm⟩
    · simp at hx
  obtain ⟨q, hq1, hq2, rfl⟩ := hp
  refine ⟨q, l2, hq1, hq2, hd, ?_⟩
  rw [ev_call _ (show fsQ[4]? = some f__law_pick from rfl), evs_cons, ev_lent (show (stR l S R (.val (plD g)) .no)[0]? = some (.lent l) from rfl), bind_ok, evs_one, he, bind_ok, bind_ok, bind_ok, stl_s, hc, List.set_cons_zero]
end
end KL
namespace KL
open PySem SR
section
variable {l : List D} {S : List Row} {R : Row} {p g : List Nat} {k : Nat} {x3 x4 x5 x6 x7 x8 x9 : SV} {st : Sl}
theorem eq_nilD {r : Sl} {l : List D} (h : flatL 7 l = true) : cmpK .Eq (.d (.list l)) (.f []) r = .ok (.d (.bool l.isEmpty)) r := by
  refine cmpK_ok rfl rfl ?_
  rw [show cmpD .Eq (.list l) (.list []) = eqD (.list l) (.list []) from rfl, eqD_ok (flat_l h) rfl, eqv_nil]
theorem good_emp (h : okR R) : goodB S R p = (allT S R p).isEmpty := by
  rw [Bool.eq_iff_iff, good_iff h, List.isEmpty_iff]
abbrev q1 : CE := .orE (.cmp .NotEq (.call 6 (.cons (.var 1) (.cons (.var 2) (.cons (.var 4) .nil)))) (.blt .tuple (.cons (.var 5) .nil))) (.orE (.cmp .NotEq (.callk 6 (.nil) ["played", "rules", "songs"] (.cons (.var 4) (.cons (.var 2) (.cons (.var 1) .nil))) [2, 1, 0]) (.blt .tuple (.cons (.var 5) .nil))) (.cmp .NotEq (.call 7 (.cons (.var 1) (.cons (.var 2) (.cons (.var 4) .nil)))) (.cmp .Eq (.var 5) (.lst (.nil)))))
theorem q1_ok (g1 : st[1]? = some (.val (songsD S))) (g2 : st[2]? = some (.val (rowD R))) (g4 : st[4]? = some (.val (plD p))) (g5 : st[5]? = some (.val (.list (allT S R p))))
    (h1 : areSongs (songsD S) = true) (h2 : areRules (rowD R) = true) (hR : okR R) (hp : okP S p) (hl : p.length ≤ 300) : evE fsQ q1 st = .ok (.d (.bool false)) st := by
  have cf := c_faults (r := st) h1 h2 hp hR hl
  have cg := c_is_good (r := st) h1 h2 hp hl
  rw [good_emp hR] at cg
  have hn := ne_same (r := st) (x := .tuple (allT S R p)) (flat_t flat_all)
  have hb := ne_same (r := st) (x := .bool (allT S R p).isEmpty) rfl
  have he := eq_nilD (r := st) (l := allT S R p) flat_all
  rw [ev_or, ev_cmp, ca3 (show fsQ[6]? = some f_faults from rfl) g1 g2 g4, cf, bind_ok, ev_blt, evs_one, ev_val g5, bind_ok, bind_ok, tup_l, bind_ok, hn, bind_ok, tstK_f,
    ev_or, ev_cmp, ck3 (show fsQ[6]? = some f_faults from rfl) g4 g2 g1, cf, bind_ok, ev_blt, evs_one, ev_val g5, bind_ok, bind_ok, tup_l, bind_ok, hn, bind_ok, tstK_f,
    ev_cmp, ca3 (show fsQ[7]? = some f_is_good from rfl) g1 g2 g4, cg, bind_ok, ev_cmp, ev_val g5, bind_ok, ev_lst, evs_nil, bind_ok, lst_nil, bind_ok, he, bind_ok, hb]
abbrev eS (j : Nat) : CE := .blt .sum (.cons (.comp [("song", 11)] (.seq (.var j)) (.nm 11) false (.lit .none) eT) .nil)
theorem eS_ok {j : Nat} (gj : (stQ l S R x3 x4 x5 x6 x7 x8 x9)[j]? = some (.val (plD p))) (hp : okP S p) (hl : p.length ≤ 300) : evE fsQ (eS j) (stQ l S R x3 x4 x5 x6 x7 x8 x9) = .ok (.d (.int (timeB S p))) (stQ l S R x3 x4 x5 x6 x7 x8 x9) := by
  have hi : itmI (fun l => l) (stQ l S R x3 x4 x5 x6 x7 x8 x9) (.d (plD p)) = .ok (p.map fun i : Nat => .int (i : Int)) (stQ l S R x3 x4 x5 x6 x7 x8 x9) := rfl
  have hs := sum_k (r := stQ l S R x3 x4 x5 x6 x7 x8 x9) (fun i => (rw_ S i).2.2.2.2) p
  rw [ev_blt, evs_one, ev_comp, evi_seq, ev_val gj, bind_ok, hi, bind_ok, sumT hp hl, bind_ok, bind_ok, hs]
  rfl
abbrev q2 : CE := .orE (.cmp .IsNot (.callk 7 (.nil) ["played", "rules", "songs"] (.cons (.var 3) (.cons (.var 2) (.cons (.var 1) .nil))) [2, 1, 0]) (.lit (.bool true))) (.cmp .NotEq (.call 8 (.cons (.var 1) (.cons (.var 4) .nil))) (eS 4))
theorem isnot_t {r : Sl} : cmpK .IsNot (.d (.bool true)) (.d (.bool true)) r = .ok (.d (.bool false)) r := cmpK_ok rfl rfl rfl
theorem q2_ok (h1 : areSongs (songsD S) = true) (h2 : areRules (rowD R) = true) (hR : okR R) (hp : okP S p) (hl : p.length ≤ 300) (hg : okP S g) (hG : allT S R g = []) (hgl : g.length ≤ 300) :
    evE fsQ q2 (stQ l S R (.val (plD g)) (.val (plD p)) x5 x6 x7 x8 x9) = .ok (.d (.bool false)) (stQ l S R (.val (plD g)) (.val (plD p)) x5 x6 x7 x8 x9) := by
  have hs := eS_ok (l := l) (R := R) (x3 := .val (plD g)) (x4 := .val (plD p)) (x5 := x5) (x6 := x6) (x7 := x7) (x8 := x8) (x9 := x9) (j := 4) rfl hp hl
  have g1 : (stQ l S R (.val (plD g)) (.val (plD p)) x5 x6 x7 x8 x9)[1]? = some (.val (songsD S)) := rfl
  have g2 : (stQ l S R (.val (plD g)) (.val (plD p)) x5 x6 x7 x8 x9)[2]? = some (.val (rowD R)) := rfl
  have g3 : (stQ l S R (.val (plD g)) (.val (plD p)) x5 x6 x7 x8 x9)[3]? = some (.val (plD g)) := rfl
  have g4 : (stQ l S R (.val (plD g)) (.val (plD p)) x5 x6 x7 x8 x9)[4]? = some (.val (plD p)) := rfl
  generalize stQ l S R (.val (plD g)) (.val (plD p)) x5 x6 x7 x8 x9 = st at *
  have cg := c_is_good (r := st) h1 h2 hg hgl
  rw [good_emp hR, hG, show ([] : List D).isEmpty = true from rfl] at cg
  have ct := c_time_of (r := st) h1 hp hl
  have hn := ne_same (r := st) (x := .int (timeB S p)) rfl
  rw [ev_or, ev_cmp, ck3 (show fsQ[7]? = some f_is_good from rfl) g3 g2 g1, cg, bind_ok, ev_lit, bind_ok, isnot_t, bind_ok, tstK_f, ev_cmp, ca2 (show fsQ[8]? = some f_time_of from rfl) g1 g4, ct, bind_ok, hs, bind_ok, hn]
abbrev q3 : CE := .cmp .NotEq (.callk 8 (.nil) ["played", "songs"] (.cons (.var 3) (.cons (.var 1) .nil)) [1, 0]) (eS 3)
theorem q3_ok (h1 : areSongs (songsD S) = true) (hg : okP S g) (hgl : g.length ≤ 300) :
    evE fsQ q3 (stQ l S R (.val (plD g)) x4 x5 x6 x7 x8 x9) = .ok (.d (.bool false)) (stQ l S R (.val (plD g)) x4 x5 x6 x7 x8 x9) := by
  have hs := eS_ok (l := l) (R := R) (x3 := .val (plD g)) (x4 := x4) (x5 := x5) (x6 := x6) (x7 := x7) (x8 := x8) (x9 := x9) (j := 3) rfl hg hgl
  have g1 : (stQ l S R (.val (plD g)) x4 x5 x6 x7 x8 x9)[1]? = some (.val (songsD S)) := rfl
  have g3 : (stQ l S R (.val (plD g)) x4 x5 x6 x7 x8 x9)[3]? = some (.val (plD g)) := rfl
  generalize stQ l S R (.val (plD g)) x4 x5 x6 x7 x8 x9 = st at *
  have ct := c_time_of (r := st) h1 hg hgl
  have hn := ne_same (r := st) (x := .int (timeB S g)) rfl
  rw [ev_cmp, ck2 (show fsQ[8]? = some f_time_of from rfl) g3 g1, ct, bind_ok, hs, bind_ok, hn]
abbrev eA : CE := .comp [("song", 11)] (.rng1 (.blt .len (.cons (.var 1) .nil))) (.nm 11) true cA (.var 11)
theorem eA_ok (hR : okR R) (hg : okP S g) (hG : allT S R g = []) (hl : g.length ≤ 300) (hS : S.length ≤ 8) : evE fsQ eA (stQ l S R (.val (plD g)) x4 x5 x6 x7 x8 x9) = .ok (.f (folB S R g)) (stQ l S R (.val (plD g)) x4 x5 x6 x7 x8 x9) := by
  have hr := folR (r := stQ l S R (.val (plD g)) x4 x5 x6 x7 x8 x9) hS
  rw [ev_comp, evi_rng1, ev_blt, evs_one, ev_val (show (stQ l S R (.val (plD g)) x4 x5 x6 x7 x8 x9)[1]? = some (.val (songsD S)) from rfl), bind_ok, bind_ok, songs_len, bind_ok, hr, bind_ok, aftC hR hg hG hl hS]
abbrev q4 : CE := .orE (.cmp .NotEq (.call 9 (.cons (.var 1) (.cons (.var 2) (.cons (.var 3) .nil)))) (.blt .tuple (.cons (.var 6) .nil))) (.cmp .NotEq (.callk 9 (.nil) ["played", "rules", "songs"] (.cons (.var 3) (.cons (.var 2) (.cons (.var 1) .nil))) [2, 1, 0]) (.blt .tuple (.cons (.var 6) .nil)))
theorem q4_ok (g1 : st[1]? = some (.val (songsD S))) (g2 : st[2]? = some (.val (rowD R))) (g3 : st[3]? = some (.val (plD g))) (g6 : st[6]? = some (.val (.list (folB S R g))))
    (h1 : areSongs (songsD S) = true) (h2 : areRules (rowD R) = true) (hR : okR R) (hg : okP S g) (hG : allT S R g = []) (hl : g.length ≤ 300) (hS : S.length ≤ 8) : evE fsQ q4 st = .ok (.d (.bool false)) st := by
  have cf := c_can_follow (r := st) h1 h2 hg hl hS ((good_iff hR).mpr hG)
  have hn := ne_same (r := st) (x := .tuple (folB S R g)) (flat_t flat_fol)
  rw [ev_or, ev_cmp, ca3 (show fsQ[9]? = some f_can_follow from rfl) g1 g2 g3, cf, bind_ok, ev_blt, evs_one, ev_val g6, bind_ok, bind_ok, tup_l, bind_ok, hn, bind_ok, tstK_f,
    ev_cmp, ck3 (show fsQ[9]? = some f_can_follow from rfl) g3 g2 g1, cf, bind_ok, ev_blt, evs_one, ev_val g6, bind_ok, bind_ok, tup_l, bind_ok, hn]
abbrev q5 : CE := .andE (.cmp .NotEq (.var 5) (.lst (.nil))) (.cmp .NotEq (.refused (.call 9 (.cons (.var 1) (.cons (.var 2) (.cons (.var 4) .nil))))) (.lit (.str "played")))
theorem q5_ok (g1 : st[1]? = some (.val (songsD S))) (g2 : st[2]? = some (.val (rowD R))) (g4 : st[4]? = some (.val (plD p))) (g5 : st[5]? = some (.val (.list (allT S R p))))
    (h1 : areSongs (songsD S) = true) (h2 : areRules (rowD R) = true) (hR : okR R) (hp : okP S p) (hl : p.length ≤ 300) : evE fsQ q5 st = .ok (.d (.bool false)) st := by
  have hn := neq_nil (r := st) (l := allT S R p) flat_all
  rw [ev_and, ev_cmp, ev_val g5, bind_ok, ev_lst, evs_nil, bind_ok, lst_nil, bind_ok, hn, bind_ok]
  cases he : (allT S R p).isEmpty with
  | true => rw [Bool.not_true, tstK_f]
  | false =>
    have hgd : goodB S R p = false := by rw [good_emp hR, he]
    have ce := e_can_follow (r := st) (s := songsD S) (q := rowD R) (v := plD p) fun r => e_demand_good (m := 0) h1 h2 hp hl hgd
    have hs := ne_same (r := st) (x := .str "played") (by decide +kernel)
    rw [Bool.not_false, tstK_t, ev_cmp, ev_refused, ca3 (show fsQ[9]? = some f_can_follow from rfl) g1 g2 g4, ce, refK_err, bind_ok, ev_lit, bind_ok, hs]
end
end KL
namespace KL
open PySem SR
theorem steps_min {i j : Int} (h1 : 0 ≤ i) (h2 : i < 12) (h3 : 0 ≤ j) (h4 : j < 12) : steps i j = min (min (absI (i - j + -12)) (absI (i - j + 0))) (absI (i - j + 12)) := by
  rcases steps_le (i := i) (j := j) with h | h
  · rw [h]
    unfold minI
    repeat' split
    all_goals omega
  · exact absurd ⟨h1, h2, h3, h4⟩ h
section
variable {l : List D} {S : List Row} {R : Row} {p g : List Nat} {k : Nat} {x3 x4 x5 x6 x7 x8 x9 : SV} {st : Sl} {v w : Nat}
abbrev eM : CE := .blt .min1 (.cons (.comp [("turn", 12)] (.seq (.tup (.cons (.neg (.lit (.int 12))) (.cons (.lit (.int 0)) (.cons (.lit (.int 12)) .nil))))) (.nm 12) false (.lit .none) (.blt .abs (.cons (.bin .Add (.bin .Sub (.var 7) (.var 8)) (.var 12)) .nil))) .nil)
theorem eM_ok (h1 : (v : Int) < 12) (h2 : (w : Int) < 12) : evE fsQ eM (stQ l S R x3 x4 x5 x6 (.val (.int v)) (.val (.int w)) x9) = .ok (.d (.int (steps v w))) (stQ l S R x3 x4 x5 x6 (.val (.int v)) (.val (.int w)) x9) := by
  have hc : compK fsQ [("turn", 12)] (.nm 12) false (.lit .none) (.blt .abs (.cons (.bin .Add (.bin .Sub (.var 7) (.var 8)) (.var 12)) .nil)) [.int (-12), .int 0, .int 12] (stQ l S R x3 x4 x5 x6 (.val (.int v)) (.val (.int w)) x9) = .ok (.f ([-12, 0, 12].map fun t : Int => .int (absI ((v : Int) - w + t)))) (stQ l S R x3 x4 x5 x6 (.val (.int v)) (.val (.int w)) x9) := by
    rw [compK_all (fun x => match x with | .int t => .int (absI ((v : Int) - w + t)) | _ => .none) (by show 3 ≤ 16777216; omega) rfl rfl fun x hx => ?_]
    · rfl
    · have hx : ∃ t : Int, x = .int t := by
        simp only [List.mem_cons, List.not_mem_nil, or_false] at hx
        rcases hx with rfl | rfl | rfl <;> exact ⟨_, rfl⟩
      obtain ⟨t, rfl⟩ := hx
      refine ⟨[.lent l, .val (songsD S), .val (rowD R), x3, x4, x5, x6, .val (.int v), .val (.int w), x9, .no, .no, .val (.int t)], rfl, ?_, rfl⟩
      generalize hst : ([.lent l, .val (songsD S), .val (rowD R), x3, x4, x5, x6, .val (.int v), .val (.int w), x9, .no, .no, .val (.int t)] : Sl) = st
      have g7 : st[7]? = some (.val (.int v)) := by rw [← hst]; rfl
      have g8 : st[8]? = some (.val (.int w)) := by rw [← hst]; rfl
      have g12 : st[12]? = some (.val (.int t)) := by rw [← hst]; rfl
      rw [ev_blt, evs_one, ev_bin, ev_bin, ev_val g7, bind_ok, ev_val g8, bind_ok, sub_i, bind_ok, ev_val g12, bind_ok, add_i, bind_ok, bind_ok, abs_k]
  generalize stQ l S R x3 x4 x5 x6 (.val (.int v)) (.val (.int w)) x9 = st at *
  have ht : tupK [.d (.int (-12)), .d (.int 0), .d (.int 12)] st = .ok (.d (.tuple [.int (-12), .int 0, .int 12])) st := tupK_ok (xs := [.int (-12), .int 0, .int 12]) rfl (by show 3 ≤ 16777216; omega)
  have hm : bltK .min1 [.f ([-12, 0, 12].map fun t : Int => .int (absI ((v : Int) - w + t)))] st = .ok (.d (.int (steps v w))) st := by
    refine bltK_ok (xs := [.list ([-12, 0, 12].map fun t : Int => .int (absI ((v : Int) - w + t)))]) rfl ?_
    simp only [bltD, intsOf_map, Option.bind_some]
    rw [steps_min (by omega) h1 (by omega) h2]
    rfl
  rw [ev_blt, evs_one, ev_comp, evi_seq, ev_tup, evs_cons, ev_neg, ev_lit, bind_ok, negK_i, bind_ok, evs_cons, ev_lit, bind_ok, evs_one, ev_lit, bind_ok, bind_ok, bind_ok, bind_ok]
  simp only [stl_d]
  rw [ht, bind_ok, itmI_t, bind_ok, hc, bind_ok, bind_ok, hm]
abbrev eE : CE := .andE (.cmp .Eq (.call 10 (.cons (.var 7) (.cons (.var 8) .nil))) (.var 9)) (.andE (.cmp .Eq (.callk 10 (.nil) ["two", "one"] (.cons (.var 8) (.cons (.var 7) .nil)) [1, 0]) (.var 9)) (.call 11 (.cons (.var 0) (.cons (.var 1) (.cons (.var 2) .nil)))))
theorem key_in {v : Nat} (h : (v : Int) < 12) : isIn (.int v) 0 11 = true := by
  simp only [isIn, Bool.and_eq_true, decide_eq_true_eq]; omega
theorem eE_ok (h : dOk (k + 4) l) (h1 : (v : Int) < 12) (h2 : (w : Int) < 12) (h3 : areSongs (songsD S) = true) (h4 : areRules (rowD R) = true)
    (g0 : st[0]? = some (.lent l)) (g1 : st[1]? = some (.val (songsD S))) (g2 : st[2]? = some (.val (rowD R))) (g7 : st[7]? = some (.val (.int v))) (g8 : st[8]? = some (.val (.int w))) (g9 : st[9]? = some (.val (.int (steps v w)))) :
    ∃ l', dOk k l' ∧ evE fsQ eE st = .ok (.d (.bool true)) (st.set 0 (.lent l')) := by
  obtain ⟨l', hd, hc⟩ := c_refuses (k := k) (S := S) (R := R) (r := st) g0 h3 h4 h
  refine ⟨l', hd, ?_⟩
  have ck := c_key_steps (r := st) (key_in h1) (key_in h2)
  have hq : cmpK .Eq (.d (.int (steps v w))) (.d (.int (steps v w))) st = .ok (.d (.bool true)) st := by rw [eq_i, decide_eq_true rfl]
  rw [ev_and, ev_cmp, ca2 (show fsQ[10]? = some f_key_steps from rfl) g7 g8, ck, bind_ok, ev_val g9, bind_ok, hq, bind_ok, tstK_t, ev_and, ev_cmp, ck2 (show fsQ[10]? = some f_key_steps from rfl) g8 g7, ck, bind_ok, ev_val g9, bind_ok, hq, bind_ok, tstK_t,
    ev_call _ (show fsQ[11]? = some f__law_refuses from rfl), evs_cons, ev_lent g0, bind_ok, evs_cons, ev_val g1, bind_ok, evs_one, ev_val g2, bind_ok, bind_ok, bind_ok, bind_ok, stl_s, stl_d, hc]
end
end KL
namespace KL
open PySem SR
section
variable {l : List D} {S : List Row} {R : Row} {p g : List Nat} {k : Nat} {st : Sl} {v w : Nat}
abbrev retF : CSs := .cons (.ret (.lit (.bool false))) .nil
abbrev t78 : CS := .asg (.tp (.cons (.nm 7) (.cons (.nm 8) .nil))) (.tup (.cons (.call 2 (.cons (.var 0) (.cons (.lit (.int 12)) .nil))) (.cons (.call 2 (.cons (.var 0) (.cons (.lit (.int 12)) .nil))) .nil)))
abbrev body4 : CSs := .cons t78 (.cons (.set 9 false eM) (.cons (.ret eE) .nil))
abbrev body3 : CSs := .cons (.set 6 false eA) (.cons (.ife q4 retF .nil) (.cons (.ife q5 retF .nil) body4))
abbrev body2 : CSs := .cons (.set 5 false (.call 5 (.cons (.var 1) (.cons (.var 2) (.cons (.var 4) .nil))))) (.cons (.ife q1 retF .nil) (.cons (.ife q2 retF .nil) (.cons (.ife q3 retF .nil) body3)))
theorem ifF {fs : List FI} {c : CE} {a : CSs} {r : Sl} (h : evE fs c r = .ok (.d (.bool false)) r) : exS fs (.ife c a .nil) r = .nx r := by
  rw [ex_if, h, sr_ok, ifK_b, if_neg (by simp), exs_nil]
theorem run4 {x3 x4 x5 x6 : SV} (h : dOk (k + 6) l) (h1 : areSongs (songsD S) = true) (h2 : areRules (rowD R) = true) :
    ∃ l' r', dOk k l' ∧ r'[0]? = some (.lent l') ∧ exSs fsQ body4 (stQ l S R x3 x4 x5 x6 .no .no .no) = .rt (.dat (.bool true)) r' := by
  obtain ⟨v, l1, hv, h, e1⟩ := rollL (r := stQ l S R x3 x4 x5 x6 .no .no .no) (k := k + 5) (fs := fsQ) (i := 2) (n := 12) rfl rfl h (by omega) (by omega)
  obtain ⟨w, l2, hw, h, e2⟩ := rollL (r := stQ l1 S R x3 x4 x5 x6 .no .no .no) (k := k + 4) (fs := fsQ) (i := 2) (n := 12) rfl rfl h (by omega) (by omega)
  have hm := eM_ok (l := l2) (S := S) (R := R) (x3 := x3) (x4 := x4) (x5 := x5) (x6 := x6) (x9 := .no) hv hw
  obtain ⟨l3, h, he⟩ := eE_ok (k := k) (l := l2) (S := S) (R := R) (st := stQ l2 S R x3 x4 x5 x6 (.val (.int v)) (.val (.int w)) (.val (.int (steps v w)))) h hv hw h1 h2 rfl rfl rfl rfl rfl rfl
  have ht : tupK [.d (.int v), .d (.int w)] (stQ l2 S R x3 x4 x5 x6 .no .no .no) = .ok (.d (.tuple [.int v, .int w])) (stQ l2 S R x3 x4 x5 x6 .no .no .no) := tupK_ok (xs := [.int v, .int w]) rfl (by show 2 ≤ 16777216; omega)
  have ha : asgK (.tp (.cons (.nm 7) (.cons (.nm 8) .nil))) (.d (.tuple [.int v, .int w])) (stQ l2 S R x3 x4 x5 x6 .no .no .no) = .nx (stQ l2 S R x3 x4 x5 x6 (.val (.int v)) (.val (.int w)) .no) := rfl
  have hs : setK 9 false (.d (.int (steps v w))) (stQ l2 S R x3 x4 x5 x6 (.val (.int v)) (.val (.int w)) .no) = .nx (stQ l2 S R x3 x4 x5 x6 (.val (.int v)) (.val (.int w)) (.val (.int (steps v w)))) := setK_no rfl
  refine ⟨l3, (stQ l2 S R x3 x4 x5 x6 (.val (.int v)) (.val (.int w)) (.val (.int (steps v w)))).set 0 (.lent l3), h, rfl, ?_⟩
  rw [exs_cons, ex_asg, ev_tup, evs_cons, e1, bind_ok, List.set_cons_zero, evs_one, e2, bind_ok, List.set_cons_zero, bind_ok, bind_ok, stl_d, ht, sr_ok, ha, seqK_nx, exs_cons, ex_set, hm, sr_ok, hs, seqK_nx, exs_cons, ex_ret, he, sr_ok, retS_d, seqK_rt]
theorem run3 (h : dOk (k + 6) l) (h1 : areSongs (songsD S) = true) (h2 : areRules (rowD R) = true) (hR : okR R) (hS : S.length ≤ 8) (hp : okP S p) (hl : p.length ≤ 300) (hg : okP S g) (hG : allT S R g = []) (hgl : g.length ≤ 300) :
    ∃ l' r', dOk k l' ∧ r'[0]? = some (.lent l') ∧ exSs fsQ body3 (stQ l S R (.val (plD g)) (.val (plD p)) (.val (.list (allT S R p))) .no .no .no .no) = .rt (.dat (.bool true)) r' := by
  obtain ⟨l1, r1, a1, a2, a3⟩ := run4 (k := k) (l := l) (S := S) (R := R) (x3 := .val (plD g)) (x4 := .val (plD p)) (x5 := .val (.list (allT S R p))) (x6 := .val (.list (folB S R g))) h h1 h2
  refine ⟨l1, r1, a1, a2, ?_⟩
  have he := eA_ok (l := l) (x4 := .val (plD p)) (x5 := .val (.list (allT S R p))) (x6 := .no) (x7 := .no) (x8 := .no) (x9 := .no) hR hg hG hgl hS
  have hs : setK 6 false (.f (folB S R g)) (stQ l S R (.val (plD g)) (.val (plD p)) (.val (.list (allT S R p))) .no .no .no .no) = .nx (stQ l S R (.val (plD g)) (.val (plD p)) (.val (.list (allT S R p))) (.val (.list (folB S R g))) .no .no .no) := setK_nof rfl
  have h4 := q4_ok (st := stQ l S R (.val (plD g)) (.val (plD p)) (.val (.list (allT S R p))) (.val (.list (folB S R g))) .no .no .no) rfl rfl rfl rfl h1 h2 hR hg hG hgl hS
  have h5 := q5_ok (st := stQ l S R (.val (plD g)) (.val (plD p)) (.val (.list (allT S R p))) (.val (.list (folB S R g))) .no .no .no) rfl rfl rfl rfl h1 h2 hR hp hl
  rw [exs_cons, ex_set, he, sr_ok, hs, seqK_nx, exs_cons, ifF h4, seqK_nx, exs_cons, ifF h5, seqK_nx, a3]
theorem run2 (h : dOk (k + 6) l) (h1 : areSongs (songsD S) = true) (h2 : areRules (rowD R) = true) (hR : okR R) (hS : S.length ≤ 8) (hp : okP S p) (hl : p.length ≤ 300) (hg : okP S g) (hG : allT S R g = []) (hgl : g.length ≤ 300) :
    ∃ l' r', dOk k l' ∧ r'[0]? = some (.lent l') ∧ exSs fsQ body2 (stQ l S R (.val (plD g)) (.val (plD p)) .no .no .no .no .no) = .rt (.dat (.bool true)) r' := by
  obtain ⟨l1, r1, a1, a2, a3⟩ := run3 (k := k) (l := l) h h1 h2 hR hS hp hl hg hG hgl
  refine ⟨l1, r1, a1, a2, ?_⟩
  have hb := c_s_broken (R := R) (r := stQ l S R (.val (plD g)) (.val (plD p)) .no .no .no .no .no) hp (by omega)
  have hs : setK 5 false (.f (allT S R p)) (stQ l S R (.val (plD g)) (.val (plD p)) .no .no .no .no .no) = .nx (stQ l S R (.val (plD g)) (.val (plD p)) (.val (.list (allT S R p))) .no .no .no .no) := setK_nof rfl
  have e1 := q1_ok (st := stQ l S R (.val (plD g)) (.val (plD p)) (.val (.list (allT S R p))) .no .no .no .no) rfl rfl rfl rfl h1 h2 hR hp hl
  have e2 := q2_ok (l := l) (x5 := .val (.list (allT S R p))) (x6 := .no) (x7 := .no) (x8 := .no) (x9 := .no) h1 h2 hR hp hl hg hG hgl
  have e3 := q3_ok (l := l) (R := R) (x4 := .val (plD p)) (x5 := .val (.list (allT S R p))) (x6 := .no) (x7 := .no) (x8 := .no) (x9 := .no) h1 hg hgl
  rw [exs_cons, ex_set, ca3 (show fsQ[5]? = some f__law_s_broken from rfl) (show (stQ l S R (.val (plD g)) (.val (plD p)) .no .no .no .no .no)[1]? = some (.val (songsD S)) from rfl) (show (stQ l S R (.val (plD g)) (.val (plD p)) .no .no .no .no .no)[2]? = some (.val (rowD R)) from rfl) (show (stQ l S R (.val (plD g)) (.val (plD p)) .no .no .no .no .no)[4]? = some (.val (plD p)) from rfl), hb, sr_ok, hs, seqK_nx, exs_cons, ifF e1, seqK_nx, exs_cons, ifF e2, seqK_nx, exs_cons, ifF e3, seqK_nx, a3]
abbrev stA0 (l : List D) : Sl := [.lent l, .no, .no, .no, .no, .no, .no, .no, .no, .no, .no, .no, .no]
theorem right_fn (h : dOk 1000 l) : ∃ l', f__law_right.fn [.lent l] = .ok (.dat (.bool true)) [.lent l'] := by
  obtain ⟨S, l1, s1, s2, s3, h, c1⟩ := c_s_songs (k := 900) (r := stA0 l) rfl (dOk_le h (by omega))
  obtain ⟨R, l2, hR, r1, h, c2⟩ := c_s_rules (k := 800) (r := stA0 l1) rfl (dOk_le h (by omega))
  obtain ⟨v, l3, hv, h, e3⟩ := rollL (r := stR l2 S R .no .no) (k := 700) (fs := fsQ) (i := 2) (n := 12) rfl rfl (dOk_le h (by omega)) (by omega) (by omega)
  obtain ⟨g, l4, hg, hG, hgl, h, c4⟩ := c_s_list (k := 600) (R := R) (S := S) (n := v) (r := stR l3 S R .no .no) hR s2 (by omega) rfl (dOk_le h (by omega))
  obtain ⟨p, l5, hp, hl, h, c5⟩ := drawE (R := R) (S := S) (k := 500) (dOk_le h (by omega)) hg (by omega) s3 s2
  obtain ⟨l6, r6, h, a2, a3⟩ := run2 (k := 400) (dOk_le h (by omega)) s1 r1 hR s2 hp (by omega) hg hG (by omega)
  have ht : tupK [.d (songsD S), .d (rowD R)] (stA0 l2) = .ok (.d (.tuple [songsD S, rowD R])) (stA0 l2) := tupK_ok (xs := [songsD S, rowD R]) rfl (by show 2 ≤ 16777216; omega)
  have ha : asgK (.tp (.cons (.nm 1) (.cons (.nm 2) .nil))) (.d (.tuple [songsD S, rowD R])) (stA0 l2) = .nx (stR l2 S R .no .no) := rfl
  have hs3 : setK 3 false (.d (plD g)) (stR l4 S R .no .no) = .nx (stR l4 S R (.val (plD g)) .no) := setK_no rfl
  have hs4 : setK 4 false (.d (plD p)) (stR l5 S R (.val (plD g)) .no) = .nx (stQ l5 S R (.val (plD g)) (.val (plD p)) .no .no .no .no .no) := setK_no rfl
  refine ⟨l6, ?_⟩
  rw [show f__law_right.fn = runB 13 fsQ b__law_right from rfl, runB_eq]
  show endK _ (exSs fsQ (.cons (.asg (.tp (.cons (.nm 1) (.cons (.nm 2) .nil))) (.tup (.cons (.call 1 (.cons (.var 0) (.cons (.lit (.int 8)) (.cons (.lit (.int 60)) .nil)))) (.cons (.call 0 (.cons (.var 0) (.cons (.lit (.int 4)) .nil))) .nil)))) (.cons (.set 3 false (.call 3 (.cons (.var 0) (.cons (.var 1) (.cons (.var 2) (.cons (.call 2 (.cons (.var 0) (.cons (.lit (.int 12)) .nil))) .nil)))))) (.cons (.set 4 false (.call 4 (.cons (.var 0) (.cons eL .nil)))) body2))) (stA0 l)) = _
  rw [exs_cons, ex_asg, ev_tup, evs_cons, ev_call _ (show fsQ[1]? = some f__law_s_songs from rfl), evs_cons, ev_lent (show (stA0 l)[0]? = some (.lent l) from rfl), bind_ok, evs_cons, ev_lit, bind_ok, evs_one, ev_lit, bind_ok, bind_ok, bind_ok, bind_ok, stl_s, stl_d, c1, bind_ok, List.set_cons_zero,
    evs_one, ev_call _ (show fsQ[0]? = some f__law_s_rules from rfl), evs_cons, ev_lent (show (stA0 l1)[0]? = some (.lent l1) from rfl), bind_ok, evs_one, ev_lit, bind_ok, bind_ok, bind_ok, stl_s, c2, bind_ok, List.set_cons_zero, bind_ok, bind_ok, stl_d, ht, sr_ok, ha, seqK_nx,
    exs_cons, ex_set, ev_call _ (show fsQ[3]? = some f__law_s_list from rfl), evs_cons, ev_lent (show (stR l2 S R .no .no)[0]? = some (.lent l2) from rfl), bind_ok, evs_cons, ev_val (show (stR l2 S R .no .no)[1]? = some (.val (songsD S)) from rfl), bind_ok, evs_cons, ev_val (show (stR l2 S R .no .no)[2]? = some (.val (rowD R)) from rfl), bind_ok, evs_one, e3, bind_ok, List.set_cons_zero, bind_ok, bind_ok, bind_ok, bind_ok, stl_s, stl_d, stl_d, c4, sr_ok, List.set_cons_zero, hs3, seqK_nx,
    exs_cons, ex_set, c5, sr_ok, hs4, seqK_nx, a3, endK_rt]
  have hr : ∃ rest, r6 = .lent l6 :: rest := by
    cases r6 with
    | nil => simp at a2
    | cons x rest => simp at a2; exact ⟨rest, by rw [a2]⟩
  obtain ⟨rest, rfl⟩ := hr
  cases rest <;> rfl
theorem c_right {r : Sl} (h : dOk 1000 l) : callF f__law_right [.f l] r = .ok (.d (.bool true)) r := by
  obtain ⟨l', hf⟩ := right_fn h
  exact call_lenF rfl hf
end
/-! ### the law -/
abbrev fsW : List FI := [f__law_dice, f__law_right, f_key_steps, f_is_good]
abbrev bodyW : CSs := .cons (.ife (.notE (.call 1 (.cons (.call 0 (.cons (.var 0) (.cons (.var 1) .nil))) .nil))) (.cons (.ret (.lit (.bool false))) .nil) (.nil)) .nil
section
variable {ns : List Int} {s : Nat}
abbrev stW (ns : List Int) (x : SV) : Sl := [.scr (xsI ns), x]
theorem stepW (hs : s < 100) (hn : ns.length ≤ 63) : exSs fsW bodyW (stW ns (.val (.int (s : Int)))) = .nx (stW ns (.val (.int (s : Int)))) := by
  obtain ⟨l, h1, h2⟩ := c_dice (ns := ns) (s := s) (r := stW ns (.val (.int (s : Int)))) rfl hs hn
  have h3 := c_right (r := stW ns (.val (.int (s : Int)))) h1
  have hc : evE fsW (.notE (.call 1 (.cons (.call 0 (.cons (.var 0) (.cons (.var 1) .nil))) .nil))) (stW ns (.val (.int (s : Int)))) = .ok (.d (.bool false)) (stW ns (.val (.int (s : Int)))) := by
    rw [ev_not, ev_call _ (show fsW[1]? = some f__law_right from rfl), evs_one, ev_call _ (show fsW[0]? = some f__law_dice from rfl), evs_cons, ev_scr (show (stW ns (.val (.int (s : Int))))[0]? = some (.scr (xsI ns)) from rfl), bind_ok, evs_one, ev_val (show (stW ns (.val (.int (s : Int))))[1]? = some (.val (.int (s : Int))) from rfl), bind_ok, bind_ok, bind_ok, stl_s, h2, bind_ok, bind_ok, h3, bind_ok, notK_b, Bool.not_true]
  rw [exs_cons, ifF hc, seqK_nx, exs_nil]
theorem loopW {n : Nat} (hn : n ≤ 8) (hl : ns.length ≤ 63) : ∃ x, forK fsW (.nm 1) bodyW ((List.range n).map fun k : Nat => .int (k : Int)) (stW ns .no) = .nx (stW ns x) := by
  obtain ⟨r', ⟨x, hx, rfl⟩, h⟩ := forK_nx (fs := fsW) (tg := .nm 1) (body := bodyW) (fun _ r => ∃ x, okX x ∧ r = stW ns x)
    ((List.range n).map fun k : Nat => .int (k : Int)) 0 (stW ns .no) ⟨.no, .inl rfl, rfl⟩ (by
      rintro j y hy r ⟨x, hx, rfl⟩
      rw [List.getElem?_map, Option.map_eq_some_iff] at hy
      obtain ⟨k', hk, rfl⟩ := hy
      obtain ⟨hkl, hke⟩ := List.getElem?_eq_some_iff.mp hk
      rw [List.length_range] at hkl
      rw [List.getElem_range] at hke
      subst hke
      exact ⟨_, _, set_x (show (stW ns x)[1]? = some x from rfl) hx, stepW (by omega) hl, ⟨_, .inr ⟨_, rfl⟩, rfl⟩⟩)
  exact ⟨x, h⟩
theorem law_true (ns : List Int) (hl : ns.length ≤ 63) : ∃ as, f_law.fn [.scr (ns.map .int)] = .ok (.dat (.bool true)) as := by
  have hm : ∃ n : Nat, n ≤ 8 ∧ maxI 1 (minI 8 ns.length) = n := by
    refine ⟨(maxI 1 (minI 8 ns.length)).toNat, ?_, ?_⟩
    · unfold maxI minI; repeat' split
      all_goals omega
    · unfold maxI minI; repeat' split
      all_goals omega
  obtain ⟨n, hn, hm⟩ := hm
  obtain ⟨x, hf⟩ := loopW (ns := ns) hn hl
  refine ⟨[.scr (xsI ns)], ?_⟩
  rw [show f_law.fn = runB 2 fsW b_law from rfl, runB_eq]
  show endK _ (exSs fsW (.cons (.forS (.rng1 (.blt .max2 (.cons (.lit (.int 1)) (.cons (.blt .min2 (.cons (.lit (.int 8)) (.cons (.blt .len (.cons (.var 0) .nil)) .nil))) .nil)))) (.nm 1) bodyW) (.cons (.ret (.andE (.cmp .Eq (.call 2 (.cons (.lit (.int 11)) (.cons (.lit (.int 1)) .nil))) (.lit (.int 2))) (.call 3 (.cons (.tup (.cons (.tup (.cons (.lit (.int 0)) (.cons (.lit (.int 0)) (.cons (.lit (.int 100)) (.cons (.lit (.int 0)) (.cons (.lit (.int 1)) .nil)))))) .nil)) (.cons (.tup (.cons (.lit (.int 1)) (.cons (.lit (.int 1)) (.cons (.lit (.int 1)) (.cons (.lit (.int 0)) (.cons (.lit (.int 0)) .nil)))))) (.cons (.tup (.cons (.lit (.int 0)) (.cons (.lit (.int 0)) (.cons (.lit (.int 0)) .nil)))) .nil)))))) .nil)) (stW ns .no)) = _
  have hlen : bltK .len [.s 0] (stW ns .no) = .ok (.d (.int ns.length)) (stW ns .no) := bltK_ok (xs := [.list (xsI ns)]) (by rw [fixAll_s [] (fixW_scr (show (stW ns .no)[0]? = some (.scr (xsI ns)) from rfl))]; rfl) (by simp only [bltD]; rw [show (xsI ns).length = ns.length from List.length_map _])
  have hr : rngW1 (.d (.int (n : Int))) (stW ns .no) = .ok ((List.range n).map fun k : Nat => .int (k : Int)) (stW ns .no) := by
    rw [rngW1_ok (by omega) (by omega), rangeD_map0, Int.toNat_natCast]
  have hk := c_key_steps (r := stW ns x) (i := 11) (j := 1) rfl rfl
  have hq : cmpK .Eq (.d (.int (steps 11 1))) (.d (.int 2)) (stW ns x) = .ok (.d (.bool true)) (stW ns x) := by rw [eq_i]; rfl
  have hgd := c_is_good (r := stW ns x) (S := [(0, 0, 100, 0, 1)]) (R := (1, 1, 1, 0, 0)) (p := [0, 0, 0]) (by decide) (by decide) (fun i hi => by
    have : i = 0 := by simpa using hi
    subst this; exact Nat.zero_lt_one) (by decide)
  rw [show goodB [(0, 0, 100, 0, 1)] (1, 1, 1, 0, 0) [0, 0, 0] = true by decide] at hgd
  have t1 : tupK [.d (.int 0), .d (.int 0), .d (.int 100), .d (.int 0), .d (.int 1)] (stW ns x) = .ok (.d (rowD (0, 0, 100, 0, 1))) (stW ns x) := tupK_ok (xs := [.int 0, .int 0, .int 100, .int 0, .int 1]) rfl (by show 5 ≤ 16777216; omega)
  have t2 : tupK [.d (rowD (0, 0, 100, 0, 1))] (stW ns x) = .ok (.d (songsD [(0, 0, 100, 0, 1)])) (stW ns x) := tupK_ok (xs := [rowD (0, 0, 100, 0, 1)]) rfl (by show 1 ≤ 16777216; omega)
  have t3 : tupK [.d (.int 1), .d (.int 1), .d (.int 1), .d (.int 0), .d (.int 0)] (stW ns x) = .ok (.d (rowD (1, 1, 1, 0, 0))) (stW ns x) := tupK_ok (xs := [.int 1, .int 1, .int 1, .int 0, .int 0]) rfl (by show 5 ≤ 16777216; omega)
  have t4 : tupK [.d (.int 0), .d (.int 0), .d (.int 0)] (stW ns x) = .ok (.d (plD [0, 0, 0])) (stW ns x) := tupK_ok (xs := [.int 0, .int 0, .int 0]) rfl (by show 3 ≤ 16777216; omega)
  rw [exs_cons, ex_for, evi_rng1, ev_blt, evs_cons, ev_lit, bind_ok, evs_one, ev_blt, evs_cons, ev_lit, bind_ok, evs_one, ev_blt, evs_one, ev_scr (show (stW ns .no)[0]? = some (.scr (xsI ns)) from rfl), bind_ok, bind_ok, hlen, bind_ok, bind_ok, bind_ok, stl_d, min_k, bind_ok, bind_ok, bind_ok, stl_d, max_k, hm, bind_ok, hr, sr_ok, hf, seqK_nx,
    exs_cons, ex_ret, ev_and, ev_cmp, ev_call _ (show fsW[2]? = some f_key_steps from rfl), evs_cons, ev_lit, bind_ok, evs_one, ev_lit, bind_ok, bind_ok, bind_ok, stl_d, hk, bind_ok, ev_lit, bind_ok, hq, bind_ok, tstK_t, ev_call _ (show fsW[3]? = some f_is_good from rfl)]
  have hE : evE fsW (.tup (.cons (.tup (.cons (.lit (.int 0)) (.cons (.lit (.int 0)) (.cons (.lit (.int 100)) (.cons (.lit (.int 0)) (.cons (.lit (.int 1)) .nil)))))) .nil)) (stW ns x) = .ok (.d (songsD [(0, 0, 100, 0, 1)])) (stW ns x) := by
    generalize stW ns x = st at *
    simp only [evs_cons, evs_one, ev_tup, ev_lit, bind_ok, stl_d, t1, t2]
  have hE2 : evE fsW (.tup (.cons (.lit (.int 1)) (.cons (.lit (.int 1)) (.cons (.lit (.int 1)) (.cons (.lit (.int 0)) (.cons (.lit (.int 0)) .nil)))))) (stW ns x) = .ok (.d (rowD (1, 1, 1, 0, 0))) (stW ns x) := by
    generalize stW ns x = st at *
    simp only [evs_cons, evs_one, ev_tup, ev_lit, bind_ok, stl_d, t3]
  have hE3 : evE fsW (.tup (.cons (.lit (.int 0)) (.cons (.lit (.int 0)) (.cons (.lit (.int 0)) .nil)))) (stW ns x) = .ok (.d (plD [0, 0, 0])) (stW ns x) := by
    generalize stW ns x = st at *
    simp only [evs_cons, evs_one, ev_tup, ev_lit, bind_ok, stl_d, t4]
  rw [evs_cons, hE, bind_ok, evs_cons, hE2, bind_ok, evs_one, hE3, bind_ok, bind_ok, bind_ok, bind_ok, stl_d, stl_d, hgd, sr_ok, retS_d, seqK_rt, endK_rt]
  rfl
end
end KL
namespace KL
open PySem PySem.Spec PyProof.Rows L2 SR
set_option maxHeartbeats 0 in
theorem hc_is_in : chkSs S_is_in b_is_in (defBody (topS 4)) = true := by decide +kernel
set_option maxHeartbeats 0 in
theorem hc_are_in : chkSs S_are_in b_are_in (defBody (topS 5)) = true := by decide +kernel
set_option maxHeartbeats 0 in
theorem hc_is_tuple : chkSs S_is_tuple b_is_tuple (defBody (topS 6)) = true := by decide +kernel
set_option maxHeartbeats 0 in
theorem hc_demand : chkSs S_demand b_demand (defBody (topS 7)) = true := by decide +kernel
set_option maxHeartbeats 0 in
theorem hc_is_song : chkSs S_is_song b_is_song (defBody (topS 17)) = true := by decide +kernel
set_option maxHeartbeats 0 in
theorem hc_are_songs : chkSs S_are_songs b_are_songs (defBody (topS 18)) = true := by decide +kernel
set_option maxHeartbeats 0 in
theorem hc_are_rules : chkSs S_are_rules b_are_rules (defBody (topS 19)) = true := by decide +kernel
set_option maxHeartbeats 0 in
theorem hc_demand_rules : chkSs S_demand_rules b_demand_rules (defBody (topS 20)) = true := by decide +kernel
set_option maxHeartbeats 0 in
theorem hc_is_list : chkSs S_is_list b_is_list (defBody (topS 21)) = true := by decide +kernel
set_option maxHeartbeats 0 in
theorem hc_steps_of : chkSs S_steps_of b_steps_of (defBody (topS 22)) = true := by decide +kernel
set_option maxHeartbeats 0 in
theorem hc_key_steps : chkSs S_key_steps b_key_steps (defBody (topS 23)) = true := by decide +kernel
set_option maxHeartbeats 0 in
theorem hc_marks_of : chkSs S_marks_of b_marks_of (defBody (topS 24)) = true := by decide +kernel
set_option maxHeartbeats 0 in
theorem hc_broken : chkSs S_broken b_broken (defBody (topS 25)) = true := by decide +kernel
set_option maxHeartbeats 0 in
theorem hc_is_next : chkSs S_is_next b_is_next (defBody (topS 26)) = true := by decide +kernel
set_option maxHeartbeats 0 in
theorem hc_is_good_of : chkSs S_is_good_of b_is_good_of (defBody (topS 27)) = true := by decide +kernel
set_option maxHeartbeats 0 in
theorem hc_demand_list : chkSs S_demand_list b_demand_list (defBody (topS 28)) = true := by decide +kernel
set_option maxHeartbeats 0 in
theorem hc_is_good : chkSs S_is_good b_is_good (defBody (topS 29)) = true := by decide +kernel
set_option maxHeartbeats 0 in
theorem hc_faults : chkSs S_faults b_faults (defBody (topS 30)) = true := by decide +kernel
set_option maxHeartbeats 0 in
theorem hc_time_of : chkSs S_time_of b_time_of (defBody (topS 31)) = true := by decide +kernel
set_option maxHeartbeats 0 in
theorem hc_demand_good : chkSs S_demand_good b_demand_good (defBody (topS 32)) = true := by decide +kernel
set_option maxHeartbeats 0 in
theorem hc_followers : chkSs S_followers b_followers (defBody (topS 33)) = true := by decide +kernel
set_option maxHeartbeats 0 in
theorem hc_can_follow : chkSs S_can_follow b_can_follow (defBody (topS 34)) = true := by decide +kernel
set_option maxHeartbeats 0 in
theorem hc__law_dice : chkSs S__law_dice b__law_dice (defBody (topS 36)) = true := by decide +kernel
set_option maxHeartbeats 0 in
theorem hc__law_roll : chkSs S__law_roll b__law_roll (defBody (topS 37)) = true := by decide +kernel
set_option maxHeartbeats 0 in
theorem hc__law_pick : chkSs S__law_pick b__law_pick (defBody (topS 38)) = true := by decide +kernel
set_option maxHeartbeats 0 in
theorem hc__law_s_songs : chkSs S__law_s_songs b__law_s_songs (defBody (topS 40)) = true := by decide +kernel
set_option maxHeartbeats 0 in
theorem hc__law_s_rules : chkSs S__law_s_rules b__law_s_rules (defBody (topS 41)) = true := by decide +kernel
set_option maxHeartbeats 0 in
theorem hc__law_s_broken : chkSs S__law_s_broken b__law_s_broken (defBody (topS 42)) = true := by decide +kernel
set_option maxHeartbeats 0 in
theorem hc__law_s_next : chkSs S__law_s_next b__law_s_next (defBody (topS 43)) = true := by decide +kernel
set_option maxHeartbeats 0 in
theorem hc__law_s_list : chkSs S__law_s_list b__law_s_list (defBody (topS 44)) = true := by decide +kernel
set_option maxHeartbeats 0 in
theorem hc__law_s_bad : chkSs S__law_s_bad b__law_s_bad (defBody (topS 45)) = true := by decide +kernel
set_option maxHeartbeats 0 in
theorem hc__law_s_odd : chkSs S__law_s_odd b__law_s_odd (defBody (topS 46)) = true := by decide +kernel
set_option maxHeartbeats 0 in
theorem hc__law_refuses : chkSs S__law_refuses b__law_refuses (defBody (topS 47)) = true := by decide +kernel
set_option maxHeartbeats 0 in
theorem hc__law_right : chkSs S__law_right b__law_right (defBody (topS 48)) = true := by decide +kernel
set_option maxHeartbeats 0 in
theorem hc_law : chkSs S_law b_law (defBody (topS 49)) = true := by decide +kernel
abbrev theLaw := PySem.Challenge.rw_spinround_k00_whole_lists
def allC : List (Str × D) := [("BOUNDS", d_BOUNDS), ("MOST_SONGS", d_MOST_SONGS), ("MOST_GAP", d_MOST_GAP), ("MOST_JUMP", d_MOST_JUMP), ("MOST_TURN", d_MOST_TURN), ("KEYS", d_KEYS), ("WORDS", d_WORDS), ("MOST_PLAYED", d_MOST_PLAYED)]
def allB : List Str := ["isinstance", "int", "bool", "tuple", "len", "all", "zip", "abs", "min", "enumerate", "range", "max", "sum"]
set_option maxHeartbeats 0 in
theorem all_mk {w : World} {K : PySem.W.Frag} {h : Heap} {mg : Str → Option Value} {fa : Addr} (X : K.In h) (Gn : h.Ns mainGlobals mg) (hfa : mg "law" = some (.ref fa))
    {C fI cc cda gR : Addr} {nmC qC : Str} {NC : Addr} {bsC : List Value} {S0 : Addr} {snC : List Str} {subC : List Value} {abC : Bool} {colC : Option Bool} {ddC : Option Addr} {m0 m1 m2 m3 m5 : Option Value}
    {odI anI : Option Addr} {slI : Array (Option Value)} {ocI dcI pmI ctI : Value}
    {clC : Value} {cldC : Option Addr} {cslC : Array (Option Value)} {ccA : Value} {cddA : Option Addr} {vsA : Array Value} {csA : Array (Option Value)} {fileA : Str} {tfA : Tok}
    {ocR kVR dcR pmR cdR ctR : Value} {odR anR : Option Addr} {slR : Array (Option Value)}
    {a0 : Addr} {oc0 kV0 dc0 pm0 ct0 : Value} {cd0 : Value} {od0 an0 : Option Addr} {sl0 : Array (Option Value)}
    {a1 : Addr} {oc1 kV1 dc1 pm1 ct1 : Value} {cd1 : Value} {od1 an1 : Option Addr} {sl1 : Array (Option Value)}
    {a2 : Addr} {oc2 kV2 dc2 pm2 ct2 : Value} {cd2 : Value} {od2 an2 : Option Addr} {sl2 : Array (Option Value)}
    {a3 : Addr} {oc3 kV3 dc3 pm3 ct3 : Value} {cd3 : Value} {od3 an3 : Option Addr} {sl3 : Array (Option Value)}
    {a4 : Addr} {oc4 kV4 dc4 pm4 ct4 : Value} {cd4 : Value} {od4 an4 : Option Addr} {sl4 : Array (Option Value)}
    {a5 : Addr} {oc5 kV5 dc5 pm5 ct5 : Value} {cd5 : Value} {od5 an5 : Option Addr} {sl5 : Array (Option Value)}
    {a6 : Addr} {oc6 kV6 dc6 pm6 ct6 : Value} {cd6 : Value} {od6 an6 : Option Addr} {sl6 : Array (Option Value)}
    {a7 : Addr} {oc7 kV7 dc7 pm7 ct7 : Value} {cd7 : Value} {od7 an7 : Option Addr} {sl7 : Array (Option Value)}
    {a8 : Addr} {oc8 kV8 dc8 pm8 ct8 : Value} {cd8 : Value} {od8 an8 : Option Addr} {sl8 : Array (Option Value)}
    {a9 : Addr} {oc9 kV9 dc9 pm9 ct9 : Value} {cd9 : Value} {od9 an9 : Option Addr} {sl9 : Array (Option Value)}
    {a10 : Addr} {oc10 kV10 dc10 pm10 ct10 : Value} {cd10 : Value} {od10 an10 : Option Addr} {sl10 : Array (Option Value)}
    {a11 : Addr} {oc11 kV11 dc11 pm11 ct11 : Value} {cd11 : Value} {od11 an11 : Option Addr} {sl11 : Array (Option Value)}
    {a12 : Addr} {oc12 kV12 dc12 pm12 ct12 : Value} {cd12 : Value} {od12 an12 : Option Addr} {sl12 : Array (Option Value)}
    {a13 : Addr} {oc13 kV13 dc13 pm13 ct13 : Value} {cd13 : Value} {od13 an13 : Option Addr} {sl13 : Array (Option Value)}
    {a14 : Addr} {oc14 kV14 dc14 pm14 ct14 : Value} {cd14 : Value} {od14 an14 : Option Addr} {sl14 : Array (Option Value)}
    {a15 : Addr} {oc15 kV15 dc15 pm15 ct15 : Value} {cd15 : Value} {od15 an15 : Option Addr} {sl15 : Array (Option Value)}
    {a16 : Addr} {oc16 kV16 dc16 pm16 ct16 : Value} {cd16 : Value} {od16 an16 : Option Addr} {sl16 : Array (Option Value)}
    {a17 : Addr} {oc17 kV17 dc17 pm17 ct17 : Value} {cd17 : Value} {od17 an17 : Option Addr} {sl17 : Array (Option Value)}
    {a18 : Addr} {oc18 kV18 dc18 pm18 ct18 : Value} {cd18 : Value} {od18 an18 : Option Addr} {sl18 : Array (Option Value)}
    {a19 : Addr} {oc19 kV19 dc19 pm19 ct19 : Value} {cd19 : Value} {od19 an19 : Option Addr} {sl19 : Array (Option Value)}
    {a20 : Addr} {oc20 kV20 dc20 pm20 ct20 : Value} {cd20 : Value} {od20 an20 : Option Addr} {sl20 : Array (Option Value)}
    {a21 : Addr} {oc21 kV21 dc21 pm21 ct21 : Value} {cd21 : Value} {od21 an21 : Option Addr} {sl21 : Array (Option Value)}
    {a22 : Addr} {oc22 kV22 dc22 pm22 ct22 : Value} {cd22 : Value} {od22 an22 : Option Addr} {sl22 : Array (Option Value)}
    {a23 : Addr} {oc23 kV23 dc23 pm23 ct23 : Value} {cd23 : Value} {od23 an23 : Option Addr} {sl23 : Array (Option Value)}
    {a24 : Addr} {oc24 kV24 dc24 pm24 ct24 : Value} {cd24 : Value} {od24 an24 : Option Addr} {sl24 : Array (Option Value)}
    {a25 : Addr} {oc25 kV25 dc25 pm25 ct25 : Value} {cd25 : Value} {od25 an25 : Option Addr} {sl25 : Array (Option Value)}
    {a26 : Addr} {oc26 kV26 dc26 pm26 ct26 : Value} {cd26 : Value} {od26 an26 : Option Addr} {sl26 : Array (Option Value)}
    {a27 : Addr} {oc27 kV27 dc27 pm27 ct27 : Value} {cd27 : Value} {od27 an27 : Option Addr} {sl27 : Array (Option Value)}
    {a28 : Addr} {oc28 kV28 dc28 pm28 ct28 : Value} {cd28 : Value} {od28 an28 : Option Addr} {sl28 : Array (Option Value)}
    {a29 : Addr} {oc29 kV29 dc29 pm29 ct29 : Value} {cd29 : Value} {od29 an29 : Option Addr} {sl29 : Array (Option Value)}
    {a30 : Addr} {oc30 kV30 dc30 pm30 ct30 : Value} {cd30 : Value} {od30 an30 : Option Addr} {sl30 : Array (Option Value)}
    {a31 : Addr} {oc31 kV31 dc31 pm31 ct31 : Value} {cd31 : Value} {od31 an31 : Option Addr} {sl31 : Array (Option Value)}
    {a32 : Addr} {oc32 kV32 dc32 pm32 ct32 : Value} {cd32 : Addr} {od32 an32 : Option Addr} {sl32 : Array (Option Value)}
    {oct32 : Value} {odt32 : Option Addr} {vst32 : Array Value} {cst32 : Array (Option Value)} {T32 : Addr}
    {a33 : Addr} {oc33 kV33 dc33 pm33 ct33 : Value} {cd33 : Addr} {od33 an33 : Option Addr} {sl33 : Array (Option Value)}
    {oct33 : Value} {odt33 : Option Addr} {vst33 : Array Value} {cst33 : Array (Option Value)} {T33 : Addr}
    {a34 : Addr} {oc34 kV34 dc34 pm34 ct34 : Value} {cd34 : Value} {od34 an34 : Option Addr} {sl34 : Array (Option Value)}
    {u0 : Value}
    {u1 : Value}
    {u2 : Value}
    {u3 : Value}
    {u4 : Value}
    {u5 : Value}
    {u6 : Value}
    {u7 : Value}
    (xC : PySem.W.nsIn K mainGlobals "BadArgument" = some (some (.ref C)))
    (xL : K.lookup C = some (excClassObj nmC qC C NC bsC [.ref S0, .type "ValueError", .type "Exception", .type "BaseException", .type "object"] true snC subC abC colC ddC m0 m1 m2 m3 m5 "ValueError.__new__"))
    (xsa : PySem.W.findIn K (.ref C) "__setattr__" = some (some (.builtin "object.__setattr__")))
    (xga : PySem.W.findIn K (.ref C) "__getattribute__" = some (some (.builtin "BaseException.__getattribute__")))
    (xgg : PySem.W.findIn K (.ref C) "__getattr__" = some none)
    (xnn : PySem.W.findIn K (.ref C) "name" = some none)
    (xi : PySem.W.findIn K (.ref C) "__init__" = some (some (.ref fI)))
    (xt : PySem.W.typeIn K (.ref fI) = some (.type "function"))
    (xl : K.lookup fI = some ⟨ocI, odI, .func (PySem.W.ksFn "__init__" "BadArgument.__init__" (BadX.iA ⟨6, 17, 6, 21⟩ ⟨6, 23, 6, 27⟩) (BadX.iB ⟨7, 8, 7, 13⟩ ⟨7, 8, 7, 15⟩ ⟨7, 8, 7, 24⟩ ⟨7, 25, 7, 29⟩ ⟨7, 8, 7, 30⟩ ⟨7, 8, 7, 30⟩ ⟨8, 8, 8, 12⟩ ⟨8, 8, 8, 17⟩ ⟨8, 20, 8, 24⟩ ⟨8, 8, 8, 24⟩) BadX.iS .none .none dcI pmI anI (.ref cda) ctI cc), slI⟩)
    (xcd : PySem.W.codeIn K (.ref cda) "BadArgument.__init__" = true)
    (xk : PySem.W.keepIn K (.ref C) = true)
    (xe : PySem.W.subIn K (.ref C) (.type "BaseException") = some true)
    (xv : PySem.W.subIn K (.ref C) (.type "ValueError") = some true)
    (xty : PySem.W.typeIn K (.ref C) = some (.type "type"))
    (xhd : PySem.W.hasDictIn K C = true)
    (xic : PySem.W.isClsIn K C = true)
    (xss : PySem.W.subIn K (.ref C) (.ref C) = some true)
    (xsu : PySem.W.ks_superIn K C C "__init__" = some (some (.builtin "ValueError.__init__")))
    (xsl : PySem.W.mroIn K C (.ref C) = some true)
    (xop : PySem.W.nsIn K cStatics "thirdparty.any" = some none)
    (xms : PySem.W.nsIn K mainGlobals "super" = some none)
    (xce : K.lookup cc = some ⟨clC, cldC, .cell (some (.ref C)), cslC⟩)
    (xco : K.lookup cda = some ⟨ccA, cddA, .fields vsA, csA⟩)
    (xvs : vsA[2]? = some (.str fileA tfA))
    (xfi : ((PySem.Challenge.pw_spinround_k00_whole_lists.main.file : Str) == fileA) = true)
    (rm : PySem.W.nsIn K mainGlobals "_law_refused" = some (some (.ref gR)))
    (rl : K.lookup gR = some ⟨ocR, odR, .func (PySem.W.fnOf "_law_refused" "_law_refused" (rA ⟨111, 17, 111, 21⟩) (rB ⟨113, 8, 113, 12⟩ ⟨113, 8, 113, 14⟩ ⟨113, 8, 113, 14⟩ ⟨114, 11, 114, 22⟩ ⟨115, 15, 115, 16⟩ ⟨115, 15, 115, 21⟩ ⟨115, 8, 115, 21⟩ ⟨114, 4, 115, 21⟩ ⟨112, 4, 115, 21⟩ ⟨116, 11, 116, 13⟩ ⟨116, 4, 116, 13⟩) rS .none kVR dcR pmR anR cdR ctR), slR⟩)
    (rc : PySem.W.codeIn K cdR "_law_refused" = true)
    (rk : PySem.W.keepIn K (.ref gR) = true)
    (fa0 : PySem.W.nsIn K mainGlobals "is_in" = some (some (.ref a0)))
    (fl0 : K.lookup a0 = some ⟨oc0, od0, .func (PySem.W.fnOf "is_in" "is_in" (defArgs (topS 4)) (defBody (topS 4)) (defScope (topS 4)) .none kV0 dc0 pm0 an0 cd0 ct0), sl0⟩)
    (fc0 : PySem.W.codeIn K cd0 "is_in" = true)
    (fk0 : PySem.W.keepIn K (.ref a0) = true)
    (fa1 : PySem.W.nsIn K mainGlobals "are_in" = some (some (.ref a1)))
    (fl1 : K.lookup a1 = some ⟨oc1, od1, .func (PySem.W.fnOf "are_in" "are_in" (defArgs (topS 5)) (defBody (topS 5)) (defScope (topS 5)) .none kV1 dc1 pm1 an1 cd1 ct1), sl1⟩)
    (fc1 : PySem.W.codeIn K cd1 "are_in" = true)
    (fk1 : PySem.W.keepIn K (.ref a1) = true)
    (fa2 : PySem.W.nsIn K mainGlobals "is_tuple" = some (some (.ref a2)))
    (fl2 : K.lookup a2 = some ⟨oc2, od2, .func (PySem.W.fnOf "is_tuple" "is_tuple" (defArgs (topS 6)) (defBody (topS 6)) (defScope (topS 6)) .none kV2 dc2 pm2 an2 cd2 ct2), sl2⟩)
    (fc2 : PySem.W.codeIn K cd2 "is_tuple" = true)
    (fk2 : PySem.W.keepIn K (.ref a2) = true)
    (fa3 : PySem.W.nsIn K mainGlobals "demand" = some (some (.ref a3)))
    (fl3 : K.lookup a3 = some ⟨oc3, od3, .func (PySem.W.fnOf "demand" "demand" (defArgs (topS 7)) (defBody (topS 7)) (defScope (topS 7)) .none kV3 dc3 pm3 an3 cd3 ct3), sl3⟩)
    (fc3 : PySem.W.codeIn K cd3 "demand" = true)
    (fk3 : PySem.W.keepIn K (.ref a3) = true)
    (fa4 : PySem.W.nsIn K mainGlobals "is_song" = some (some (.ref a4)))
    (fl4 : K.lookup a4 = some ⟨oc4, od4, .func (PySem.W.fnOf "is_song" "is_song" (defArgs (topS 17)) (defBody (topS 17)) (defScope (topS 17)) .none kV4 dc4 pm4 an4 cd4 ct4), sl4⟩)
    (fc4 : PySem.W.codeIn K cd4 "is_song" = true)
    (fk4 : PySem.W.keepIn K (.ref a4) = true)
    (fa5 : PySem.W.nsIn K mainGlobals "are_songs" = some (some (.ref a5)))
    (fl5 : K.lookup a5 = some ⟨oc5, od5, .func (PySem.W.fnOf "are_songs" "are_songs" (defArgs (topS 18)) (defBody (topS 18)) (defScope (topS 18)) .none kV5 dc5 pm5 an5 cd5 ct5), sl5⟩)
    (fc5 : PySem.W.codeIn K cd5 "are_songs" = true)
    (fk5 : PySem.W.keepIn K (.ref a5) = true)
    (fa6 : PySem.W.nsIn K mainGlobals "are_rules" = some (some (.ref a6)))
    (fl6 : K.lookup a6 = some ⟨oc6, od6, .func (PySem.W.fnOf "are_rules" "are_rules" (defArgs (topS 19)) (defBody (topS 19)) (defScope (topS 19)) .none kV6 dc6 pm6 an6 cd6 ct6), sl6⟩)
    (fc6 : PySem.W.codeIn K cd6 "are_rules" = true)
    (fk6 : PySem.W.keepIn K (.ref a6) = true)
    (fa7 : PySem.W.nsIn K mainGlobals "demand_rules" = some (some (.ref a7)))
    (fl7 : K.lookup a7 = some ⟨oc7, od7, .func (PySem.W.fnOf "demand_rules" "demand_rules" (defArgs (topS 20)) (defBody (topS 20)) (defScope (topS 20)) .none kV7 dc7 pm7 an7 cd7 ct7), sl7⟩)
    (fc7 : PySem.W.codeIn K cd7 "demand_rules" = true)
    (fk7 : PySem.W.keepIn K (.ref a7) = true)
    (fa8 : PySem.W.nsIn K mainGlobals "is_list" = some (some (.ref a8)))
    (fl8 : K.lookup a8 = some ⟨oc8, od8, .func (PySem.W.fnOf "is_list" "is_list" (defArgs (topS 21)) (defBody (topS 21)) (defScope (topS 21)) .none kV8 dc8 pm8 an8 cd8 ct8), sl8⟩)
    (fc8 : PySem.W.codeIn K cd8 "is_list" = true)
    (fk8 : PySem.W.keepIn K (.ref a8) = true)
    (fa9 : PySem.W.nsIn K mainGlobals "steps_of" = some (some (.ref a9)))
    (fl9 : K.lookup a9 = some ⟨oc9, od9, .func (PySem.W.fnOf "steps_of" "steps_of" (defArgs (topS 22)) (defBody (topS 22)) (defScope (topS 22)) .none kV9 dc9 pm9 an9 cd9 ct9), sl9⟩)
    (fc9 : PySem.W.codeIn K cd9 "steps_of" = true)
    (fk9 : PySem.W.keepIn K (.ref a9) = true)
    (fa10 : PySem.W.nsIn K mainGlobals "key_steps" = some (some (.ref a10)))
    (fl10 : K.lookup a10 = some ⟨oc10, od10, .func (PySem.W.fnOf "key_steps" "key_steps" (defArgs (topS 23)) (defBody (topS 23)) (defScope (topS 23)) .none kV10 dc10 pm10 an10 cd10 ct10), sl10⟩)
    (fc10 : PySem.W.codeIn K cd10 "key_steps" = true)
    (fk10 : PySem.W.keepIn K (.ref a10) = true)
    (fa11 : PySem.W.nsIn K mainGlobals "marks_of" = some (some (.ref a11)))
    (fl11 : K.lookup a11 = some ⟨oc11, od11, .func (PySem.W.fnOf "marks_of" "marks_of" (defArgs (topS 24)) (defBody (topS 24)) (defScope (topS 24)) .none kV11 dc11 pm11 an11 cd11 ct11), sl11⟩)
    (fc11 : PySem.W.codeIn K cd11 "marks_of" = true)
    (fk11 : PySem.W.keepIn K (.ref a11) = true)
    (fa12 : PySem.W.nsIn K mainGlobals "broken" = some (some (.ref a12)))
    (fl12 : K.lookup a12 = some ⟨oc12, od12, .func (PySem.W.fnOf "broken" "broken" (defArgs (topS 25)) (defBody (topS 25)) (defScope (topS 25)) .none kV12 dc12 pm12 an12 cd12 ct12), sl12⟩)
    (fc12 : PySem.W.codeIn K cd12 "broken" = true)
    (fk12 : PySem.W.keepIn K (.ref a12) = true)
    (fa13 : PySem.W.nsIn K mainGlobals "is_next" = some (some (.ref a13)))
    (fl13 : K.lookup a13 = some ⟨oc13, od13, .func (PySem.W.fnOf "is_next" "is_next" (defArgs (topS 26)) (defBody (topS 26)) (defScope (topS 26)) .none kV13 dc13 pm13 an13 cd13 ct13), sl13⟩)
    (fc13 : PySem.W.codeIn K cd13 "is_next" = true)
    (fk13 : PySem.W.keepIn K (.ref a13) = true)
    (fa14 : PySem.W.nsIn K mainGlobals "is_good_of" = some (some (.ref a14)))
    (fl14 : K.lookup a14 = some ⟨oc14, od14, .func (PySem.W.fnOf "is_good_of" "is_good_of" (defArgs (topS 27)) (defBody (topS 27)) (defScope (topS 27)) .none kV14 dc14 pm14 an14 cd14 ct14), sl14⟩)
    (fc14 : PySem.W.codeIn K cd14 "is_good_of" = true)
    (fk14 : PySem.W.keepIn K (.ref a14) = true)
    (fa15 : PySem.W.nsIn K mainGlobals "demand_list" = some (some (.ref a15)))
    (fl15 : K.lookup a15 = some ⟨oc15, od15, .func (PySem.W.fnOf "demand_list" "demand_list" (defArgs (topS 28)) (defBody (topS 28)) (defScope (topS 28)) .none kV15 dc15 pm15 an15 cd15 ct15), sl15⟩)
    (fc15 : PySem.W.codeIn K cd15 "demand_list" = true)
    (fk15 : PySem.W.keepIn K (.ref a15) = true)
    (fa16 : PySem.W.nsIn K mainGlobals "is_good" = some (some (.ref a16)))
    (fl16 : K.lookup a16 = some ⟨oc16, od16, .func (PySem.W.fnOf "is_good" "is_good" (defArgs (topS 29)) (defBody (topS 29)) (defScope (topS 29)) .none kV16 dc16 pm16 an16 cd16 ct16), sl16⟩)
    (fc16 : PySem.W.codeIn K cd16 "is_good" = true)
    (fk16 : PySem.W.keepIn K (.ref a16) = true)
    (fa17 : PySem.W.nsIn K mainGlobals "faults" = some (some (.ref a17)))
    (fl17 : K.lookup a17 = some ⟨oc17, od17, .func (PySem.W.fnOf "faults" "faults" (defArgs (topS 30)) (defBody (topS 30)) (defScope (topS 30)) .none kV17 dc17 pm17 an17 cd17 ct17), sl17⟩)
    (fc17 : PySem.W.codeIn K cd17 "faults" = true)
    (fk17 : PySem.W.keepIn K (.ref a17) = true)
    (fa18 : PySem.W.nsIn K mainGlobals "time_of" = some (some (.ref a18)))
    (fl18 : K.lookup a18 = some ⟨oc18, od18, .func (PySem.W.fnOf "time_of" "time_of" (defArgs (topS 31)) (defBody (topS 31)) (defScope (topS 31)) .none kV18 dc18 pm18 an18 cd18 ct18), sl18⟩)
    (fc18 : PySem.W.codeIn K cd18 "time_of" = true)
    (fk18 : PySem.W.keepIn K (.ref a18) = true)
    (fa19 : PySem.W.nsIn K mainGlobals "demand_good" = some (some (.ref a19)))
    (fl19 : K.lookup a19 = some ⟨oc19, od19, .func (PySem.W.fnOf "demand_good" "demand_good" (defArgs (topS 32)) (defBody (topS 32)) (defScope (topS 32)) .none kV19 dc19 pm19 an19 cd19 ct19), sl19⟩)
    (fc19 : PySem.W.codeIn K cd19 "demand_good" = true)
    (fk19 : PySem.W.keepIn K (.ref a19) = true)
    (fa20 : PySem.W.nsIn K mainGlobals "followers" = some (some (.ref a20)))
    (fl20 : K.lookup a20 = some ⟨oc20, od20, .func (PySem.W.fnOf "followers" "followers" (defArgs (topS 33)) (defBody (topS 33)) (defScope (topS 33)) .none kV20 dc20 pm20 an20 cd20 ct20), sl20⟩)
    (fc20 : PySem.W.codeIn K cd20 "followers" = true)
    (fk20 : PySem.W.keepIn K (.ref a20) = true)
    (fa21 : PySem.W.nsIn K mainGlobals "can_follow" = some (some (.ref a21)))
    (fl21 : K.lookup a21 = some ⟨oc21, od21, .func (PySem.W.fnOf "can_follow" "can_follow" (defArgs (topS 34)) (defBody (topS 34)) (defScope (topS 34)) .none kV21 dc21 pm21 an21 cd21 ct21), sl21⟩)
    (fc21 : PySem.W.codeIn K cd21 "can_follow" = true)
    (fk21 : PySem.W.keepIn K (.ref a21) = true)
    (fa22 : PySem.W.nsIn K mainGlobals "_law_dice" = some (some (.ref a22)))
    (fl22 : K.lookup a22 = some ⟨oc22, od22, .func (PySem.W.fnOf "_law_dice" "_law_dice" (defArgs (topS 36)) (defBody (topS 36)) (defScope (topS 36)) .none kV22 dc22 pm22 an22 cd22 ct22), sl22⟩)
    (fc22 : PySem.W.codeIn K cd22 "_law_dice" = true)
    (fk22 : PySem.W.keepIn K (.ref a22) = true)
    (fa23 : PySem.W.nsIn K mainGlobals "_law_roll" = some (some (.ref a23)))
    (fl23 : K.lookup a23 = some ⟨oc23, od23, .func (PySem.W.fnOf "_law_roll" "_law_roll" (defArgs (topS 37)) (defBody (topS 37)) (defScope (topS 37)) .none kV23 dc23 pm23 an23 cd23 ct23), sl23⟩)
    (fc23 : PySem.W.codeIn K cd23 "_law_roll" = true)
    (fk23 : PySem.W.keepIn K (.ref a23) = true)
    (fa24 : PySem.W.nsIn K mainGlobals "_law_pick" = some (some (.ref a24)))
    (fl24 : K.lookup a24 = some ⟨oc24, od24, .func (PySem.W.fnOf "_law_pick" "_law_pick" (defArgs (topS 38)) (defBody (topS 38)) (defScope (topS 38)) .none kV24 dc24 pm24 an24 cd24 ct24), sl24⟩)
    (fc24 : PySem.W.codeIn K cd24 "_law_pick" = true)
    (fk24 : PySem.W.keepIn K (.ref a24) = true)
    (fa25 : PySem.W.nsIn K mainGlobals "_law_s_songs" = some (some (.ref a25)))
    (fl25 : K.lookup a25 = some ⟨oc25, od25, .func (PySem.W.fnOf "_law_s_songs" "_law_s_songs" (defArgs (topS 40)) (defBody (topS 40)) (defScope (topS 40)) .none kV25 dc25 pm25 an25 cd25 ct25), sl25⟩)
    (fc25 : PySem.W.codeIn K cd25 "_law_s_songs" = true)
    (fk25 : PySem.W.keepIn K (.ref a25) = true)
    (fa26 : PySem.W.nsIn K mainGlobals "_law_s_rules" = some (some (.ref a26)))
    (fl26 : K.lookup a26 = some ⟨oc26, od26, .func (PySem.W.fnOf "_law_s_rules" "_law_s_rules" (defArgs (topS 41)) (defBody (topS 41)) (defScope (topS 41)) .none kV26 dc26 pm26 an26 cd26 ct26), sl26⟩)
    (fc26 : PySem.W.codeIn K cd26 "_law_s_rules" = true)
    (fk26 : PySem.W.keepIn K (.ref a26) = true)
    (fa27 : PySem.W.nsIn K mainGlobals "_law_s_broken" = some (some (.ref a27)))
    (fl27 : K.lookup a27 = some ⟨oc27, od27, .func (PySem.W.fnOf "_law_s_broken" "_law_s_broken" (defArgs (topS 42)) (defBody (topS 42)) (defScope (topS 42)) .none kV27 dc27 pm27 an27 cd27 ct27), sl27⟩)
    (fc27 : PySem.W.codeIn K cd27 "_law_s_broken" = true)
    (fk27 : PySem.W.keepIn K (.ref a27) = true)
    (fa28 : PySem.W.nsIn K mainGlobals "_law_s_next" = some (some (.ref a28)))
    (fl28 : K.lookup a28 = some ⟨oc28, od28, .func (PySem.W.fnOf "_law_s_next" "_law_s_next" (defArgs (topS 43)) (defBody (topS 43)) (defScope (topS 43)) .none kV28 dc28 pm28 an28 cd28 ct28), sl28⟩)
    (fc28 : PySem.W.codeIn K cd28 "_law_s_next" = true)
    (fk28 : PySem.W.keepIn K (.ref a28) = true)
    (fa29 : PySem.W.nsIn K mainGlobals "_law_s_list" = some (some (.ref a29)))
    (fl29 : K.lookup a29 = some ⟨oc29, od29, .func (PySem.W.fnOf "_law_s_list" "_law_s_list" (defArgs (topS 44)) (defBody (topS 44)) (defScope (topS 44)) .none kV29 dc29 pm29 an29 cd29 ct29), sl29⟩)
    (fc29 : PySem.W.codeIn K cd29 "_law_s_list" = true)
    (fk29 : PySem.W.keepIn K (.ref a29) = true)
    (fa30 : PySem.W.nsIn K mainGlobals "_law_s_bad" = some (some (.ref a30)))
    (fl30 : K.lookup a30 = some ⟨oc30, od30, .func (PySem.W.fnOf "_law_s_bad" "_law_s_bad" (defArgs (topS 45)) (defBody (topS 45)) (defScope (topS 45)) .none kV30 dc30 pm30 an30 cd30 ct30), sl30⟩)
    (fc30 : PySem.W.codeIn K cd30 "_law_s_bad" = true)
    (fk30 : PySem.W.keepIn K (.ref a30) = true)
    (fa31 : PySem.W.nsIn K mainGlobals "_law_s_odd" = some (some (.ref a31)))
    (fl31 : K.lookup a31 = some ⟨oc31, od31, .func (PySem.W.fnOf "_law_s_odd" "_law_s_odd" (defArgs (topS 46)) (defBody (topS 46)) (defScope (topS 46)) .none kV31 dc31 pm31 an31 cd31 ct31), sl31⟩)
    (fc31 : PySem.W.codeIn K cd31 "_law_s_odd" = true)
    (fk31 : PySem.W.keepIn K (.ref a31) = true)
    (fa32 : PySem.W.nsIn K mainGlobals "_law_refuses" = some (some (.ref a32)))
    (fl32 : K.lookup a32 = some ⟨oc32, od32, .func (PySem.W.fnOf "_law_refuses" "_law_refuses" (defArgs (topS 47)) (defBody (topS 47)) (defScope (topS 47)) .none kV32 dc32 pm32 an32 (.ref cd32) ct32), sl32⟩)
    (fc32 : PySem.W.codeIn K (.ref cd32) "_law_refuses" = true)
    (fk32 : PySem.W.keepIn K (.ref a32) = true)
    (tl32 : K.lookup cd32 = some ⟨oct32, odt32, .fields vst32, cst32⟩)
    (tv32 : vst32[11]? = some (.ref T32))
    (th32 : PySem.W.codeHdIn K cd32 T32 = true)
    (tn32 : K.lookup T32 = none)
    (tt32 : h.get? T32 = some { cls := .none, data := .fields #[] })
    (fa33 : PySem.W.nsIn K mainGlobals "_law_right" = some (some (.ref a33)))
    (fl33 : K.lookup a33 = some ⟨oc33, od33, .func (PySem.W.fnOf "_law_right" "_law_right" (defArgs (topS 48)) (defBody (topS 48)) (defScope (topS 48)) .none kV33 dc33 pm33 an33 (.ref cd33) ct33), sl33⟩)
    (fc33 : PySem.W.codeIn K (.ref cd33) "_law_right" = true)
    (fk33 : PySem.W.keepIn K (.ref a33) = true)
    (tl33 : K.lookup cd33 = some ⟨oct33, odt33, .fields vst33, cst33⟩)
    (tv33 : vst33[11]? = some (.ref T33))
    (th33 : PySem.W.codeHdIn K cd33 T33 = true)
    (tn33 : K.lookup T33 = none)
    (tt33 : h.get? T33 = some { cls := .none, data := .fields #[] })
    (fa34 : PySem.W.nsIn K mainGlobals "law" = some (some (.ref a34)))
    (fl34 : K.lookup a34 = some ⟨oc34, od34, .func (PySem.W.fnOf "law" "law" (defArgs (topS 49)) (defBody (topS 49)) (defScope (topS 49)) .none kV34 dc34 pm34 an34 cd34 ct34), sl34⟩)
    (fc34 : PySem.W.codeIn K cd34 "law" = true)
    (fk34 : PySem.W.keepIn K (.ref a34) = true)
    (ca0 : PySem.W.nsIn K mainGlobals "BOUNDS" = some (some u0))
    (cb0 : rpB K u0 d_BOUNDS = true)
    (ca1 : PySem.W.nsIn K mainGlobals "MOST_SONGS" = some (some u1))
    (cb1 : rpB K u1 d_MOST_SONGS = true)
    (ca2 : PySem.W.nsIn K mainGlobals "MOST_GAP" = some (some u2))
    (cb2 : rpB K u2 d_MOST_GAP = true)
    (ca3 : PySem.W.nsIn K mainGlobals "MOST_JUMP" = some (some u3))
    (cb3 : rpB K u3 d_MOST_JUMP = true)
    (ca4 : PySem.W.nsIn K mainGlobals "MOST_TURN" = some (some u4))
    (cb4 : rpB K u4 d_MOST_TURN = true)
    (ca5 : PySem.W.nsIn K mainGlobals "KEYS" = some (some u5))
    (cb5 : rpB K u5 d_KEYS = true)
    (ca6 : PySem.W.nsIn K mainGlobals "WORDS" = some (some u6))
    (cb6 : rpB K u6 d_WORDS = true)
    (ca7 : PySem.W.nsIn K mainGlobals "MOST_PLAYED" = some (some u7))
    (cb7 : rpB K u7 d_MOST_PLAYED = true)
    (nb0 : PySem.W.nsIn K mainGlobals "isinstance" = some none)
    (nb1 : PySem.W.nsIn K mainGlobals "int" = some none)
    (nb2 : PySem.W.nsIn K mainGlobals "bool" = some none)
    (nb3 : PySem.W.nsIn K mainGlobals "tuple" = some none)
    (nb4 : PySem.W.nsIn K mainGlobals "len" = some none)
    (nb5 : PySem.W.nsIn K mainGlobals "all" = some none)
    (nb6 : PySem.W.nsIn K mainGlobals "zip" = some none)
    (nb7 : PySem.W.nsIn K mainGlobals "abs" = some none)
    (nb8 : PySem.W.nsIn K mainGlobals "min" = some none)
    (nb9 : PySem.W.nsIn K mainGlobals "enumerate" = some none)
    (nb10 : PySem.W.nsIn K mainGlobals "range" = some none)
    (nb11 : PySem.W.nsIn K mainGlobals "max" = some none)
    (nb12 : PySem.W.nsIn K mainGlobals "sum" = some none)
    (ne32_33 : T32 ≠ T33)
    : LamX.LawAtS theLaw w K (L2.CX PySem.Challenge.pw_spinround_k00_whole_lists w) 11 63 "script" mg fa h := by
  have e := hfa.symm.trans (PySem.W.mg_of X Gn fa34)
  have e2 : a34 = fa := by cases e; rfl
  subst e2
  let G : Gx := ⟨[(T32, ("_law_refuses" : Str) ++ ".<locals>." ++ "<lambda>"), (T33, ("_law_right" : Str) ++ ".<locals>." ++ "<lambda>")], fun c => match c with | 0 => some (C, ("name" : Str)) | _ => none⟩
  have BT : BadX.BadTxt PySem.Challenge.pw_spinround_k00_whole_lists K mg C fI cc cda :=
    { gC := PySem.W.mg_of X Gn xC, cls := ⟨nmC, qC, NC, bsC, _, snC, subC, abC, colC, ddC, m0, m1, m2, m3, m5, xL, by first | rfl | kernel_rfl⟩, sa := xsa, ga := xga, gg := xgg, noN := xnn, iC := xi, tC := xt, kC := xk, exC := xe, veC := xv, tyC := xty, hdC := xhd, te := exm_self xe xic xty xss, sup := xsu, slf := xsl, opq := xop, msup := PySem.W.mg_none_of X Gn xms,
      cell := ⟨_, _, _, xce⟩, code := ⟨_, _, _, _, _, _, xco, xvs, xfi⟩, top := by decide +kernel, fn := ⟨_, _, _, _, _, _, _, _, _, _, _, _, _, _, _, _, _, _, _, by rfl, xl, xcd⟩ }
  have RT : RefTxt K mg gR := ⟨PySem.W.mg_of X Gn rm, rk, _, _, _, _, _, _, _, _, _, _, _, _, _, _, _, _, _, _, _, _, _, rl, rc⟩
  have M : ModM PySem.Challenge.pw_spinround_k00_whole_lists K mg G allC allB :=
    { cons := fa_cons (con_of X Gn ca0 cb0) ( fa_cons (con_of X Gn ca1 cb1) ( fa_cons (con_of X Gn ca2 cb2) ( fa_cons (con_of X Gn ca3 cb3) ( fa_cons (con_of X Gn ca4 cb4) ( fa_cons (con_of X Gn ca5 cb5) ( fa_cons (con_of X Gn ca6 cb6) ( fa_cons (con_of X Gn ca7 cb7)  ( fa_nil)))))))), nob := fa_cons (PySem.W.mg_none_of X Gn nb0) ( fa_cons (PySem.W.mg_none_of X Gn nb1) ( fa_cons (PySem.W.mg_none_of X Gn nb2) ( fa_cons (PySem.W.mg_none_of X Gn nb3) ( fa_cons (PySem.W.mg_none_of X Gn nb4) ( fa_cons (PySem.W.mg_none_of X Gn nb5) ( fa_cons (PySem.W.mg_none_of X Gn nb6) ( fa_cons (PySem.W.mg_none_of X Gn nb7) ( fa_cons (PySem.W.mg_none_of X Gn nb8) ( fa_cons (PySem.W.mg_none_of X Gn nb9) ( fa_cons (PySem.W.mg_none_of X Gn nb10) ( fa_cons (PySem.W.mg_none_of X Gn nb11) ( fa_cons (PySem.W.mg_none_of X Gn nb12)  ( fa_nil))))))))))))), bad := ⟨C, fI, cc, cda, BT, rfl⟩ }
  have D0 : DefT K mg "is_in" (topS 4) a0 cd0 (PySem.W.fnOf "is_in" "is_in" (defArgs (topS 4)) (defBody (topS 4)) (defScope (topS 4)) .none kV0 dc0 pm0 an0 cd0 ct0) := ⟨PySem.W.mg_of X Gn fa0, fk0, fc0, _, _, _, _, _, _, _, _, rfl, fl0⟩
  have D1 : DefT K mg "are_in" (topS 5) a1 cd1 (PySem.W.fnOf "are_in" "are_in" (defArgs (topS 5)) (defBody (topS 5)) (defScope (topS 5)) .none kV1 dc1 pm1 an1 cd1 ct1) := ⟨PySem.W.mg_of X Gn fa1, fk1, fc1, _, _, _, _, _, _, _, _, rfl, fl1⟩
  have D2 : DefT K mg "is_tuple" (topS 6) a2 cd2 (PySem.W.fnOf "is_tuple" "is_tuple" (defArgs (topS 6)) (defBody (topS 6)) (defScope (topS 6)) .none kV2 dc2 pm2 an2 cd2 ct2) := ⟨PySem.W.mg_of X Gn fa2, fk2, fc2, _, _, _, _, _, _, _, _, rfl, fl2⟩
  have D3 : DefT K mg "demand" (topS 7) a3 cd3 (PySem.W.fnOf "demand" "demand" (defArgs (topS 7)) (defBody (topS 7)) (defScope (topS 7)) .none kV3 dc3 pm3 an3 cd3 ct3) := ⟨PySem.W.mg_of X Gn fa3, fk3, fc3, _, _, _, _, _, _, _, _, rfl, fl3⟩
  have D4 : DefT K mg "is_song" (topS 17) a4 cd4 (PySem.W.fnOf "is_song" "is_song" (defArgs (topS 17)) (defBody (topS 17)) (defScope (topS 17)) .none kV4 dc4 pm4 an4 cd4 ct4) := ⟨PySem.W.mg_of X Gn fa4, fk4, fc4, _, _, _, _, _, _, _, _, rfl, fl4⟩
  have D5 : DefT K mg "are_songs" (topS 18) a5 cd5 (PySem.W.fnOf "are_songs" "are_songs" (defArgs (topS 18)) (defBody (topS 18)) (defScope (topS 18)) .none kV5 dc5 pm5 an5 cd5 ct5) := ⟨PySem.W.mg_of X Gn fa5, fk5, fc5, _, _, _, _, _, _, _, _, rfl, fl5⟩
  have D6 : DefT K mg "are_rules" (topS 19) a6 cd6 (PySem.W.fnOf "are_rules" "are_rules" (defArgs (topS 19)) (defBody (topS 19)) (defScope (topS 19)) .none kV6 dc6 pm6 an6 cd6 ct6) := ⟨PySem.W.mg_of X Gn fa6, fk6, fc6, _, _, _, _, _, _, _, _, rfl, fl6⟩
  have D7 : DefT K mg "demand_rules" (topS 20) a7 cd7 (PySem.W.fnOf "demand_rules" "demand_rules" (defArgs (topS 20)) (defBody (topS 20)) (defScope (topS 20)) .none kV7 dc7 pm7 an7 cd7 ct7) := ⟨PySem.W.mg_of X Gn fa7, fk7, fc7, _, _, _, _, _, _, _, _, rfl, fl7⟩
  have D8 : DefT K mg "is_list" (topS 21) a8 cd8 (PySem.W.fnOf "is_list" "is_list" (defArgs (topS 21)) (defBody (topS 21)) (defScope (topS 21)) .none kV8 dc8 pm8 an8 cd8 ct8) := ⟨PySem.W.mg_of X Gn fa8, fk8, fc8, _, _, _, _, _, _, _, _, rfl, fl8⟩
  have D9 : DefT K mg "steps_of" (topS 22) a9 cd9 (PySem.W.fnOf "steps_of" "steps_of" (defArgs (topS 22)) (defBody (topS 22)) (defScope (topS 22)) .none kV9 dc9 pm9 an9 cd9 ct9) := ⟨PySem.W.mg_of X Gn fa9, fk9, fc9, _, _, _, _, _, _, _, _, rfl, fl9⟩
  have D10 : DefT K mg "key_steps" (topS 23) a10 cd10 (PySem.W.fnOf "key_steps" "key_steps" (defArgs (topS 23)) (defBody (topS 23)) (defScope (topS 23)) .none kV10 dc10 pm10 an10 cd10 ct10) := ⟨PySem.W.mg_of X Gn fa10, fk10, fc10, _, _, _, _, _, _, _, _, rfl, fl10⟩
  have D11 : DefT K mg "marks_of" (topS 24) a11 cd11 (PySem.W.fnOf "marks_of" "marks_of" (defArgs (topS 24)) (defBody (topS 24)) (defScope (topS 24)) .none kV11 dc11 pm11 an11 cd11 ct11) := ⟨PySem.W.mg_of X Gn fa11, fk11, fc11, _, _, _, _, _, _, _, _, rfl, fl11⟩
  have D12 : DefT K mg "broken" (topS 25) a12 cd12 (PySem.W.fnOf "broken" "broken" (defArgs (topS 25)) (defBody (topS 25)) (defScope (topS 25)) .none kV12 dc12 pm12 an12 cd12 ct12) := ⟨PySem.W.mg_of X Gn fa12, fk12, fc12, _, _, _, _, _, _, _, _, rfl, fl12⟩
  have D13 : DefT K mg "is_next" (topS 26) a13 cd13 (PySem.W.fnOf "is_next" "is_next" (defArgs (topS 26)) (defBody (topS 26)) (defScope (topS 26)) .none kV13 dc13 pm13 an13 cd13 ct13) := ⟨PySem.W.mg_of X Gn fa13, fk13, fc13, _, _, _, _, _, _, _, _, rfl, fl13⟩
  have D14 : DefT K mg "is_good_of" (topS 27) a14 cd14 (PySem.W.fnOf "is_good_of" "is_good_of" (defArgs (topS 27)) (defBody (topS 27)) (defScope (topS 27)) .none kV14 dc14 pm14 an14 cd14 ct14) := ⟨PySem.W.mg_of X Gn fa14, fk14, fc14, _, _, _, _, _, _, _, _, rfl, fl14⟩
  have D15 : DefT K mg "demand_list" (topS 28) a15 cd15 (PySem.W.fnOf "demand_list" "demand_list" (defArgs (topS 28)) (defBody (topS 28)) (defScope (topS 28)) .none kV15 dc15 pm15 an15 cd15 ct15) := ⟨PySem.W.mg_of X Gn fa15, fk15, fc15, _, _, _, _, _, _, _, _, rfl, fl15⟩
  have D16 : DefT K mg "is_good" (topS 29) a16 cd16 (PySem.W.fnOf "is_good" "is_good" (defArgs (topS 29)) (defBody (topS 29)) (defScope (topS 29)) .none kV16 dc16 pm16 an16 cd16 ct16) := ⟨PySem.W.mg_of X Gn fa16, fk16, fc16, _, _, _, _, _, _, _, _, rfl, fl16⟩
  have D17 : DefT K mg "faults" (topS 30) a17 cd17 (PySem.W.fnOf "faults" "faults" (defArgs (topS 30)) (defBody (topS 30)) (defScope (topS 30)) .none kV17 dc17 pm17 an17 cd17 ct17) := ⟨PySem.W.mg_of X Gn fa17, fk17, fc17, _, _, _, _, _, _, _, _, rfl, fl17⟩
  have D18 : DefT K mg "time_of" (topS 31) a18 cd18 (PySem.W.fnOf "time_of" "time_of" (defArgs (topS 31)) (defBody (topS 31)) (defScope (topS 31)) .none kV18 dc18 pm18 an18 cd18 ct18) := ⟨PySem.W.mg_of X Gn fa18, fk18, fc18, _, _, _, _, _, _, _, _, rfl, fl18⟩
  have D19 : DefT K mg "demand_good" (topS 32) a19 cd19 (PySem.W.fnOf "demand_good" "demand_good" (defArgs (topS 32)) (defBody (topS 32)) (defScope (topS 32)) .none kV19 dc19 pm19 an19 cd19 ct19) := ⟨PySem.W.mg_of X Gn fa19, fk19, fc19, _, _, _, _, _, _, _, _, rfl, fl19⟩
  have D20 : DefT K mg "followers" (topS 33) a20 cd20 (PySem.W.fnOf "followers" "followers" (defArgs (topS 33)) (defBody (topS 33)) (defScope (topS 33)) .none kV20 dc20 pm20 an20 cd20 ct20) := ⟨PySem.W.mg_of X Gn fa20, fk20, fc20, _, _, _, _, _, _, _, _, rfl, fl20⟩
  have D21 : DefT K mg "can_follow" (topS 34) a21 cd21 (PySem.W.fnOf "can_follow" "can_follow" (defArgs (topS 34)) (defBody (topS 34)) (defScope (topS 34)) .none kV21 dc21 pm21 an21 cd21 ct21) := ⟨PySem.W.mg_of X Gn fa21, fk21, fc21, _, _, _, _, _, _, _, _, rfl, fl21⟩
  have D22 : DefT K mg "_law_dice" (topS 36) a22 cd22 (PySem.W.fnOf "_law_dice" "_law_dice" (defArgs (topS 36)) (defBody (topS 36)) (defScope (topS 36)) .none kV22 dc22 pm22 an22 cd22 ct22) := ⟨PySem.W.mg_of X Gn fa22, fk22, fc22, _, _, _, _, _, _, _, _, rfl, fl22⟩
  have D23 : DefT K mg "_law_roll" (topS 37) a23 cd23 (PySem.W.fnOf "_law_roll" "_law_roll" (defArgs (topS 37)) (defBody (topS 37)) (defScope (topS 37)) .none kV23 dc23 pm23 an23 cd23 ct23) := ⟨PySem.W.mg_of X Gn fa23, fk23, fc23, _, _, _, _, _, _, _, _, rfl, fl23⟩
  have D24 : DefT K mg "_law_pick" (topS 38) a24 cd24 (PySem.W.fnOf "_law_pick" "_law_pick" (defArgs (topS 38)) (defBody (topS 38)) (defScope (topS 38)) .none kV24 dc24 pm24 an24 cd24 ct24) := ⟨PySem.W.mg_of X Gn fa24, fk24, fc24, _, _, _, _, _, _, _, _, rfl, fl24⟩
  have D25 : DefT K mg "_law_s_songs" (topS 40) a25 cd25 (PySem.W.fnOf "_law_s_songs" "_law_s_songs" (defArgs (topS 40)) (defBody (topS 40)) (defScope (topS 40)) .none kV25 dc25 pm25 an25 cd25 ct25) := ⟨PySem.W.mg_of X Gn fa25, fk25, fc25, _, _, _, _, _, _, _, _, rfl, fl25⟩
  have D26 : DefT K mg "_law_s_rules" (topS 41) a26 cd26 (PySem.W.fnOf "_law_s_rules" "_law_s_rules" (defArgs (topS 41)) (defBody (topS 41)) (defScope (topS 41)) .none kV26 dc26 pm26 an26 cd26 ct26) := ⟨PySem.W.mg_of X Gn fa26, fk26, fc26, _, _, _, _, _, _, _, _, rfl, fl26⟩
  have D27 : DefT K mg "_law_s_broken" (topS 42) a27 cd27 (PySem.W.fnOf "_law_s_broken" "_law_s_broken" (defArgs (topS 42)) (defBody (topS 42)) (defScope (topS 42)) .none kV27 dc27 pm27 an27 cd27 ct27) := ⟨PySem.W.mg_of X Gn fa27, fk27, fc27, _, _, _, _, _, _, _, _, rfl, fl27⟩
  have D28 : DefT K mg "_law_s_next" (topS 43) a28 cd28 (PySem.W.fnOf "_law_s_next" "_law_s_next" (defArgs (topS 43)) (defBody (topS 43)) (defScope (topS 43)) .none kV28 dc28 pm28 an28 cd28 ct28) := ⟨PySem.W.mg_of X Gn fa28, fk28, fc28, _, _, _, _, _, _, _, _, rfl, fl28⟩
  have D29 : DefT K mg "_law_s_list" (topS 44) a29 cd29 (PySem.W.fnOf "_law_s_list" "_law_s_list" (defArgs (topS 44)) (defBody (topS 44)) (defScope (topS 44)) .none kV29 dc29 pm29 an29 cd29 ct29) := ⟨PySem.W.mg_of X Gn fa29, fk29, fc29, _, _, _, _, _, _, _, _, rfl, fl29⟩
  have D30 : DefT K mg "_law_s_bad" (topS 45) a30 cd30 (PySem.W.fnOf "_law_s_bad" "_law_s_bad" (defArgs (topS 45)) (defBody (topS 45)) (defScope (topS 45)) .none kV30 dc30 pm30 an30 cd30 ct30) := ⟨PySem.W.mg_of X Gn fa30, fk30, fc30, _, _, _, _, _, _, _, _, rfl, fl30⟩
  have D31 : DefT K mg "_law_s_odd" (topS 46) a31 cd31 (PySem.W.fnOf "_law_s_odd" "_law_s_odd" (defArgs (topS 46)) (defBody (topS 46)) (defScope (topS 46)) .none kV31 dc31 pm31 an31 cd31 ct31) := ⟨PySem.W.mg_of X Gn fa31, fk31, fc31, _, _, _, _, _, _, _, _, rfl, fl31⟩
  have D32 : DefT K mg "_law_refuses" (topS 47) a32 (.ref cd32) (PySem.W.fnOf "_law_refuses" "_law_refuses" (defArgs (topS 47)) (defBody (topS 47)) (defScope (topS 47)) .none kV32 dc32 pm32 an32 (.ref cd32) ct32) := ⟨PySem.W.mg_of X Gn fa32, fk32, fc32, _, _, _, _, _, _, _, _, rfl, fl32⟩
  have D33 : DefT K mg "_law_right" (topS 48) a33 (.ref cd33) (PySem.W.fnOf "_law_right" "_law_right" (defArgs (topS 48)) (defBody (topS 48)) (defScope (topS 48)) .none kV33 dc33 pm33 an33 (.ref cd33) ct33) := ⟨PySem.W.mg_of X Gn fa33, fk33, fc33, _, _, _, _, _, _, _, _, rfl, fl33⟩
  have D34 : DefT K mg "law" (topS 49) a34 cd34 (PySem.W.fnOf "law" "law" (defArgs (topS 49)) (defBody (topS 49)) (defScope (topS 49)) .none kV34 dc34 pm34 an34 cd34 ct34) := ⟨PySem.W.mg_of X Gn fa34, fk34, fc34, _, _, _, _, _, _, _, _, rfl, fl34⟩
  have key : ∀ base : Heap, K.In base → base.Ns mainGlobals mg → (∀ p ∈ ([(cd32, T32), (cd33, T33)] : List (Addr × Addr)), LamX.TabB base mg p.1 p.2) → FnOk PySem.Challenge.pw_spinround_k00_whole_lists w K mg base (L2.CX PySem.Challenge.pw_spinround_k00_whole_lists w) 11 a34 (PySem.W.fnOf "law" "law" (defArgs (topS 49)) (defBody (topS 49)) (defScope (topS 49)) .none kV34 dc34 pm34 an34 cd34 ct34) ["script"] (spD K G 1 f_law.fn) := by
    intro base KB NB TB
    have Z0 := def_ok (P := PySem.Challenge.pw_spinround_k00_whole_lists) (w := w) (base := base) M D0 S_is_in b_is_in ["value", "low", "high"] [.dat, .dat, .dat] [] hc_is_in (by decide +kernel) rfl (fun _ => rfl) rfl (by decide +kernel) (by decide +kernel) (fa_nil) (fun z => nomatch (show false = true from z)) (fun _ _ _ _ _ _ us hl => match us, hl with | [_, _, _], _ => rfl) (fun _ _ _ _ _ _ => fa_nil)
    have F0 : FunM PySem.Challenge.pw_spinround_k00_whole_lists w K mg base G f_is_in := Z0.2
    have Z1 := def_ok (P := PySem.Challenge.pw_spinround_k00_whole_lists) (w := w) (base := base) M D1 S_are_in b_are_in ["value", "least", "most", "low", "high"] [.dat, .dat, .dat, .dat, .dat] [] hc_are_in (by decide +kernel) rfl (fun _ => rfl) rfl (by decide +kernel) (by decide +kernel) (fa_cons F0 (fa_nil)) (fun z => nomatch (show false = true from z)) (fun _ _ _ _ _ _ us hl => match us, hl with | [_, _, _, _, _], _ => rfl) (fun _ _ _ _ _ _ => fa_nil)
    have F1 : FunM PySem.Challenge.pw_spinround_k00_whole_lists w K mg base G f_are_in := Z1.2
    have Z2 := def_ok (P := PySem.Challenge.pw_spinround_k00_whole_lists) (w := w) (base := base) M D2 S_is_tuple b_is_tuple ["value", "least", "most"] [.dat, .dat, .dat] [] hc_is_tuple (by decide +kernel) rfl (fun _ => rfl) rfl (by decide +kernel) (by decide +kernel) (fa_nil) (fun z => nomatch (show false = true from z)) (fun _ _ _ _ _ _ us hl => match us, hl with | [_, _, _], _ => rfl) (fun _ _ _ _ _ _ => fa_nil)
    have F2 : FunM PySem.Challenge.pw_spinround_k00_whole_lists w K mg base G f_is_tuple := Z2.2
    have Z3 := def_ok (P := PySem.Challenge.pw_spinround_k00_whole_lists) (w := w) (base := base) M D3 S_demand b_demand ["is_good", "name"] [.dat, .dat] [] hc_demand (by decide +kernel) rfl (fun _ => rfl) rfl (by decide +kernel) (by decide +kernel) (fa_nil) (fun z => nomatch (show false = true from z)) (fun _ _ _ _ _ _ us hl => match us, hl with | [_, _], _ => rfl) (fun _ _ _ _ _ _ => fa_nil)
    have F3 : FunM PySem.Challenge.pw_spinround_k00_whole_lists w K mg base G f_demand := Z3.2
    have Z4 := def_ok (P := PySem.Challenge.pw_spinround_k00_whole_lists) (w := w) (base := base) M D4 S_is_song b_is_song ["value"] [.dat] [] hc_is_song (by decide +kernel) rfl (fun _ => rfl) rfl (by decide +kernel) (by decide +kernel) (fa_cons F2 ( fa_cons F0 (fa_nil))) (fun z => nomatch (show false = true from z)) (fun _ _ _ _ _ _ us hl => match us, hl with | [_], _ => rfl) (fun _ _ _ _ _ _ => fa_nil)
    have F4 : FunM PySem.Challenge.pw_spinround_k00_whole_lists w K mg base G f_is_song := Z4.2
    have Z5 := def_ok (P := PySem.Challenge.pw_spinround_k00_whole_lists) (w := w) (base := base) M D5 S_are_songs b_are_songs ["value"] [.dat] [] hc_are_songs (by decide +kernel) rfl (fun _ => rfl) rfl (by decide +kernel) (by decide +kernel) (fa_cons F2 ( fa_cons F4 (fa_nil))) (fun z => nomatch (show false = true from z)) (fun _ _ _ _ _ _ us hl => match us, hl with | [_], _ => rfl) (fun _ _ _ _ _ _ => fa_nil)
    have F5 : FunM PySem.Challenge.pw_spinround_k00_whole_lists w K mg base G f_are_songs := Z5.2
    have Z6 := def_ok (P := PySem.Challenge.pw_spinround_k00_whole_lists) (w := w) (base := base) M D6 S_are_rules b_are_rules ["value"] [.dat] [] hc_are_rules (by decide +kernel) rfl (fun _ => rfl) rfl (by decide +kernel) (by decide +kernel) (fa_cons F2 ( fa_cons F1 ( fa_cons F0 (fa_nil)))) (fun z => nomatch (show false = true from z)) (fun _ _ _ _ _ _ us hl => match us, hl with | [_], _ => rfl) (fun _ _ _ _ _ _ => fa_nil)
    have F6 : FunM PySem.Challenge.pw_spinround_k00_whole_lists w K mg base G f_are_rules := Z6.2
    have Z7 := def_ok (P := PySem.Challenge.pw_spinround_k00_whole_lists) (w := w) (base := base) M D7 S_demand_rules b_demand_rules ["songs", "rules"] [.dat, .dat] [] hc_demand_rules (by decide +kernel) rfl (fun _ => rfl) rfl (by decide +kernel) (by decide +kernel) (fa_cons F5 ( fa_cons F3 ( fa_cons F6 (fa_nil)))) (fun z => nomatch (show false = true from z)) (fun _ _ _ _ _ _ us hl => match us, hl with | [_, _], _ => rfl) (fun _ _ _ _ _ _ => fa_nil)
    have F7 : FunM PySem.Challenge.pw_spinround_k00_whole_lists w K mg base G f_demand_rules := Z7.2
    have Z8 := def_ok (P := PySem.Challenge.pw_spinround_k00_whole_lists) (w := w) (base := base) M D8 S_is_list b_is_list ["songs", "value", "most"] [.dat, .dat, .dat] [] hc_is_list (by decide +kernel) rfl (fun _ => rfl) rfl (by decide +kernel) (by decide +kernel) (fa_cons F1 (fa_nil)) (fun z => nomatch (show false = true from z)) (fun _ _ _ _ _ _ us hl => match us, hl with | [_, _, _], _ => rfl) (fun _ _ _ _ _ _ => fa_nil)
    have F8 : FunM PySem.Challenge.pw_spinround_k00_whole_lists w K mg base G f_is_list := Z8.2
    have Z9 := def_ok (P := PySem.Challenge.pw_spinround_k00_whole_lists) (w := w) (base := base) M D9 S_steps_of b_steps_of ["one", "two"] [.dat, .dat] [] hc_steps_of (by decide +kernel) rfl (fun _ => rfl) rfl (by decide +kernel) (by decide +kernel) (fa_nil) (fun z => nomatch (show false = true from z)) (fun _ _ _ _ _ _ us hl => match us, hl with | [_, _], _ => rfl) (fun _ _ _ _ _ _ => fa_nil)
    have F9 : FunM PySem.Challenge.pw_spinround_k00_whole_lists w K mg base G f_steps_of := Z9.2
    have Z10 := def_ok (P := PySem.Challenge.pw_spinround_k00_whole_lists) (w := w) (base := base) M D10 S_key_steps b_key_steps ["one", "two"] [.dat, .dat] [(0, ["two", "one"], [1, 0])] hc_key_steps (by decide +kernel) rfl (fun _ => rfl) rfl (by decide +kernel) (by decide +kernel) (fa_cons F0 ( fa_cons F3 ( fa_cons F9 (fa_nil)))) (fun z => nomatch (show false = true from z)) (fun _ _ _ _ _ _ us hl => match us, hl with | [_, _], _ => rfl) (fun _ _ _ _ _ _ => fa_cons (fun us ws h1 h2 => match us, ws, h1, h2 with | [], [_, _], _, _ => rfl) (fa_nil))
    have F10 : FunM PySem.Challenge.pw_spinround_k00_whole_lists w K mg base G f_key_steps := Z10.2
    have Z11 := def_ok (P := PySem.Challenge.pw_spinround_k00_whole_lists) (w := w) (base := base) M D11 S_marks_of b_marks_of ["songs", "song"] [.dat, .dat] [] hc_marks_of (by decide +kernel) rfl (fun _ => rfl) rfl (by decide +kernel) (by decide +kernel) (fa_nil) (fun z => nomatch (show false = true from z)) (fun _ _ _ _ _ _ us hl => match us, hl with | [_, _], _ => rfl) (fun _ _ _ _ _ _ => fa_nil)
    have F11 : FunM PySem.Challenge.pw_spinround_k00_whole_lists w K mg base G f_marks_of := Z11.2
    have Z12 := def_ok (P := PySem.Challenge.pw_spinround_k00_whole_lists) (w := w) (base := base) M D12 S_broken b_broken ["songs", "rules", "one", "two", "apart"] [.dat, .dat, .dat, .dat, .dat] [] hc_broken (by decide +kernel) rfl (fun _ => rfl) rfl (by decide +kernel) (by decide +kernel) (fa_cons F11 ( fa_cons F9 (fa_nil))) (fun z => nomatch (show false = true from z)) (fun _ _ _ _ _ _ us hl => match us, hl with | [_, _, _, _, _], _ => rfl) (fun _ _ _ _ _ _ => fa_nil)
    have F12 : FunM PySem.Challenge.pw_spinround_k00_whole_lists w K mg base G f_broken := Z12.2
    have Z13 := def_ok (P := PySem.Challenge.pw_spinround_k00_whole_lists) (w := w) (base := base) M D13 S_is_next b_is_next ["songs", "rules", "played", "song"] [.dat, .dat, .dat, .dat] [] hc_is_next (by decide +kernel) rfl (fun _ => rfl) rfl (by decide +kernel) (by decide +kernel) (fa_cons F12 (fa_nil)) (fun z => nomatch (show false = true from z)) (fun _ _ _ _ _ _ us hl => match us, hl with | [_, _, _, _], _ => rfl) (fun _ _ _ _ _ _ => fa_nil)
    have F13 : FunM PySem.Challenge.pw_spinround_k00_whole_lists w K mg base G f_is_next := Z13.2
    have Z14 := def_ok (P := PySem.Challenge.pw_spinround_k00_whole_lists) (w := w) (base := base) M D14 S_is_good_of b_is_good_of ["songs", "rules", "played"] [.dat, .dat, .dat] [] hc_is_good_of (by decide +kernel) rfl (fun _ => rfl) rfl (by decide +kernel) (by decide +kernel) (fa_cons F13 (fa_nil)) (fun z => nomatch (show false = true from z)) (fun _ _ _ _ _ _ us hl => match us, hl with | [_, _, _], _ => rfl) (fun _ _ _ _ _ _ => fa_nil)
    have F14 : FunM PySem.Challenge.pw_spinround_k00_whole_lists w K mg base G f_is_good_of := Z14.2
    have Z15 := def_ok (P := PySem.Challenge.pw_spinround_k00_whole_lists) (w := w) (base := base) M D15 S_demand_list b_demand_list ["songs", "rules", "played"] [.dat, .dat, .dat] [] hc_demand_list (by decide +kernel) rfl (fun _ => rfl) rfl (by decide +kernel) (by decide +kernel) (fa_cons F7 ( fa_cons F8 ( fa_cons F3 (fa_nil)))) (fun z => nomatch (show false = true from z)) (fun _ _ _ _ _ _ us hl => match us, hl with | [_, _, _], _ => rfl) (fun _ _ _ _ _ _ => fa_nil)
    have F15 : FunM PySem.Challenge.pw_spinround_k00_whole_lists w K mg base G f_demand_list := Z15.2
    have Z16 := def_ok (P := PySem.Challenge.pw_spinround_k00_whole_lists) (w := w) (base := base) M D16 S_is_good b_is_good ["songs", "rules", "played"] [.dat, .dat, .dat] [(0, ["played", "rules", "songs"], [2, 1, 0])] hc_is_good (by decide +kernel) rfl (fun _ => rfl) rfl (by decide +kernel) (by decide +kernel) (fa_cons F15 ( fa_cons F14 (fa_nil))) (fun z => nomatch (show false = true from z)) (fun _ _ _ _ _ _ us hl => match us, hl with | [_, _, _], _ => rfl) (fun _ _ _ _ _ _ => fa_cons (fun us ws h1 h2 => match us, ws, h1, h2 with | [], [_, _, _], _, _ => rfl) (fa_nil))
    have F16 : FunM PySem.Challenge.pw_spinround_k00_whole_lists w K mg base G f_is_good := Z16.2
    have Z17 := def_ok (P := PySem.Challenge.pw_spinround_k00_whole_lists) (w := w) (base := base) M D17 S_faults b_faults ["songs", "rules", "played"] [.dat, .dat, .dat] [(0, ["played", "rules", "songs"], [2, 1, 0])] hc_faults (by decide +kernel) rfl (fun _ => rfl) rfl (by decide +kernel) (by decide +kernel) (fa_cons F15 ( fa_cons F12 (fa_nil))) (fun z => nomatch (show false = true from z)) (fun _ _ _ _ _ _ us hl => match us, hl with | [_, _, _], _ => rfl) (fun _ _ _ _ _ _ => fa_cons (fun us ws h1 h2 => match us, ws, h1, h2 with | [], [_, _, _], _, _ => rfl) (fa_nil))
    have F17 : FunM PySem.Challenge.pw_spinround_k00_whole_lists w K mg base G f_faults := Z17.2
    have Z18 := def_ok (P := PySem.Challenge.pw_spinround_k00_whole_lists) (w := w) (base := base) M D18 S_time_of b_time_of ["songs", "played"] [.dat, .dat] [(0, ["played", "songs"], [1, 0])] hc_time_of (by decide +kernel) rfl (fun _ => rfl) rfl (by decide +kernel) (by decide +kernel) (fa_cons F5 ( fa_cons F3 ( fa_cons F8 (fa_nil)))) (fun z => nomatch (show false = true from z)) (fun _ _ _ _ _ _ us hl => match us, hl with | [_, _], _ => rfl) (fun _ _ _ _ _ _ => fa_cons (fun us ws h1 h2 => match us, ws, h1, h2 with | [], [_, _], _, _ => rfl) (fa_nil))
    have F18 : FunM PySem.Challenge.pw_spinround_k00_whole_lists w K mg base G f_time_of := Z18.2
    have Z19 := def_ok (P := PySem.Challenge.pw_spinround_k00_whole_lists) (w := w) (base := base) M D19 S_demand_good b_demand_good ["songs", "rules", "played", "most"] [.dat, .dat, .dat, .dat] [] hc_demand_good (by decide +kernel) rfl (fun _ => rfl) rfl (by decide +kernel) (by decide +kernel) (fa_cons F7 ( fa_cons F8 ( fa_cons F14 ( fa_cons F3 (fa_nil))))) (fun z => nomatch (show false = true from z)) (fun _ _ _ _ _ _ us hl => match us, hl with | [_, _, _, _], _ => rfl) (fun _ _ _ _ _ _ => fa_nil)
    have F19 : FunM PySem.Challenge.pw_spinround_k00_whole_lists w K mg base G f_demand_good := Z19.2
    have Z20 := def_ok (P := PySem.Challenge.pw_spinround_k00_whole_lists) (w := w) (base := base) M D20 S_followers b_followers ["songs", "rules", "played"] [.dat, .dat, .dat] [] hc_followers (by decide +kernel) rfl (fun _ => rfl) rfl (by decide +kernel) (by decide +kernel) (fa_cons F13 (fa_nil)) (fun z => nomatch (show false = true from z)) (fun _ _ _ _ _ _ us hl => match us, hl with | [_, _, _], _ => rfl) (fun _ _ _ _ _ _ => fa_nil)
    have F20 : FunM PySem.Challenge.pw_spinround_k00_whole_lists w K mg base G f_followers := Z20.2
    have Z21 := def_ok (P := PySem.Challenge.pw_spinround_k00_whole_lists) (w := w) (base := base) M D21 S_can_follow b_can_follow ["songs", "rules", "played"] [.dat, .dat, .dat] [(0, ["played", "rules", "songs"], [2, 1, 0])] hc_can_follow (by decide +kernel) rfl (fun _ => rfl) rfl (by decide +kernel) (by decide +kernel) (fa_cons F19 ( fa_cons F20 (fa_nil))) (fun z => nomatch (show false = true from z)) (fun _ _ _ _ _ _ us hl => match us, hl with | [_, _, _], _ => rfl) (fun _ _ _ _ _ _ => fa_cons (fun us ws h1 h2 => match us, ws, h1, h2 with | [], [_, _, _], _, _ => rfl) (fa_nil))
    have F21 : FunM PySem.Challenge.pw_spinround_k00_whole_lists w K mg base G f_can_follow := Z21.2
    have Z22 := def_ok (P := PySem.Challenge.pw_spinround_k00_whole_lists) (w := w) (base := base) M D22 S__law_dice b__law_dice ["script", "spot"] [.scr, .dat] [] hc__law_dice (by decide +kernel) rfl (fun _ => rfl) rfl (by decide +kernel) (by decide +kernel) (fa_nil) (fun z => nomatch (show false = true from z)) (fun _ _ _ _ _ _ us hl => match us, hl with | [_, _], _ => rfl) (fun _ _ _ _ _ _ => fa_nil)
    have F22 : FunM PySem.Challenge.pw_spinround_k00_whole_lists w K mg base G f__law_dice := Z22.2
    have Z23 := def_ok (P := PySem.Challenge.pw_spinround_k00_whole_lists) (w := w) (base := base) M D23 S__law_roll b__law_roll ["dice", "total"] [.lent, .dat] [] hc__law_roll (by decide +kernel) rfl (fun _ => rfl) rfl (by decide +kernel) (by decide +kernel) (fa_nil) (fun z => nomatch (show false = true from z)) (fun _ _ _ _ _ _ us hl => match us, hl with | [_, _], _ => rfl) (fun _ _ _ _ _ _ => fa_nil)
    have F23 : FunM PySem.Challenge.pw_spinround_k00_whole_lists w K mg base G f__law_roll := Z23.2
    have Z24 := def_ok (P := PySem.Challenge.pw_spinround_k00_whole_lists) (w := w) (base := base) M D24 S__law_pick b__law_pick ["dice", "things"] [.lent, .dat] [] hc__law_pick (by decide +kernel) rfl (fun _ => rfl) rfl (by decide +kernel) (by decide +kernel) (fa_cons F23 (fa_nil)) (fun z => nomatch (show false = true from z)) (fun _ _ _ _ _ _ us hl => match us, hl with | [_, _], _ => rfl) (fun _ _ _ _ _ _ => fa_nil)
    have F24 : FunM PySem.Challenge.pw_spinround_k00_whole_lists w K mg base G f__law_pick := Z24.2
    have Z25 := def_ok (P := PySem.Challenge.pw_spinround_k00_whole_lists) (w := w) (base := base) M D25 S__law_s_songs b__law_s_songs ["dice", "most", "ticks"] [.lent, .dat, .dat] [] hc__law_s_songs (by decide +kernel) rfl (fun _ => rfl) rfl (by decide +kernel) (by decide +kernel) (fa_cons F23 ( fa_cons F24 (fa_nil))) (fun z => nomatch (show false = true from z)) (fun _ _ _ _ _ _ us hl => match us, hl with | [_, _, _], _ => rfl) (fun _ _ _ _ _ _ => fa_nil)
    have F25 : FunM PySem.Challenge.pw_spinround_k00_whole_lists w K mg base G f__law_s_songs := Z25.2
    have Z26 := def_ok (P := PySem.Challenge.pw_spinround_k00_whole_lists) (w := w) (base := base) M D26 S__law_s_rules b__law_s_rules ["dice", "gap"] [.lent, .dat] [] hc__law_s_rules (by decide +kernel) rfl (fun _ => rfl) rfl (by decide +kernel) (by decide +kernel) (fa_cons F24 ( fa_cons F23 (fa_nil))) (fun z => nomatch (show false = true from z)) (fun _ _ _ _ _ _ us hl => match us, hl with | [_, _], _ => rfl) (fun _ _ _ _ _ _ => fa_nil)
    have F26 : FunM PySem.Challenge.pw_spinround_k00_whole_lists w K mg base G f__law_s_rules := Z26.2
    have Z27 := def_ok (P := PySem.Challenge.pw_spinround_k00_whole_lists) (w := w) (base := base) M D27 S__law_s_broken b__law_s_broken ["songs", "rules", "played"] [.dat, .dat, .dat] [] hc__law_s_broken (by decide +kernel) rfl (fun _ => rfl) rfl (by decide +kernel) (by decide +kernel) (fa_nil) (fun z => nomatch (show false = true from z)) (fun _ _ _ _ _ _ us hl => match us, hl with | [_, _, _], _ => rfl) (fun _ _ _ _ _ _ => fa_nil)
    have F27 : FunM PySem.Challenge.pw_spinround_k00_whole_lists w K mg base G f__law_s_broken := Z27.2
    have Z28 := def_ok (P := PySem.Challenge.pw_spinround_k00_whole_lists) (w := w) (base := base) M D28 S__law_s_next b__law_s_next ["songs", "rules", "played"] [.dat, .dat, .dat] [] hc__law_s_next (by decide +kernel) rfl (fun _ => rfl) rfl (by decide +kernel) (by decide +kernel) (fa_cons F27 (fa_nil)) (fun z => nomatch (show false = true from z)) (fun _ _ _ _ _ _ us hl => match us, hl with | [_, _, _], _ => rfl) (fun _ _ _ _ _ _ => fa_nil)
    have F28 : FunM PySem.Challenge.pw_spinround_k00_whole_lists w K mg base G f__law_s_next := Z28.2
    have Z29 := def_ok (P := PySem.Challenge.pw_spinround_k00_whole_lists) (w := w) (base := base) M D29 S__law_s_list b__law_s_list ["dice", "songs", "rules", "many"] [.lent, .dat, .dat, .dat] [] hc__law_s_list (by decide +kernel) rfl (fun _ => rfl) rfl (by decide +kernel) (by decide +kernel) (fa_cons F28 ( fa_cons F24 (fa_nil))) (fun z => nomatch (show false = true from z)) (fun _ _ _ _ _ _ us hl => match us, hl with | [_, _, _, _], _ => rfl) (fun _ _ _ _ _ _ => fa_nil)
    have F29 : FunM PySem.Challenge.pw_spinround_k00_whole_lists w K mg base G f__law_s_list := Z29.2
    have Z30 := def_ok (P := PySem.Challenge.pw_spinround_k00_whole_lists) (w := w) (base := base) M D30 S__law_s_bad b__law_s_bad ["dice"] [.lent] [] hc__law_s_bad (by decide +kernel) rfl (fun _ => rfl) rfl (by decide +kernel) (by decide +kernel) (fa_cons F24 (fa_nil)) (fun z => nomatch (show false = true from z)) (fun _ _ _ _ _ _ us hl => match us, hl with | [_], _ => rfl) (fun _ _ _ _ _ _ => fa_nil)
    have F30 : FunM PySem.Challenge.pw_spinround_k00_whole_lists w K mg base G f__law_s_bad := Z30.2
    have Z31 := def_ok (P := PySem.Challenge.pw_spinround_k00_whole_lists) (w := w) (base := base) M D31 S__law_s_odd b__law_s_odd ["dice"] [.lent] [] hc__law_s_odd (by decide +kernel) rfl (fun _ => rfl) rfl (by decide +kernel) (by decide +kernel) (fa_cons F24 (fa_nil)) (fun z => nomatch (show false = true from z)) (fun _ _ _ _ _ _ us hl => match us, hl with | [_], _ => rfl) (fun _ _ _ _ _ _ => fa_nil)
    have F31 : FunM PySem.Challenge.pw_spinround_k00_whole_lists w K mg base G f__law_s_odd := Z31.2
    have Z32 := def_ok (P := PySem.Challenge.pw_spinround_k00_whole_lists) (w := w) (base := base) M D32 S__law_refuses b__law_refuses ["dice", "songs", "rules"] [.lent, .dat, .dat] [] hc__law_refuses (by decide +kernel) rfl (fun _ => rfl) rfl (by decide +kernel) (by decide +kernel) (fa_cons F24 ( fa_cons F31 ( fa_cons F30 ( fa_cons F18 ( fa_cons F17 ( fa_cons F16 ( fa_cons F10 ( fa_cons F21 (fa_nil))))))))) (fun _ => ⟨gR, cd32, T32, RT, TB (cd32, T32) (List.Mem.head _), rfl, List.Mem.head _, fa_cons (fun e => rfl) ( fa_cons (fun e => absurd e.symm ne32_33) ( fa_nil))⟩) (fun _ _ _ _ _ _ us hl => match us, hl with | [_, _, _], _ => rfl) (fun _ _ _ _ _ _ => fa_nil)
    have F32 : FunM PySem.Challenge.pw_spinround_k00_whole_lists w K mg base G f__law_refuses := Z32.2
    have Z33 := def_ok (P := PySem.Challenge.pw_spinround_k00_whole_lists) (w := w) (base := base) M D33 S__law_right b__law_right ["dice"] [.lent] [] hc__law_right (by decide +kernel) rfl (fun _ => rfl) rfl (by decide +kernel) (by decide +kernel) (fa_cons F26 ( fa_cons F25 ( fa_cons F23 ( fa_cons F29 ( fa_cons F24 ( fa_cons F27 ( fa_cons F17 ( fa_cons F16 ( fa_cons F18 ( fa_cons F21 ( fa_cons F10 ( fa_cons F32 (fa_nil))))))))))))) (fun _ => ⟨gR, cd33, T33, RT, TB (cd33, T33) (List.Mem.tail _ (List.Mem.head _)), rfl, List.Mem.tail _ (List.Mem.head _), fa_cons (fun e => absurd e ne32_33) ( fa_cons (fun e => rfl) ( fa_nil))⟩) (fun _ _ _ _ _ _ us hl => match us, hl with | [_], _ => rfl) (fun _ _ _ _ _ _ => fa_nil)
    have F33 : FunM PySem.Challenge.pw_spinround_k00_whole_lists w K mg base G f__law_right := Z33.2
    have Z34 := def_ok (P := PySem.Challenge.pw_spinround_k00_whole_lists) (w := w) (base := base) M D34 S_law b_law ["script"] [.scr] [] hc_law (by decide +kernel) rfl (fun _ => rfl) rfl (by decide +kernel) (by decide +kernel) (fa_cons F22 ( fa_cons F33 ( fa_cons F10 ( fa_cons F16 (fa_nil))))) (fun z => nomatch (show false = true from z)) (fun _ _ _ _ _ _ us hl => match us, hl with | [_], _ => rfl) (fun _ _ _ _ _ _ => fa_nil)
    have F34 : FunM PySem.Challenge.pw_spinround_k00_whole_lists w K mg base G f_law := Z34.2
    exact Z34.1
  refine ⟨_, [(cd32, T32), (cd33, T33)], spD K G 1 f_law.fn, fa_cons tt32 ( fa_cons tt33 ( fa_nil)), fa_cons tn32 ( fa_cons tn33 ( fa_nil)), fa_cons (PySem.W.codeHd_of_K X th32) ( fa_cons (PySem.W.codeHd_of_K X th33) ( fa_nil)), fun s u => .of_eq rfl, fun H a ns hl hz hH hS => ?_, key⟩
  obtain ⟨as, hlaw⟩ := law_true ns hl
  exact law_sp (T := [(T32, ("_law_refuses" : Str) ++ ".<locals>." ++ "<lambda>"), (T33, ("_law_right" : Str) ++ ".<locals>." ++ "<lambda>")]) rfl (fa_cons (hH (cd32, T32) (List.Mem.head _)) ( fa_cons (hH (cd33, T33) (List.Mem.tail _ (List.Mem.head _))) ( fa_nil))) hS hlaw
end KL
open PySem PySem.W PyProof.Rows
set_option maxRecDepth 100000 in
set_option maxHeartbeats 0 in
theorem PySem.Challenge.cw_spinround_k00_whole_lists_holds : PySem.Challenge.rw_spinround_k00_whole_lists.Holds := by
  w_on; o_law; k_head; (case hw => w_witness2)
  k_fill
  refine LamX.walk_ofTs (l := PySem.Challenge.rw_spinround_k00_whole_lists) (n := 63) (k := 11) (CX := fun w => L2.CX PySem.Challenge.pw_spinround_k00_whole_lists w) (x := "script") rfl (by decide) rfl ⟨rfl, by decide, by decide⟩ (fun w h Y => PySem.W.km_in_of Y) ?F (fun w H s e s1 z => ?X)
  case X => exact SR.cx_no z
  case F =>
    intro w mg fa h Y KX G hmg
    refine' KL.all_mk KX G hmg ?xC ?xL ?xsa ?xga ?xgg ?xnn ?xi ?xt ?xl ?xcd ?xk ?xe ?xv ?xty ?xhd ?xic ?xss ?xsu ?xsl ?xop ?xms ?xce ?xco ?xvs ?xfi ?rm ?rl ?rc ?rk ?fa0 ?fl0 ?fc0 ?fk0 ?fa1 ?fl1 ?fc1 ?fk1 ?fa2 ?fl2 ?fc2 ?fk2 ?fa3 ?fl3 ?fc3 ?fk3 ?fa4 ?fl4 ?fc4 ?fk4 ?fa5 ?fl5 ?fc5 ?fk5 ?fa6 ?fl6 ?fc6 ?fk6 ?fa7 ?fl7 ?fc7 ?fk7 ?fa8 ?fl8 ?fc8 ?fk8 ?fa9 ?fl9 ?fc9 ?fk9 ?fa10 ?fl10 ?fc10 ?fk10 ?fa11 ?fl11 ?fc11 ?fk11 ?fa12 ?fl12 ?fc12 ?fk12 ?fa13 ?fl13 ?fc13 ?fk13 ?fa14 ?fl14 ?fc14 ?fk14 ?fa15 ?fl15 ?fc15 ?fk15 ?fa16 ?fl16 ?fc16 ?fk16 ?fa17 ?fl17 ?fc17 ?fk17 ?fa18 ?fl18 ?fc18 ?fk18 ?fa19 ?fl19 ?fc19 ?fk19 ?fa20 ?fl20 ?fc20 ?fk20 ?fa21 ?fl21 ?fc21 ?fk21 ?fa22 ?fl22 ?fc22 ?fk22 ?fa23 ?fl23 ?fc23 ?fk23 ?fa24 ?fl24 ?fc24 ?fk24 ?fa25 ?fl25 ?fc25 ?fk25 ?fa26 ?fl26 ?fc26 ?fk26 ?fa27 ?fl27 ?fc27 ?fk27 ?fa28 ?fl28 ?fc28 ?fk28 ?fa29 ?fl29 ?fc29 ?fk29 ?fa30 ?fl30 ?fc30 ?fk30 ?fa31 ?fl31 ?fc31 ?fk31 ?fa32 ?fl32 ?fc32 ?fk32 ?tl32 ?tv32 ?th32 ?tn32 ?tt32 ?fa33 ?fl33 ?fc33 ?fk33 ?tl33 ?tv33 ?th33 ?tn33 ?tt33 ?fa34 ?fl34 ?fc34 ?fk34 ?ca0 ?cb0 ?ca1 ?cb1 ?ca2 ?cb2 ?ca3 ?cb3 ?ca4 ?cb4 ?ca5 ?cb5 ?ca6 ?cb6 ?ca7 ?cb7 ?nb0 ?nb1 ?nb2 ?nb3 ?nb4 ?nb5 ?nb6 ?nb7 ?nb8 ?nb9 ?nb10 ?nb11 ?nb12 ?ne32_33
    (case xC => k_is)
    (case xL => k_is)
    (case xsa => k_is)
    (case xga => k_is)
    (case xgg => k_is)
    (case xnn => k_is)
    (case xi => k_is)
    (case xt => k_is)
    (case xl => k_is)
    (case xcd => k_is)
    (case xk => k_is)
    (case xe => k_is)
    (case xv => k_is)
    (case xty => k_is)
    (case xhd => k_is)
    (case xic => k_is)
    (case xss => first | rfl | k_is)
    (case xsu => first | kernel_rfl | k_is)
    (case xsl => k_is)
    (case xop => k_is)
    (case xms => k_is)
    (case xce => k_is)
    (case xco => k_is)
    (case xvs => exact rfl)
    (case xfi => first | kernel_rfl | rfl | k_is)
    (case rm => k_is)
    (case rl => k_is)
    (case rc => k_is)
    (case rk => k_is)
    (case fa0 => k_is)
    (case fl0 => k_is)
    (case fc0 => k_is)
    (case fk0 => k_is)
    (case fa1 => k_is)
    (case fl1 => k_is)
    (case fc1 => k_is)
    (case fk1 => k_is)
    (case fa2 => k_is)
    (case fl2 => k_is)
    (case fc2 => k_is)
    (case fk2 => k_is)
    (case fa3 => k_is)
    (case fl3 => k_is)
    (case fc3 => k_is)
    (case fk3 => k_is)
    (case fa4 => k_is)
    (case fl4 => k_is)
    (case fc4 => k_is)
    (case fk4 => k_is)
    (case fa5 => k_is)
    (case fl5 => k_is)
    (case fc5 => k_is)
    (case fk5 => k_is)
    (case fa6 => k_is)
    (case fl6 => k_is)
    (case fc6 => k_is)
    (case fk6 => k_is)
    (case fa7 => k_is)
    (case fl7 => k_is)
    (case fc7 => k_is)
    (case fk7 => k_is)
    (case fa8 => k_is)
    (case fl8 => k_is)
    (case fc8 => k_is)
    (case fk8 => k_is)
    (case fa9 => k_is)
    (case fl9 => k_is)
    (case fc9 => k_is)
    (case fk9 => k_is)
    (case fa10 => k_is)
    (case fl10 => k_is)
    (case fc10 => k_is)
    (case fk10 => k_is)
    (case fa11 => k_is)
    (case fl11 => k_is)
    (case fc11 => k_is)
    (case fk11 => k_is)
    (case fa12 => k_is)
    (case fl12 => k_is)
    (case fc12 => k_is)
    (case fk12 => k_is)
    (case fa13 => k_is)
    (case fl13 => k_is)
    (case fc13 => k_is)
    (case fk13 => k_is)
    (case fa14 => k_is)
    (case fl14 => k_is)
    (case fc14 => k_is)
    (case fk14 => k_is)
    (case fa15 => k_is)
    (case fl15 => k_is)
    (case fc15 => k_is)
    (case fk15 => k_is)
    (case fa16 => k_is)
    (case fl16 => k_is)
    (case fc16 => k_is)
    (case fk16 => k_is)
    (case fa17 => k_is)
    (case fl17 => k_is)
    (case fc17 => k_is)
    (case fk17 => k_is)
    (case fa18 => k_is)
    (case fl18 => k_is)
    (case fc18 => k_is)
    (case fk18 => k_is)
    (case fa19 => k_is)
    (case fl19 => k_is)
    (case fc19 => k_is)
    (case fk19 => k_is)
    (case fa20 => k_is)
    (case fl20 => k_is)
    (case fc20 => k_is)
    (case fk20 => k_is)
    (case fa21 => k_is)
    (case fl21 => k_is)
    (case fc21 => k_is)
    (case fk21 => k_is)
    (case fa22 => k_is)
    (case fl22 => k_is)
    (case fc22 => k_is)
    (case fk22 => k_is)
    (case fa23 => k_is)
    (case fl23 => k_is)
    (case fc23 => k_is)
    (case fk23 => k_is)
    (case fa24 => k_is)
    (case fl24 => k_is)
    (case fc24 => k_is)
    (case fk24 => k_is)
    (case fa25 => k_is)
    (case fl25 => k_is)
    (case fc25 => k_is)
    (case fk25 => k_is)
    (case fa26 => k_is)
    (case fl26 => k_is)
    (case fc26 => k_is)
    (case fk26 => k_is)
    (case fa27 => k_is)
    (case fl27 => k_is)
    (case fc27 => k_is)
    (case fk27 => k_is)
    (case fa28 => k_is)
    (case fl28 => k_is)
    (case fc28 => k_is)
    (case fk28 => k_is)
    (case fa29 => k_is)
    (case fl29 => k_is)
    (case fc29 => k_is)
    (case fk29 => k_is)
    (case fa30 => k_is)
    (case fl30 => k_is)
    (case fc30 => k_is)
    (case fk30 => k_is)
    (case fa31 => k_is)
    (case fl31 => k_is)
    (case fc31 => k_is)
    (case fk31 => k_is)
    (case fa32 => k_is)
    (case fl32 => k_is)
    (case fc32 => k_is)
    (case fk32 => k_is)
    (case tl32 => k_is)
    (case tv32 => exact rfl)
    (case th32 => first | kernel_rfl | rfl | k_is)
    (case tn32 => first | kernel_rfl | rfl | k_is)
    (case tt32 => exact PySem.W.km_tabs_of Y _ (by decide))
    (case fa33 => k_is)
    (case fl33 => k_is)
    (case fc33 => k_is)
    (case fk33 => k_is)
    (case tl33 => k_is)
    (case tv33 => exact rfl)
    (case th33 => first | kernel_rfl | rfl | k_is)
    (case tn33 => first | kernel_rfl | rfl | k_is)
    (case tt33 => exact PySem.W.km_tabs_of Y _ (by decide))
    (case fa34 => k_is)
    (case fl34 => k_is)
    (case fc34 => k_is)
    (case fk34 => k_is)
    (case ca0 => k_is)
    (case cb0 => first | kernel_rfl | rfl | k_is)
    (case ca1 => k_is)
    (case cb1 => first | kernel_rfl | rfl | k_is)
    (case ca2 => k_is)
    (case cb2 => first | kernel_rfl | rfl | k_is)
    (case ca3 => k_is)
    (case cb3 => first | kernel_rfl | rfl | k_is)
    (case ca4 => k_is)
    (case cb4 => first | kernel_rfl | rfl | k_is)
    (case ca5 => k_is)
    (case cb5 => first | kernel_rfl | rfl | k_is)
    (case ca6 => k_is)
    (case cb6 => first | kernel_rfl | rfl | k_is)
    (case ca7 => k_is)
    (case cb7 => first | kernel_rfl | rfl | k_is)
    (case nb0 => k_is)
    (case nb1 => k_is)
    (case nb2 => k_is)
    (case nb3 => k_is)
    (case nb4 => k_is)
    (case nb5 => k_is)
    (case nb6 => k_is)
    (case nb7 => k_is)
    (case nb8 => k_is)
    (case nb9 => k_is)
    (case nb10 => k_is)
    (case nb11 => k_is)
    (case nb12 => k_is)
    (case ne32_33 => decide)
