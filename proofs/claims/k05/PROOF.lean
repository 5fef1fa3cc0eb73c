import PyProof.Rows.All
import Wide.All
import OpenK.AllK
import Wide.FinOn
import HandS.ForMost
import HandS.ForExc
import HandS.Slots
import HandS.SlotsOwn
import HandS.IsInst
import HandS.TryMany
import HandS.Defaults
import HandS.TupAny
import HandS.TupLe
import HandS.Conv
import HandS.Star
import HandS.CallSlots
import HandS.Iter
import HandS.Zip
import KE.KOpsOwn
import PyProof.InstNe
import KE.DataCmp
import KE.SortData
import OpenK.KOps
import HandS.HeadWalk
import HandS.TryOnly
import HandS.ExcField
import HandS.ExcIs
import KE.KExcIs
import HandS.HeadHook2
import HandS.Head0
import HandS.Head1
import HandS.Head2
import HandS.HeadEnd
import KE.KExcSuper
import HandS.ExcInit
import PySem.Challenge.RW_partwords_k05_addresses_in_order
set_option Elab.async false
set_option linter.all false
set_option maxRecDepth 100000
/-! An interpreter for the part of Python that the package and the laws use, in plain Lean: immutable data are trees (D), lists, dicts and instances stand in a store (Mem). -/
namespace Pw
open PySem (Str)

inductive D where
  | non | bl (b : Bool) | int (i : Int) | str (s : Str) | tup (xs : List D)
  | ref (n : Nat)
  | adr (x : D)
  | fn (f : Nat)
  | lst (xs : List D)
  deriving Inhabited
inductive MO where
  | lst (xs : List D)
  | dct (lk : Bool) (kvs : List (D × D))
  | ins (c : Nat) (fs : List (Nat × D))
  deriving Inhabited
abbrev Mem := List MO
structure Xc where
  c : Nat
  fs : List (Nat × D)
inductive Res (α : Type) where
  | ok (a : α) (m : Mem)
  | exc (x : Xc) (m : Mem)
  | bad
def Res.bind {α β : Type} (r : Res α) (f : α → Mem → Res β) : Res β := match r with
  | .ok a m => f a m
  | .exc x m => .exc x m
  | .bad => .bad
@[simp] theorem Res.bind_ok {α β : Type} (a : α) (m : Mem) (f : α → Mem → Res β) : (Res.ok a m).bind f = f a m := rfl
@[simp] theorem Res.bind_exc {α β : Type} (x : Xc) (m : Mem) (f : α → Mem → Res β) : (Res.exc x m : Res α).bind f = .exc x m := rfl
@[simp] theorem Res.bind_bad {α β : Type} (f : α → Mem → Res β) : (Res.bad : Res α).bind f = .bad := rfl
abbrev Sg := List (Option D)
inductive SR where
  | nx (σ : Sg) (m : Mem) | ret (d : D) (m : Mem) | brk (σ : Sg) (m : Mem) | cnt (σ : Sg) (m : Mem)
  | exc (x : Xc) (σ : Sg) (m : Mem) | bad

/-! ### the syntax -/
inductive BOp where | add | sub | mul | fdiv | mod | pow
  deriving DecidableEq
inductive COp where | eq | ne | lt | le | gt | ge | inn | notin
  deriving DecidableEq
inductive Blt where | len | int | str | list | tuple | dict | sorted | sum | min | max | all | any | abs
  deriving DecidableEq
inductive BM where | append | extend | pop | reverse
  deriving DecidableEq
inductive Ty where | int | str | bool | list | tuple | dict | cls (c : Nat)
  deriving DecidableEq
mutual
inductive Tg where
  | v (i : Nat)
  | t (ts : Tgs)
inductive Tgs where
  | nil
  | cons (t : Tg) (ts : Tgs)
end
mutual
inductive Ex where
  | var (i : Nat) | cst (d : D) | glo (g : Nat)
  | bin (o : BOp) (a b : Ex) | cmp (o : COp) (a b : Ex) | chn (o o' : COp) (a b c : Ex)
  | isn (a : Ex) (neg : Bool) | ist (a : Ex)
  | and (a b : Ex) | or (a b : Ex) | not (a : Ex) | ite (c a b : Ex)
  | tup (es : Exs) | lst (es : Exs)
  | sub (a i : Ex) | slL (a lo : Ex) | slR (a hi : Ex) | slB (a lo hi : Ex)
  | call (f : Nat) (es : Exs) | cal (f : Ex) (es : Exs) | new (c : Nat) (es : Exs)
  | blt (b : Blt) (es : Exs) | isi (e : Ex) (ts : List Ty)
  | met (m : Nat) (o : Ex) (es : Exs)
  | fld (f : Nat) (o : Ex) | xfl (f : Nat) | xis (c : Nat)
  | lc (tg : Tg) (vs : List Nat) (it : It) (c e : Ex)
  | dc (tg : Tg) (vs : List Nat) (it : It) (k e : Ex)
  | dct
inductive Exs where
  | nil
  | cons (star : Bool) (e : Ex) (es : Exs)
inductive It where
  | e (e : Ex) | rng1 (a : Ex) | rng2 (a b : Ex) | enum (a : Ex) | zip (a b : Ex)
end
mutual
inductive Sm where
  | asg (tg : Tg) (e : Ex)
  | sts (o i e : Ex)
  | stf (f : Nat) (o e : Ex)
  | aug (o : BOp) (i : Nat) (e : Ex)
  | iff (c : Ex) (a b : Sms) | whl (c : Ex) (b : Sms) | loop (tg : Tg) (it : It) (b els : Sms)
  | ret (e : Ex) | exp (e : Ex) | raise (c : Nat) (es : Exs)
  | try_ (b : Sms) (hs : Hds)
  | brk | cnt | pass
inductive Sms where
  | nil
  | cons (s : Sm) (ss : Sms)
inductive Hds where
  | nil
  | cons (c : Nat) (i : Option Nat) (b : Sms) (hs : Hds)
end

/-! ### data -/
mutual
def D.beq : D → D → Bool
  | .non, .non => true
  | .bl a, .bl b => a == b
  | .int i, .int j => i == j
  | .str s, .str t => s == t
  | .tup xs, .tup ys => D.beqs xs ys
  | .lst xs, .lst ys => D.beqs xs ys
  | .ref n, .ref k => n == k
  | .adr x, .adr y => D.beq x y
  | .fn f, .fn g => f == g
  | _, _ => false
def D.beqs : List D → List D → Bool
  | [], [] => true
  | x :: xs, y :: ys => D.beq x y && D.beqs xs ys
  | _, _ => false
end
mutual
/-- Python's == on data without addresses -/
def D.eqv : D → D → Bool
  | .non, .non => true
  | .bl a, .bl b => a == b
  | .bl a, .int j => (if a then 1 else 0) == j
  | .int i, .bl b => i == (if b then 1 else 0)
  | .int i, .int j => i == j
  | .str s, .str t => s == t
  | .tup xs, .tup ys => D.eqvs xs ys
  | .lst xs, .lst ys => D.eqvs xs ys
  | _, _ => false
def D.eqvs : List D → List D → Bool
  | [], [] => true
  | x :: xs, y :: ys => D.eqv x y && D.eqvs xs ys
  | _, _ => false
end
def strLt (s t : Str) : Bool := decide (s.cps.toList < t.cps.toList)
mutual
/-- data that Python orders -/
def D.alk : D → D → Bool
  | .non, .non => true
  | .bl _, .bl _ => true
  | .int _, .int _ => true
  | .str _, .str _ => true
  | .tup xs, .tup ys => D.alks xs ys
  | .lst xs, .lst ys => D.alks xs ys
  | _, _ => false
def D.alks : List D → List D → Bool
  | x :: xs, y :: ys => D.alk x y && D.alks xs ys
  | [], _ => true
  | _ :: _, [] => true
end
mutual
/-- Python's < on such data -/
def D.lt : D → D → Bool
  | .bl a, .bl b => !a && b
  | .int i, .int j => decide (i < j)
  | .str s, .str t => strLt s t
  | .tup xs, .tup ys => D.lts xs ys
  | .lst xs, .lst ys => D.lts xs ys
  | _, _ => false
def D.lts : List D → List D → Bool
  | [], [] => false
  | [], _ :: _ => true
  | _ :: _, [] => false
  | x :: xs, y :: ys => if D.eqv x y then D.lts xs ys else D.lt x y
end
def D.isNon : D → Bool
  | .non => true
  | _ => false
def LIM : Nat := 16777216
/-- a value with its lists written out, at most n deep -/
def resolve (m : Mem) : Nat → D → Option D
  | 0, _ => none
  | _ + 1, .non => some .non
  | _ + 1, .bl b => some (.bl b)
  | _ + 1, .int i => some (.int i)
  | _ + 1, .str s => some (.str s)
  | n + 1, .tup xs => (xs.mapM (resolve m n)).map .tup
  | n + 1, .lst xs => (xs.mapM (resolve m n)).map .lst
  | n + 1, .ref k => match m[k]? with
    | some (.lst xs) => (xs.mapM (resolve m n)).map .lst
    | _ => none
  | _ + 1, _ => none
def D.tru : D → Option Bool
  | .bl b => some b
  | _ => none

/-! ### names that the interpreter knows -/
abbrev nInit : Nat := 0
abbrev nEq : Nat := 1
abbrev nLt : Nat := 2
abbrev nLe : Nat := 3
abbrev nGt : Nat := 4
abbrev nGe : Nat := 5
abbrev nAdd : Nat := 6
abbrev nRadd : Nat := 7
abbrev nLen : Nat := 8
abbrev nIn : Nat := 9
abbrev nCall : Nat := 10
abbrev nGet : Nat := 11
abbrev nSet : Nat := 12
abbrev nIadd : Nat := 13
abbrev nEnter : Nat := 14
abbrev nExit : Nat := 15
abbrev nSteps : Nat := 16
abbrev nAppend : Nat := 17
abbrev nExtend : Nat := 18
abbrev nPop : Nat := 19
abbrev nReverse : Nat := 20
def bmOf (k : Nat) : Option BM := if k = nAppend then some .append else if k = nExtend then some .extend else if k = nPop then some .pop else if k = nReverse then some .reverse else none

/-- what stands around: the calls of the level below, methods and properties of classes, the class of addresses, constants, the fuel of whiles -/
structure Cl where
  call : Nat → List D → Mem → Res D
  mth : Nat → Nat → Option Nat
  prp : Nat → Nat → Option Nat
  att : Nat → Nat → Bool
  isA : Nat → Nat → Bool
  xfs : Nat → List Nat
  isX : Nat → Bool
  adrC : Nat
  con : Nat → D
  fuel : Nat

def lenD (m : Mem) : D → Option Nat
  | .tup xs => some xs.length
  | .lst xs => some xs.length
  | .str s => if s.length ≤ LIM then some s.length else none
  | .ref n => match m[n]? with
    | some (.lst xs) => some xs.length
    | some (.dct _ kvs) => some kvs.length
    | _ => none
  | _ => none
def items (m : Mem) : D → Option (List D)
  | .tup xs => some xs
  | .lst xs => some xs
  | .ref n => match m[n]? with
    | some (.lst xs) => some xs
    | _ => none
  | _ => none
/-- that what is walked stands still -/
def still (d : D) (xs : List D) (m : Mem) : Bool := match items m d with
  | some ys => D.beqs xs ys
  | none => false
def new1 (xs : List D) (m : Mem) : Res D := if xs.length ≤ LIM then .ok (.ref m.length) (m ++ [.lst xs]) else .bad
def tupR (xs : List D) (m : Mem) : Res D := if xs.length ≤ LIM then .ok (.tup xs) m else .bad
def orBad {α : Type} (o : Option α) (m : Mem) : Res α := match o with
  | some a => .ok a m
  | none => .bad
def callM (C : Cl) (o : Option Nat) (ds : List D) (m : Mem) : Res D := match o with
  | some f => C.call f ds m
  | none => .bad
/-- a call that no exception leaves -/
def callN (C : Cl) (o : Option Nat) (ds : List D) (m : Mem) : Res D := match callM C o ds m with
  | .ok d m => .ok d m
  | _ => .bad
section
variable (C : Cl)
def binD (o : BOp) (a b : D) (m : Mem) : Res D := match o, a, b with
  | .add, .int i, .int j => .ok (.int (i + j)) m
  | .add, .str s, .str t => if s.length + t.length ≤ LIM then .ok (.str (s ++ t)) m else .bad
  | .add, .tup xs, .tup ys => tupR (xs ++ ys) m
  | .add, .ref n, .ref k => (match m[n]?, m[k]? with
    | some (.lst xs), some (.lst ys) => new1 (xs ++ ys) m
    | _, _ => .bad)
  | .add, .adr x, .tup ys => callN C (C.mth C.adrC nAdd) [.adr x, .tup ys] m
  | .add, .tup xs, .adr y => callN C (C.mth C.adrC nRadd) [.adr y, .tup xs] m
  | .sub, .int i, .int j => .ok (.int (i - j)) m
  | .mul, .int i, .int j => if (-18446744073709551616 < i ∧ i < 18446744073709551616) ∨ (-18446744073709551616 < j ∧ j < 18446744073709551616) then .ok (.int (i * j)) m else .bad
  | .fdiv, .int i, .int j => if 0 < j ∧ j < 1073741824 then .ok (.int (i / j)) m else .bad
  | .mod, .int i, .int j => if 0 < j then .ok (.int (i % j)) m else .bad
  | .pow, .int i, .int j => if 0 ≤ j ∧ j ≤ 1000000 ∧ i.natAbs < 18446744073709551616 then .ok (.int (i ^ j.toNat)) m else .bad
  | _, _, _ => .bad
/-- == of two values -/
def eqD (a b : D) (m : Mem) : Res D := match a, b with
  | .adr x, .adr y => callN C (C.mth C.adrC nEq) [.adr x, .adr y] m
  | .int i, .int j => .ok (.bl (i == j)) m
  | .str s, .str t => .ok (.bl (s == t)) m
  | a, b => (match resolve m 64 a, resolve m 64 b with
    | some x, some y => .ok (.bl (D.eqv x y)) m
    | _, _ => .bad)
/-- an address beside a tuple: the address's own == -/
def eqT (a b : D) (m : Mem) : Res D := match a, b with
  | .adr x, .tup y => callN C (C.mth C.adrC nEq) [.adr x, .tup y] m
  | a, b => eqD C a b m
def notR (r : Res D) : Res D := r.bind fun d m => match d with
  | .bl b => .ok (.bl (!b)) m
  | _ => .bad
def ordG (o : COp) (a b : D) (m : Mem) : Res D := match resolve m 64 a, resolve m 64 b with
  | some x, some y => if D.alk x y && !D.isNon x then (match o with
    | .lt => .ok (.bl (D.lt x y)) m
    | .le => .ok (.bl (!D.lt y x)) m
    | .gt => .ok (.bl (D.lt y x)) m
    | .ge => .ok (.bl (!D.lt x y)) m
    | _ => .bad) else .bad
  | _, _ => .bad
/-- <, <=, >, >= -/
def ordD (o : COp) (a b : D) (m : Mem) : Res D := match a, b with
  | .int i, .int j => (match o with
    | .lt => .ok (.bl (decide (i < j))) m
    | .le => .ok (.bl (decide (i ≤ j))) m
    | .gt => .ok (.bl (decide (j < i))) m
    | .ge => .ok (.bl (decide (j ≤ i))) m
    | _ => .bad)
  | .adr x, .adr y => (match o with
    | .lt => callN C (C.mth C.adrC nLt) [.adr x, .adr y] m
    | .le => callN C (C.mth C.adrC nLe) [.adr x, .adr y] m
    | .gt => callN C (C.mth C.adrC nGt) [.adr x, .adr y] m
    | .ge => callN C (C.mth C.adrC nGe) [.adr x, .adr y] m
    | _ => .bad)
  | a, b => ordG o a b m
def cmpD (o : COp) (a b : D) (m : Mem) : Res D := match o with
  | .eq => eqT C a b m
  | .ne => notR (eqD C a b m)
  | .lt => ordD C .lt a b m
  | .le => ordD C .le a b m
  | .gt => ordD C .gt a b m
  | .ge => ordD C .ge a b m
  | _ => .bad
def ixOf (n : Nat) (i : Int) : Option Nat := if 0 ≤ i then (if i < n then some i.toNat else none) else if -(n : Int) ≤ i then some (i + n).toNat else none
def subD (a i : D) (m : Mem) : Res D := match a, i with
  | .tup xs, .int i => orBad ((ixOf xs.length i).bind fun k => xs[k]?) m
  | .lst xs, .int i => orBad ((ixOf xs.length i).bind fun k => xs[k]?) m
  | .ref n, .int i => (match m[n]? with
    | some (.lst xs) => orBad ((ixOf xs.length i).bind fun k => xs[k]?) m
    | _ => .bad)
  | _, _ => .bad
/-- the bounds of a slice -/
def bnd (n d : Nat) : Option Int → Nat
  | none => d
  | some v => if v < 0 then (v + (n : Int)).toNat else min v.toNat n
def cut {α : Type} (xs : List α) (lo hi : Option Int) : List α := (xs.drop (bnd xs.length 0 lo)).take (bnd xs.length xs.length hi - bnd xs.length 0 lo)
def slcD (a : D) (lo hi : Option Int) (m : Mem) : Res D := match a with
  | .tup xs => .ok (.tup (cut xs lo hi)) m
  | .ref n => (match m[n]? with
    | some (.lst xs) => new1 (cut xs lo hi) m
    | _ => .bad)
  | _ => .bad
def bltD (b : Blt) (ds : List D) (m : Mem) : Res D := match b, ds with
  | .len, [.adr x] => (callN C (C.mth C.adrC nLen) [.adr x] m).bind fun d m => (match d with
    | .int i => if 0 ≤ i ∧ i ≤ LIM then .ok (.int i) m else .bad
    | _ => .bad)
  | .len, [d] => orBad ((lenD m d).map fun n => D.int n) m
  | .int, [.int i] => .ok (.int i) m
  | .int, [.bl k] => .ok (.int (if k then 1 else 0)) m
  | .max, [.int i, .int j] => .ok (.int (if j > i then j else i)) m
  | .min, [.int i, .int j] => .ok (.int (if j < i then j else i)) m
  | .list, [d] => (match items m d with
    | some xs => new1 xs m
    | none => .bad)
  | .tuple, [d] => (match items m d with
    | some xs => tupR xs m
    | none => .bad)
  | _, _ => .bad
/-- what a value is an instance of -/
inductive DT where | non | bool | int | str | list | tuple | dict | cls (c : Nat)
  deriving DecidableEq
def tyD (m : Mem) : D → Option DT
  | .non => some .non
  | .bl _ => some .bool
  | .int _ => some .int
  | .str _ => some .str
  | .tup _ => some .tuple
  | .lst _ => some .list
  | .adr _ => some (.cls C.adrC)
  | .ref n => (match m[n]? with
    | some (.lst _) => some .list
    | _ => none)
  | _ => none
def isDT (t : DT) (c : Ty) : Bool := match t, c with
  | .int, .int => true
  | .bool, .int => true
  | .bool, .bool => true
  | .str, .str => true
  | .tuple, .tuple => true
  | .list, .list => true
  | .dict, .dict => true
  | .cls k, .cls c => C.isA k c
  | _, _ => false
def bmD (b : BM) (o : D) (ds : List D) (m : Mem) : Res D := match b, o, ds with
  | .append, .ref n, [d] => (match m[n]? with
    | some (.lst xs) => if xs.length < LIM then .ok .non (m.set n (.lst (xs ++ [d]))) else .bad
    | _ => .bad)
  | .extend, .ref n, [.ref k] => (match m[n]?, m[k]? with
    | some (.lst xs), some (.lst ys) => if xs.length + ys.length ≤ LIM then .ok .non (m.set n (.lst (xs ++ ys))) else .bad
    | _, _ => .bad)
  | .pop, .ref n, [] => (match m[n]? with
    | some (.lst xs) => (match xs[xs.length - 1]? with
      | some d => .ok d (m.set n (.lst xs.dropLast))
      | none => .bad)
    | _ => .bad)
  | .reverse, .ref n, [] => (match m[n]? with
    | some (.lst xs) => .ok .non (m.set n (.lst xs.reverse))
    | _ => .bad)
  | _, _, _ => .bad
def fldD (f : Nat) (o : D) (m : Mem) : Res D := match o with
  | .adr x => if f = nSteps then .ok x m else .bad
  | .ref n => (match m[n]? with
    | some (.ins c fs) => if C.att c f then orBad (fs.lookup f) m else .bad
    | _ => .bad)
  | _ => .bad
/-- what a method's name means at a receiver: a def of the text, or a built-in method -/
inductive Rcv where
  | fn (f : Nat)
  | bm (b : BM)
def rcv (k : Nat) (o : D) (m : Mem) : Option Rcv := match o with
  | .adr _ => (C.mth C.adrC k).map .fn
  | .ref n => (match m[n]? with
    | some (.ins c fs) => (match fs.lookup k with
      | none => if c = C.adrC then none else (C.mth c k).map .fn
      | some _ => none)
    | some (.lst _) => (bmOf k).map .bm
    | _ => none)
  | _ => none
def metD (r : Rcv) (o : D) (ds : List D) (m : Mem) : Res D := match r with
  | .fn f => C.call f (o :: ds) m
  | .bm b => bmD b o ds m
end
/-! ### targets -/
mutual
def asgT : Tg → D → Sg → Option Sg
  | .v i, d, σ => some (σ.set i (some d))
  | .t ts, .tup xs, σ => asgTs ts xs σ
  | .t _, _, _ => none
def asgTs : Tgs → List D → Sg → Option Sg
  | .nil, [], σ => some σ
  | .cons t ts, d :: ds, σ => match asgT t d σ with
    | some σ' => asgTs ts ds σ'
    | none => none
  | _, _, _ => none
end
def wipeD (σ : Sg) : List Nat → Sg
  | [] => σ
  | v :: vs => (wipeD σ vs).set v none
/-- the items that a walk hands out, and that what it walks stands still -/
structure Walk where
  xs : List D
  st : Mem → Bool
def walkOf (d : D) (m : Mem) : Res Walk := match d with
  | .tup xs => .ok ⟨xs, fun _ => true⟩ m
  | .lst xs => .ok ⟨xs, fun _ => true⟩ m
  | .ref n => (match items m (.ref n) with
    | some xs => .ok ⟨xs, still (.ref n) xs⟩ m
    | none => .bad)
  | _ => .bad
def rangeOf (lo hi : Int) (m : Mem) : Res Walk :=
  if -4611686018427387904 ≤ lo ∧ lo < 4611686018427387904 ∧ -4611686018427387904 ≤ hi ∧ hi < 4611686018427387904 then
    .ok ⟨(List.range (hi - lo).toNat).map fun (i : Nat) => D.int (lo + (i : Int)), fun _ => true⟩ m
  else .bad
def enumOf (i : Nat) : List D → List D
  | [] => []
  | x :: r => .tup [.int i, x] :: enumOf (i + 1) r
def zipOf : List D → List D → List D
  | x :: r, y :: s => .tup [x, y] :: zipOf r s
  | _, _ => []
/-- a comprehension's turns: the list at n grows -/
def lcL (n : Nat) (f : D → Mem → Res (Option D)) (st : Mem → Bool) : List D → Mem → Res D
  | [], m => if st m then .ok (.ref n) m else .bad
  | d :: ds, m => if st m then (match f d m with
    | .ok none m' => lcL n f st ds m'
    | .ok (some y) m' => (match m'[n]? with
      | some (.lst acc) => if acc.length < LIM then lcL n f st ds (m'.set n (.lst (acc ++ [y]))) else .bad
      | _ => .bad)
    | _ => .bad) else .bad
section
variable (C : Cl) (x : Option Xc)
mutual
def ev : Ex → Sg → Mem → Res D
  | .var i, σ, m => orBad (σ[i]?).join m
  | .cst d, _, m => .ok d m
  | .glo g, _, m => .ok (C.con g) m
  | .bin o a b, σ, m => (ev a σ m).bind fun d m => (ev b σ m).bind fun e m => binD C o d e m
  | .cmp o a b, σ, m => (ev a σ m).bind fun d m => (ev b σ m).bind fun e m => cmpD C o d e m
  | .chn o o' a b c, σ, m => (ev a σ m).bind fun d m => (ev b σ m).bind fun e m => (cmpD C o d e m).bind fun r m => match r with
    | .bl true => (ev c σ m).bind fun g m => cmpD C o' e g m
    | .bl false => .ok (.bl false) m
    | _ => .bad
  | .isn a neg, σ, m => (ev a σ m).bind fun d m => .ok (.bl (D.isNon d != neg)) m
  | .ist a, σ, m => (ev a σ m).bind fun d m => match d with
    | .bl b => .ok (.bl b) m
    | _ => .bad
  | .and a b, σ, m => (ev a σ m).bind fun d m => match d with
    | .bl true => ev b σ m
    | .bl false => .ok (.bl false) m
    | _ => .bad
  | .or a b, σ, m => (ev a σ m).bind fun d m => match d with
    | .bl true => .ok (.bl true) m
    | .bl false => ev b σ m
    | _ => .bad
  | .not a, σ, m => (ev a σ m).bind fun d m => match d with
    | .bl b => .ok (.bl (!b)) m
    | _ => .bad
  | .ite c a b, σ, m => (ev c σ m).bind fun d m => match d with
    | .bl true => ev a σ m
    | .bl false => ev b σ m
    | _ => .bad
  | .tup es, σ, m => (evs es σ m).bind fun ds m => tupR ds m
  | .lst es, σ, m => (evs es σ m).bind fun ds m => new1 ds m
  | .sub a i, σ, m => (ev a σ m).bind fun d m => (ev i σ m).bind fun e m => subD d e m
  | .slL a lo, σ, m => (ev a σ m).bind fun d m => (ev lo σ m).bind fun e m => match e with
    | .int i => slcD d (some i) none m
    | _ => .bad
  | .slR a hi, σ, m => (ev a σ m).bind fun d m => (ev hi σ m).bind fun e m => match e with
    | .int i => slcD d none (some i) m
    | _ => .bad
  | .slB a lo hi, σ, m => (ev a σ m).bind fun d m => (ev lo σ m).bind fun e m => match e with
    | .int i => (ev hi σ m).bind fun g m => (match g with
      | .int j => slcD d (some i) (some j) m
      | _ => .bad)
    | _ => .bad
  | .call f es, σ, m => (evs es σ m).bind fun ds m => C.call f ds m
  | .cal g es, σ, m => (ev g σ m).bind fun d m => match d with
    | .fn f => (evs es σ m).bind fun ds m => C.call f ds m
    | _ => .bad
  | .new c es, σ, m => (evs es σ m).bind fun ds m =>
    if c = C.adrC then (match ds with
      | [] => .ok (.adr (.tup [])) m
      | [d] => .ok (.adr d) m
      | _ => .bad)
    else (callM C (C.mth c nInit) (.ref m.length :: ds) (m ++ [.ins c []])).bind fun d m' => match d with
      | .non => .ok (.ref m.length) m'
      | _ => .bad
  | .blt b es, σ, m => (evs es σ m).bind fun ds m => bltD C b ds m
  | .isi e ts, σ, m => (ev e σ m).bind fun d m => (match tyD C m d with
    | some t => .ok (.bl (ts.any (isDT C t))) m
    | none => .bad)
  | .met k o es, σ, m => (ev o σ m).bind fun d m => (match rcv C k d m with
    | some r => (evs es σ m).bind fun ds m => metD C r d ds m
    | none => .bad)
  | .fld f o, σ, m => (ev o σ m).bind fun d m => fldD C f d m
  | .xfl f, _, m => (match x with
    | some e => if (C.xfs e.c).contains f then orBad (e.fs.lookup f) m else .bad
    | none => .bad)
  | .xis c, _, m => (match x with
    | some e => if C.isX e.c then .ok (.bl (C.isA e.c c)) m else .bad
    | none => .bad)
  | .lc tg vs it c e, σ, m => (evIt it σ m).bind fun w m => lcL m.length (fun d m => match asgT tg d (wipeD σ vs) with
      | some σ' => (ev c σ' m).bind fun b m => (match b with
        | .bl true => (ev e σ' m).bind fun d m => .ok (some d) m
        | .bl false => .ok none m
        | _ => .bad)
      | none => .bad) w.st w.xs (m ++ [.lst []])
  | .dc .., _, _ => .bad
  | .dct, _, m => .ok (.ref m.length) (m ++ [.dct false []])
def evs : Exs → Sg → Mem → Res (List D)
  | .nil, _, m => .ok [] m
  | .cons star e es, σ, m => (ev e σ m).bind fun d m => match star with
    | false => (evs es σ m).bind fun ds m => .ok (d :: ds) m
    | true => (match items m d with
      | some xs => (evs es σ m).bind fun ds m => .ok (xs ++ ds) m
      | none => .bad)
def evIt : It → Sg → Mem → Res Walk
  | .e e, σ, m => (ev e σ m).bind fun d m => walkOf d m
  | .rng1 a, σ, m => (ev a σ m).bind fun d m => match d with
    | .int i => rangeOf 0 i m
    | _ => .bad
  | .rng2 a b, σ, m => (ev a σ m).bind fun d m => (ev b σ m).bind fun e m => match d, e with
    | .int i, .int j => rangeOf i j m
    | _, _ => .bad
  | .enum a, σ, m => (ev a σ m).bind fun d m => (walkOf d m).bind fun w m => .ok ⟨enumOf 0 w.xs, w.st⟩ m
  | .zip a b, σ, m => (ev a σ m).bind fun d m => (ev b σ m).bind fun e m => (match d, e with
    | .tup xs, .tup ys => .ok ⟨zipOf xs ys, fun _ => true⟩ m
    | .ref n, .ref k => (match items m (.ref n), items m (.ref k) with
      | some xs, some ys => .ok ⟨zipOf xs ys, fun m => still (.ref n) xs m && still (.ref k) ys m⟩ m
      | _, _ => .bad)
    | _, _ => .bad)
end
end
/-! ### statements -/
def forL (f : D → Sg → Mem → SR) (st : Mem → Bool) : List D → Sg → Mem → SR
  | [], σ, m => if st m then .nx σ m else .bad
  | d :: ds, σ, m => if st m then (match f d σ m with
    | .nx σ' m' => forL f st ds σ' m'
    | .cnt σ' m' => forL f st ds σ' m'
    | .brk σ' m' => .nx σ' m'
    | .ret d m' => .ret d m'
    | .exc x σ' m' => .exc x σ' m'
    | .bad => .bad) else .bad
def whlL (c : Sg → Mem → Res D) (b : Sg → Mem → SR) : Nat → Sg → Mem → SR
  | 0, _, _ => .bad
  | n + 1, σ, m => match c σ m with
    | .ok (.bl true) m' => (match b σ m' with
      | .nx σ' m'' => whlL c b n σ' m''
      | .cnt σ' m'' => whlL c b n σ' m''
      | .brk σ' m'' => .nx σ' m''
      | .ret d m'' => .ret d m''
      | .exc x σ' m'' => .exc x σ' m''
      | .bad => .bad)
    | .ok (.bl false) m' => .nx σ m'
    | .exc x m' => .exc x σ m'
    | _ => .bad
def SR.of {α : Type} (r : Res α) (σ : Sg) (f : α → Mem → SR) : SR := match r with
  | .ok d m => f d m
  | .exc x m => .exc x σ m
  | .bad => .bad
@[simp] theorem SR.of_ok {α : Type} (d : α) (m : Mem) (σ : Sg) (f : α → Mem → SR) : SR.of (.ok d m) σ f = f d m := rfl
@[simp] theorem SR.of_exc {α : Type} (x : Xc) (m : Mem) (σ : Sg) (f : α → Mem → SR) : SR.of (.exc x m) σ f = .exc x σ m := rfl
@[simp] theorem SR.of_bad {α : Type} (σ : Sg) (f : α → Mem → SR) : SR.of .bad σ f = .bad := rfl
def unsetO (i : Option Nat) (σ : Sg) : Sg := match i with
  | some i => σ.set i none
  | none => σ
def okI (i : Option Nat) (σ : Sg) : Bool := match i with
  | some i => decide (i < σ.length)
  | none => true
def SR.unset (i : Option Nat) : SR → SR
  | .nx σ m => .nx (unsetO i σ) m
  | .brk σ m => .brk (unsetO i σ) m
  | .cnt σ m => .cnt (unsetO i σ) m
  | .ret d m => .ret d m
  | _ => .bad
/-- op= -/
def augD (o : BOp) (a b : D) (m : Mem) : Res D := match o, a, b with
  | .add, .int i, .int j => .ok (.int (i + j)) m
  | .sub, .int i, .int j => .ok (.int (i - j)) m
  | _, _, _ => .bad
section
variable (C : Cl)
mutual
def exm (x : Option Xc) : Sm → Sg → Mem → SR
  | .asg tg e, σ, m => SR.of (ev C x e σ m) σ fun d m => (match asgT tg d σ with
    | some σ' => .nx σ' m
    | none => .bad)
  | .sts o i e, σ, m => SR.of (ev C x e σ m) σ fun d m => SR.of (ev C x o σ m) σ fun a m => SR.of (ev C x i σ m) σ fun k m => (match a, k with
    | .ref n, .int i => (match m[n]? with
      | some (.lst xs) => (match ixOf xs.length i with
        | some j => .nx σ (m.set n (.lst (xs.set j d)))
        | none => .bad)
      | _ => .bad)
    | _, _ => .bad)
  | .stf f o e, σ, m => SR.of (ev C x e σ m) σ fun d m => SR.of (ev C x o σ m) σ fun a m => (match a with
    | .ref n => (match m[n]? with
      | some (.ins c fs) => if fs.length < 1000 then .nx σ (m.set n (.ins c ((f, d) :: fs.filter fun p => p.1 != f))) else .bad
      | _ => .bad)
    | _ => .bad)
  | .aug o i e, σ, m => SR.of (orBad (σ[i]?).join m) σ fun d m => SR.of (ev C x e σ m) σ fun a m => SR.of (augD o d a m) σ fun r m => .nx (σ.set i (some r)) m
  | .iff c a b, σ, m => SR.of (ev C x c σ m) σ fun d m => (match d with
    | .bl true => exms x a σ m
    | .bl false => exms x b σ m
    | _ => .bad)
  | .whl c b, σ, m => whlL (ev C x c) (exms x b) C.fuel σ m
  | .loop tg it b els, σ, m => SR.of (evIt C x it σ m) σ fun w m => (match els with
      | .nil => forL (fun d σ m => match asgT tg d σ with
        | some σ' => exms x b σ' m
        | none => .bad) w.st w.xs σ m
      | _ => .bad)
  | .ret e, σ, m => SR.of (ev C x e σ m) σ fun d m => .ret d m
  | .exp e, σ, m => SR.of (ev C x e σ m) σ fun _ m => .nx σ m
  | .raise c es, σ, m => SR.of (evs C x es σ m) σ fun ds m => if ds.length = (C.xfs c).length ∧ ds.length ≤ 900 then .exc ⟨c, (C.xfs c).zip ds⟩ σ m else .bad
  | .try_ b hs, σ, m => (match exms x b σ m with
    | .exc e σ' m' => exh e hs σ' m'
    | r => r)
  | .brk, σ, m => .brk σ m
  | .cnt, σ, m => .cnt σ m
  | .pass, σ, m => .nx σ m
def exms (x : Option Xc) : Sms → Sg → Mem → SR
  | .nil, σ, m => .nx σ m
  | .cons s ss, σ, m => match exm x s σ m with
    | .nx σ' m' => exms x ss σ' m'
    | r => r
def exh (e : Xc) : Hds → Sg → Mem → SR
  | .nil, σ, m => .exc e σ m
  | .cons c i b hs, σ, m => if C.isX e.c then (if C.isA e.c c then (if okI i σ then SR.unset i (exms (some e) b (unsetO i σ) m) else .bad) else exh e hs σ m) else .bad
end
end
end Pw
set_option Elab.async false
set_option linter.all false
set_option maxRecDepth 100000
set_option autoImplicit false
/-! The relation between the interpreter's data and the hand layer's abstract heap, and how wishes go through the interpreter's steps. -/
namespace Pw
open PySem PySem.Spec PyProof.Rows L2

/-- where things stand: functions, classes; the name of each interned name -/
structure Gd where
  fA : Nat → Addr
  cA : Nat → Addr
  adrC : Nat
  nm : Nat → Str
abbrev sok (s : Str) : Prop := s.cps.all (· < 0x110000) = true
/-- a list that nobody writes -/
def FrL (K : PySem.W.Frag) (H : Hp) (a : Addr) (xs : List V) : Prop := (∃ o, H a = some (.frz o (.lst xs))) ∨ SqL K (fun _ => none) a xs
theorem FrL.sql {K : PySem.W.Frag} {H : Hp} {a : Addr} {xs : List V} (h : FrL K H a xs) : SqL K H a xs := by
  rcases h with ⟨o, h⟩ | h
  · exact .inl (.inr ⟨o, h⟩)
  · rcases h with (h | ⟨_, h⟩) | h
    · cases h
    · cases h
    · exact .inr h
mutual
inductive Rp (K : PySem.W.Frag) (G : Gd) (H : Hp) (ρ : List Addr) : D → V → Prop
  | non : Rp K G H ρ .non .non
  | bl (b : Bool) : Rp K G H ρ (.bl b) (.bl b)
  | int (i : Int) : Rp K G H ρ (.int i) (.int i)
  | str (s : Str) (h : sok s) : Rp K G H ρ (.str s) (.str s)
  | tup {a : Addr} {ds : List D} {vs : List V} : SqT K H a vs → Rps K G H ρ ds vs → Rp K G H ρ (.tup ds) (.ref a)
  | lst {a : Addr} {ds : List D} {vs : List V} : FrL K H a vs → Rps K G H ρ ds vs → Rp K G H ρ (.lst ds) (.ref a)
  | ref {n : Nat} {a : Addr} : ρ[n]? = some a → Rp K G H ρ (.ref n) (.ref a)
  | adr {a dx : Addr} {d : D} {w : V} : SlX.Slt H a (G.cA G.adrC) dx [some w] → Rp K G H ρ d w → Rp K G H ρ (.adr d) (.ref a)
  | fn (f : Nat) : Rp K G H ρ (.fn f) (.ref (G.fA f))
inductive Rps (K : PySem.W.Frag) (G : Gd) (H : Hp) (ρ : List Addr) : List D → List V → Prop
  | nil : Rps K G H ρ [] []
  | cons {d : D} {v : V} {ds : List D} {vs : List V} : Rp K G H ρ d v → Rps K G H ρ ds vs → Rps K G H ρ (d :: ds) (v :: vs)
end
/-- growth: nothing that is told by trees changes -/
structure Ge (K : PySem.W.Frag) (G : Gd) (ρ : List Addr) (H : Hp) (ρ' : List Addr) (H' : Hp) : Prop where
  pre : ∃ r, ρ' = ρ ++ r
  tup : ∀ a xs, SqT K H a xs → SqT K H' a xs
  slt : ∀ a C dx w, SlX.Slt H a C dx [some w] → SlX.Slt H' a C dx [some w]
  xd : ∀ a fs, H a = some (.xd fs) → H' a = some (.xd fs)
  frl : ∀ a xs, FrL K H a xs → FrL K H' a xs
section
variable {K : PySem.W.Frag} {G : Gd} {H H1 H2 : Hp} {ρ ρ1 ρ2 : List Addr}
theorem Ge.refl : Ge K G ρ H ρ H := ⟨⟨[], by simp⟩, fun _ _ h => h, fun _ _ _ _ h => h, fun _ _ h => h, fun _ _ h => h⟩
theorem Ge.trans (a : Ge K G ρ H ρ1 H1) (b : Ge K G ρ1 H1 ρ2 H2) : Ge K G ρ H ρ2 H2 := by
  obtain ⟨r, e⟩ := a.pre
  obtain ⟨r', e'⟩ := b.pre
  exact ⟨⟨r ++ r', by rw [e', e, List.append_assoc]⟩, fun x xs h => b.tup x xs (a.tup x xs h), fun x C dx w h => b.slt x C dx w (a.slt x C dx w h), fun x fs h => b.xd x fs (a.xd x fs h), fun x xs h => b.frl x xs (a.frl x xs h)⟩
theorem Ge.get (a : Ge K G ρ H ρ1 H1) {n : Nat} {x : Addr} (h : ρ[n]? = some x) : ρ1[n]? = some x := by
  obtain ⟨r, e⟩ := a.pre
  rw [e, List.getElem?_append_left (List.getElem?_eq_some_iff.mp h).1]
  exact h
mutual
theorem Rp.mono (g : Ge K G ρ H ρ1 H1) : ∀ (d : D) (v : V), Rp K G H ρ d v → Rp K G H1 ρ1 d v
  | .non, _, h => by cases h; exact .non
  | .bl _, _, h => by cases h; exact .bl _
  | .int _, _, h => by cases h; exact .int _
  | .str _, _, h => by cases h; exact .str _ (by assumption)
  | .tup ds, _, h => by
    cases h with
    | tup ha hs => exact .tup (g.tup _ _ ha) (Rps.mono g ds _ hs)
  | .ref _, _, h => by
    cases h with
    | ref ha => exact .ref (g.get ha)
  | .adr d, _, h => by
    cases h with
    | adr ha hs => exact .adr (g.slt _ _ _ _ ha) (Rp.mono g d _ hs)
  | .fn _, _, h => by cases h; exact .fn _
  | .lst ds, _, h => by
    cases h with
    | lst ha hs => exact .lst (g.frl _ _ ha) (Rps.mono g ds _ hs)
theorem Rps.mono (g : Ge K G ρ H ρ1 H1) : ∀ (ds : List D) (vs : List V), Rps K G H ρ ds vs → Rps K G H1 ρ1 ds vs
  | [], _, h => by cases h; exact .nil
  | d :: ds, _, h => by
    cases h with
    | cons ha hs => exact .cons (Rp.mono g d _ ha) (Rps.mono g ds _ hs)
end
theorem Rp.ref_inv {k : Nat} {v : V} (r : Rp K G H ρ (.ref k) v) : ∃ a, v = .ref a ∧ ρ[k]? = some a := by
  cases r with
  | ref h => exact ⟨_, rfl, h⟩
theorem Rp.tup_inv {ds : List D} {v : V} (r : Rp K G H ρ (.tup ds) v) : ∃ a vs, v = .ref a ∧ SqT K H a vs ∧ Rps K G H ρ ds vs := by
  cases r with
  | tup h q => exact ⟨_, _, rfl, h, q⟩
theorem Rp.lst_inv {ds : List D} {v : V} (r : Rp K G H ρ (.lst ds) v) : ∃ a vs, v = .ref a ∧ FrL K H a vs ∧ Rps K G H ρ ds vs := by
  cases r with
  | lst h q => exact ⟨_, _, rfl, h, q⟩
theorem Rp.adr_inv {d : D} {v : V} (r : Rp K G H ρ (.adr d) v) : ∃ a dx w, v = .ref a ∧ SlX.Slt H a (G.cA G.adrC) dx [some w] ∧ Rp K G H ρ d w := by
  cases r with
  | adr h q => exact ⟨_, _, _, rfl, h, q⟩
theorem Rps.length : ∀ {ds : List D} {vs : List V}, Rps K G H ρ ds vs → ds.length = vs.length
  | [], _, h => by cases h; rfl
  | _ :: _, _, h => by
    cases h with
    | cons _ hs => simp [Rps.length hs]
theorem Rps.get : ∀ {ds : List D} {vs : List V} {i : Nat} {d : D}, Rps K G H ρ ds vs → ds[i]? = some d → ∃ v, vs[i]? = some v ∧ Rp K G H ρ d v
  | [], _, _, _, _, e => by simp at e
  | _ :: _, _, 0, _, .cons r _, e => by simp at e; subst e; exact ⟨_, rfl, r⟩
  | _ :: _, _, i + 1, _, .cons _ t, e => by
    obtain ⟨v, h1, h2⟩ := Rps.get (i := i) t (by simpa using e)
    exact ⟨v, by simpa using h1, h2⟩
theorem Rps.append : ∀ {ds es : List D} {vs ws : List V}, Rps K G H ρ ds vs → Rps K G H ρ es ws → Rps K G H ρ (ds ++ es) (vs ++ ws)
  | [], _, _, _, .nil, s => s
  | _ :: _, _, _, _, .cons r t, s => .cons r (Rps.append t s)
theorem Rps.take : ∀ {ds : List D} {vs : List V} (n : Nat), Rps K G H ρ ds vs → Rps K G H ρ (ds.take n) (vs.take n)
  | _, _, 0, _ => .nil
  | _, _, _ + 1, .nil => .nil
  | _, _, n + 1, .cons r t => .cons r (Rps.take n t)
theorem Rps.drop : ∀ {ds : List D} {vs : List V} (n : Nat), Rps K G H ρ ds vs → Rps K G H ρ (ds.drop n) (vs.drop n)
  | _, _, 0, r => r
  | _, _, _ + 1, .nil => .nil
  | _, _, n + 1, .cons _ t => Rps.drop n t
theorem Rps.set {d : D} {v : V} (r : Rp K G H ρ d v) : ∀ {ds : List D} {vs : List V} (i : Nat), Rps K G H ρ ds vs → Rps K G H ρ (ds.set i d) (vs.set i v)
  | _, _, _, .nil => .nil
  | _, _, 0, .cons _ t => .cons r t
  | _, _, i + 1, .cons q t => .cons q (Rps.set r i t)
end

/-! ### the store -/
/-- what stands at a for an object of the store -/
def RO (K : PySem.W.Frag) (G : Gd) (H : Hp) (ρ : List Addr) (a : Addr) : MO → Prop
  | .lst xs => ∃ vs, H a = some (.lst vs) ∧ Rps K G H ρ xs vs
  | .dct _ _ => False
  | .ins c fs => ∃ dx fs', H a = some (.ins (G.cA c) dx fs') ∧ fs'.length = fs.length ∧
      ∀ f, (match fs.lookup f with
        | some d => ∃ v, fs'.lookup (G.nm f) = some v ∧ Rp K G H ρ d v
        | none => fs'.lookup (G.nm f) = none)
/-- the layer's slots -/
abbrev VS := L2.St
structure RM (K : PySem.W.Frag) (G : Gd) (H : Hp) (ρ : List Addr) (M : Mem) : Prop where
  len : ρ.length = M.length
  inj : ρ.Nodup
  obj : ∀ (n : Nat) (o : MO), M[n]? = some o → ∃ a, ρ[n]? = some a ∧ RO K G H ρ a o
/-- the locals -/
def Rs (K : PySem.W.Frag) (G : Gd) (H : Hp) (ρ : List Addr) (σ : Sg) (σv : VS) : Prop := σ.length = σv.length ∧ ∀ (i : Nat) (d : D), σ[i]? = some (some d) → ∃ v, σv[i]? = some (some v) ∧ Rp K G H ρ d v
section
variable {K : PySem.W.Frag} {G : Gd} {H H1 : Hp} {ρ ρ1 : List Addr} {M : Mem} {σ : Sg} {σv : VS}
theorem RM.at (r : RM K G H ρ M) {n : Nat} {o : MO} (h : M[n]? = some o) : ∃ a, ρ[n]? = some a ∧ RO K G H ρ a o := r.obj n o h
theorem RO.there {a : Addr} {o : MO} (r : RO K G H ρ a o) : H a ≠ none := by
  cases o with
  | lst xs => obtain ⟨vs, h, _⟩ := r; rw [h]; simp
  | dct _ _ => exact r.elim
  | ins c fs => obtain ⟨_, _, h, _⟩ := r; rw [h]; simp
theorem RM.there (r : RM K G H ρ M) {a : Addr} (h : a ∈ ρ) : H a ≠ none := by
  obtain ⟨n, hn⟩ := List.getElem?_of_mem h
  have hl := (List.getElem?_eq_some_iff.mp hn).1
  have hm : n < M.length := by rw [← r.len]; exact hl
  obtain ⟨b, hb, ro⟩ := r.obj n M[n] (List.getElem?_eq_getElem hm)
  rw [hn] at hb
  cases hb
  exact ro.there
theorem Rs.mono (g : Ge K G ρ H ρ1 H1) (r : Rs K G H ρ σ σv) : Rs K G H1 ρ1 σ σv := ⟨r.1, fun i d h => by
  obtain ⟨v, e, q⟩ := r.2 i d h
  exact ⟨v, e, q.mono g⟩⟩
theorem Rs.set (r : Rs K G H ρ σ σv) {d : D} {v : V} (q : Rp K G H ρ d v) (i : Nat) : Rs K G H ρ (σ.set i (some d)) (σv.set i (some v)) := ⟨by simp [r.1], fun j e h => by
  by_cases hj : i = j
  · subst hj
    by_cases hl : i < σ.length
    · rw [List.getElem?_set_self hl] at h
      cases h
      exact ⟨v, by rw [List.getElem?_set_self (by rw [← r.1]; exact hl)], q⟩
    · rw [List.getElem?_eq_none (by simpa using hl)] at h
      cases h
  · rw [List.getElem?_set_ne hj] at h
    obtain ⟨w, e1, e2⟩ := r.2 j e h
    exact ⟨w, by rw [List.getElem?_set_ne hj]; exact e1, e2⟩⟩
theorem Rs.unset (r : Rs K G H ρ σ σv) (i : Nat) : Rs K G H ρ (σ.set i none) (σv.set i none) := ⟨by simp [r.1], fun j e h => by
  by_cases hj : i = j
  · subst hj
    by_cases hl : i < σ.length
    · rw [List.getElem?_set_self hl] at h
      cases h
    · rw [List.getElem?_eq_none (by simpa using hl)] at h
      cases h
  · rw [List.getElem?_set_ne hj] at h
    obtain ⟨w, e1, e2⟩ := r.2 j e h
    exact ⟨w, by rw [List.getElem?_set_ne hj]; exact e1, e2⟩⟩
/-- slots may be forgotten on the layer's side only where they are on ours -/
theorem Rs.wipe (r : Rs K G H ρ σ σv) : ∀ vs : List Nat, Rs K G H ρ (wipeD σ vs) (L2.wipe σv vs)
  | [] => r
  | v :: vs => (Rs.wipe r vs).unset v
end

/-! ### changes of the abstract heap -/
section
variable {K : PySem.W.Frag} {G : Gd} {H : Hp} {ρ : List Addr} {M : Mem} {p : Addr} {o : HO}
theorem sqt_fresh (h : H p = none) {a : Addr} {xs : List V} (q : SqT K H a xs) : SqT K (upd H p o) a xs := by
  rcases q with (q | ⟨u, q⟩) | q
  · exact .inl (.inl (by rw [upd_ne (ne_of_none q h)]; exact q))
  · exact .inl (.inr ⟨u, by rw [upd_ne (ne_of_none q h)]; exact q⟩)
  · exact .inr q
theorem sql_fresh (h : H p = none) {a : Addr} {xs : List V} (q : SqL K H a xs) : SqL K (upd H p o) a xs := by
  rcases q with (q | ⟨u, q⟩) | q
  · exact .inl (.inl (by rw [upd_ne (ne_of_none q h)]; exact q))
  · exact .inl (.inr ⟨u, by rw [upd_ne (ne_of_none q h)]; exact q⟩)
  · exact .inr q
theorem slt_fresh (h : H p = none) {a C dx : Addr} {w : V} (q : SlX.Slt H a C dx [some w]) : SlX.Slt (upd H p o) a C dx [some w] := by
  rcases q with ⟨_, q⟩ | ⟨q1, q2⟩
  · cases q
  · exact .inr ⟨by rw [upd_ne (ne_of_none q1 h)]; exact q1, by rw [upd_ne (ne_of_none q2 h)]; exact q2⟩
theorem Ge.fresh (h : H p = none) : Ge K G ρ H ρ (upd H p o) := ⟨⟨[], by simp⟩, fun _ _ q => sqt_fresh h q, fun _ _ _ _ q => slt_fresh h q, fun _ _ q => by rw [upd_ne (ne_of_none q h)]; exact q, fun _ _ q => by
  rcases q with ⟨u, q⟩ | q
  · exact .inl ⟨u, by rw [upd_ne (ne_of_none q h)]; exact q⟩
  · exact .inr q⟩
theorem Ge.push (a : Addr) : Ge K G ρ H (ρ ++ [a]) H := ⟨⟨[a], rfl⟩, fun _ _ h => h, fun _ _ _ _ h => h, fun _ _ h => h, fun _ _ h => h⟩
theorem RO.fresh (h : H p = none) {a : Addr} {x : MO} (r : RO K G H ρ a x) : RO K G (upd H p o) ρ a x := by
  have ne : a ≠ p := fun z => by subst z; exact r.there h
  cases x with
  | lst xs => obtain ⟨vs, e, q⟩ := r; exact ⟨vs, by rw [upd_ne ne]; exact e, q.mono (Ge.fresh h)⟩
  | dct _ _ => exact r
  | ins c fs =>
    obtain ⟨dx, fs', e, el, q⟩ := r
    refine ⟨dx, fs', by rw [upd_ne ne]; exact e, el, fun f => ?_⟩
    have q' := q f
    revert q'
    cases fs.lookup f with
    | none => exact fun q => q
    | some d => exact fun ⟨v, e1, e2⟩ => ⟨v, e1, e2.mono (Ge.fresh h)⟩
theorem RM.fresh (h : H p = none) (r : RM K G H ρ M) : RM K G (upd H p o) ρ M := ⟨r.len, r.inj, fun n x e => by
  obtain ⟨a, ea, ro⟩ := r.obj n x e
  exact ⟨a, ea, ro.fresh h⟩⟩
theorem RO.grow {ρ' : List Addr} (g : Ge K G ρ H ρ' H) {a : Addr} {x : MO} (r : RO K G H ρ a x) : RO K G H ρ' a x := by
  cases x with
  | lst xs => obtain ⟨vs, e, q⟩ := r; exact ⟨vs, e, q.mono g⟩
  | dct _ _ => exact r
  | ins c fs =>
    obtain ⟨dx, fs', e, el, q⟩ := r
    refine ⟨dx, fs', e, el, fun f => ?_⟩
    have q' := q f
    revert q'
    cases fs.lookup f with
    | none => exact fun q => q
    | some d => exact fun ⟨v, e1, e2⟩ => ⟨v, e1, e2.mono g⟩
/-- an object that stands, but is not in the store yet, comes into it -/
theorem RM.push (r : RM K G H ρ M) {a : Addr} {x : MO} (hn : a ∉ ρ) (ro : RO K G H ρ a x) : RM K G H (ρ ++ [a]) (M ++ [x]) := by
  refine ⟨by simp [r.len], ?_, fun n y e => ?_⟩
  · rw [List.nodup_append]
    refine ⟨r.inj, by simp, fun b hb c hc => ?_⟩
    simp at hc
    subst hc
    exact fun z => hn (z ▸ hb)
  · by_cases hl : n < M.length
    · rw [List.getElem?_append_left hl] at e
      obtain ⟨b, eb, rb⟩ := r.obj n y e
      exact ⟨b, by rw [List.getElem?_append_left (by rw [r.len]; exact hl)]; exact eb, rb.grow (Ge.push a)⟩
    · have h2 : n = M.length := by
        have := (List.getElem?_eq_some_iff.mp e).1
        simp at this
        omega
      subst h2
      simp at e
      subst e
      exact ⟨a, by rw [← r.len]; simp, ro.grow (Ge.push a)⟩
theorem notin_of_none (r : RM K G H ρ M) (h : H p = none) : p ∉ ρ := fun hp => r.there hp h
end
/-- what may stand at an address where the store writes: nothing that a tree is told by -/
def Wr (o : HO) : Prop := (∃ vs, o = .lst vs) ∨ (∃ C dx fs, o = .ins C dx fs) ∨ ∃ k, o = .dK k
theorem Wr.tup {o : HO} (h : Wr o) (xs : List V) : o ≠ .tup xs := by
  rcases h with ⟨_, rfl⟩ | ⟨_, _, _, rfl⟩ | ⟨_, rfl⟩ <;> intro z <;> cases z
theorem Wr.frz {o : HO} (h : Wr o) (b : Obj) (x : HO) : o ≠ .frz b x := by
  rcases h with ⟨_, rfl⟩ | ⟨_, _, _, rfl⟩ | ⟨_, rfl⟩ <;> intro z <;> cases z
theorem Wr.ext {o : HO} (h : Wr o) (φ : Heap → Prop) : o ≠ .ext φ := by
  rcases h with ⟨_, rfl⟩ | ⟨_, _, _, rfl⟩ | ⟨_, rfl⟩ <;> intro z <;> cases z
theorem Wr.xd {o : HO} (h : Wr o) (fs : List (Str × V)) : o ≠ .xd fs := by
  rcases h with ⟨_, rfl⟩ | ⟨_, _, _, rfl⟩ | ⟨_, rfl⟩ <;> intro z <;> cases z
section
variable {K : PySem.W.Frag} {G : Gd} {H : Hp} {ρ : List Addr} {M : Mem} {a : Addr} {o u : HO}
theorem ne_other {b : Addr} {x : HO} (h : H a = some u) (q : H b = some x) (d : u ≠ x) : b ≠ a := fun z => by
  subst z; rw [h] at q; exact d (Option.some.inj q)
theorem Ge.write (h : H a = some u) (w : Wr u) : Ge K G ρ H ρ (upd H a o) := by
  refine ⟨⟨[], by simp⟩, fun b xs q => ?_, fun b C dx v q => ?_, fun b fs q => by rw [upd_ne (ne_other h q (w.xd _))]; exact q, fun b xs q => ?_⟩
  · rcases q with (q | ⟨ob, q⟩) | q
    · exact .inl (.inl (by rw [upd_ne (ne_other h q (w.tup _))]; exact q))
    · exact .inl (.inr ⟨ob, by rw [upd_ne (ne_other h q (w.frz _ _))]; exact q⟩)
    · exact .inr q
  · rcases q with ⟨_, q⟩ | ⟨q1, q2⟩
    · cases q
    · exact .inr ⟨by rw [upd_ne (ne_other h q1 (w.ext _))]; exact q1, by rw [upd_ne (ne_other h q2 (w.xd _))]; exact q2⟩
  · rcases q with ⟨u', q⟩ | q
    · exact .inl ⟨u', by rw [upd_ne (ne_other h q (w.frz _ _))]; exact q⟩
    · exact .inr q
/-- an object of the store is written -/
theorem RM.write (r : RM K G H ρ M) {n : Nat} {x : MO} (hn : ρ[n]? = some a) (h : H a = some u) (w : Wr u) (ro : RO K G (upd H a o) ρ a x) : RM K G (upd H a o) ρ (M.set n x) := by
  refine ⟨by simp [r.len], r.inj, fun k y e => ?_⟩
  by_cases hk : n = k
  · subst hk
    have hlt : n < M.length := by
      have := (List.getElem?_eq_some_iff.mp e).1
      simpa using this
    rw [List.getElem?_set_self hlt] at e
    cases e
    exact ⟨a, hn, ro⟩
  · rw [List.getElem?_set_ne hk] at e
    obtain ⟨b, eb, rb⟩ := r.obj k y e
    have ne : b ≠ a := fun z => by
      subst z
      have h1 := (List.getElem?_eq_some_iff.mp hn)
      have h2 := (List.getElem?_eq_some_iff.mp eb)
      exact hk ((List.getElem_inj r.inj).mp (h1.2.trans h2.2.symm))
    have g : Ge K G ρ H ρ (upd H a o) := Ge.write h w
    refine ⟨b, eb, ?_⟩
    cases y with
    | lst xs => obtain ⟨vs, e, q⟩ := rb; exact ⟨vs, by rw [upd_ne ne]; exact e, q.mono g⟩
    | dct _ _ => exact rb
    | ins c fs =>
      obtain ⟨dx, fs', e, el, q⟩ := rb
      refine ⟨dx, fs', by rw [upd_ne ne]; exact e, el, fun f => ?_⟩
      have q' := q f
      revert q'
      cases fs.lookup f with
      | none => exact fun q => q
      | some d => exact fun ⟨v, e1, e2⟩ => ⟨v, e1, e2.mono g⟩
end
end Pw
set_option Elab.async false
set_option linter.all false
set_option maxRecDepth 100000
set_option autoImplicit false
/-! How an expression's run follows the interpreter: wishes (Post), their composition, and the rules for names, constants, operators, displays. -/
namespace Pw
open PySem PySem.Spec PyProof.Rows L2

/-- an exception's class and its own dict -/
def RX (K : PySem.W.Frag) (G : Gd) (H : Hp) (ρ : List Addr) (x : Xc) (cls : Value) (dd : Option Addr) : Prop :=
  cls = .ref (G.cA x.c) ∧ ((x.fs = [] ∧ dd = none) ∨ ∃ d fs', dd = some d ∧ H d = some (.xd fs') ∧ ∀ f dv, x.fs.lookup f = some dv → ∃ v, fs'.lookup (G.nm f) = some v ∧ Rp K G H ρ dv v)
abbrev Rel (α β : Type) := Hp → List Addr → α → β → Prop
/-- what is wanted of a result, from a store at ρ, H on -/
def Post {α β : Type} (K : PySem.W.Frag) (G : Gd) (R : Rel α β) (W : XK) (ρ : List Addr) (H : Hp) (r : Res α) (Q : β → Hp → Prop) : Prop := match r with
  | .ok d M => ∀ ρ' H' v, Ge K G ρ H ρ' H' → RM K G H' ρ' M → R H' ρ' d v → Q v H'
  | .exc x M => ∀ ρ' H' cls dd, Ge K G ρ H ρ' H' → RM K G H' ρ' M → RX K G H' ρ' x cls dd → W cls dd H'
  | .bad => False
def rD (K : PySem.W.Frag) (G : Gd) : Rel D V := fun H ρ d v => Rp K G H ρ d v
def rL (K : PySem.W.Frag) (G : Gd) : Rel (List D) (List V) := fun H ρ d v => Rps K G H ρ d v
section
variable {K : PySem.W.Frag} {G : Gd} {α β γ δ : Type} {R : Rel α β} {R' : Rel γ δ} {W : XK} {ρ ρ1 : List Addr} {H H1 : Hp} {r : Res α} {Q Q' : β → Hp → Prop}
theorem Post.imp (h : Post K G R W ρ H r Q) (i : ∀ v H', Q v H' → Q' v H') : Post K G R W ρ H r Q' := by
  cases r with
  | ok d M => exact fun ρ' H' v a b c => i _ _ (h ρ' H' v a b c)
  | exc x M => exact h
  | bad => exact h
theorem Post.ge (h : Post K G R W ρ H r Q) (g : Ge K G ρ H ρ1 H1) : Post K G R W ρ1 H1 r Q := by
  cases r with
  | ok d M => exact fun ρ' H' v a b c => h ρ' H' v (g.trans a) b c
  | exc x M => exact fun ρ' H' v dd a b c => h ρ' H' v dd (g.trans a) b c
  | bad => exact h
/-- one step, then the rest -/
theorem Post.bind {g : α → Mem → Res γ} {Z : δ → Hp → Prop} (h : Post K G R' W ρ H (r.bind g) Z) :
    Post K G R W ρ H r fun v H1 => ∃ ρ1 d M1, Ge K G ρ H ρ1 H1 ∧ RM K G H1 ρ1 M1 ∧ R H1 ρ1 d v ∧ Post K G R' W ρ1 H1 (g d M1) Z := by
  cases r with
  | ok d M => exact fun ρ' H' v a b c => ⟨ρ', d, M, a, b, c, Post.ge h a⟩
  | exc x M => exact h
  | bad => exact h
/-- from a result that is known -/
theorem Post.here {d : α} {M : Mem} {v : β} (h : Post K G R W ρ H (.ok d M) Q) (rm : RM K G H ρ M) (r : R H ρ d v) : Q v H := h ρ H v Ge.refl rm r
end
/-- an expression's reading by the interpreter -/
def tE (K : PySem.W.Frag) (G : Gd) (W : WX) (f : Sg → Mem → Res D) : TE := fun σv H Q => ∃ ρ σ M, RM K G H ρ M ∧ Rs K G H ρ σ σv ∧ Post K G (rD K G) (fun c d H' => W c d σv H') ρ H (f σ M) Q
def tA (K : PySem.W.Frag) (G : Gd) (W : WX) (f : Sg → Mem → Res (List D)) : TA := fun σv H Q => ∃ ρ σ M, RM K G H ρ M ∧ Rs K G H ρ σ σv ∧ Post K G (rL K G) (fun c d H' => W c d σv H') ρ H (f σ M) Q
def rB : Rel D Bool := fun _ _ d b => d = .bl b
def onlyB : D → Mem → Res D
  | .bl k, m => .ok (.bl k) m
  | _, _ => .bad
def tT (K : PySem.W.Frag) (G : Gd) (W : WX) (f : Sg → Mem → Res D) : TT := fun σv H Q => ∃ ρ σ M, RM K G H ρ M ∧ Rs K G H ρ σ σv ∧ Post K G rB (fun c d H' => W c d σv H') ρ H ((f σ M).bind onlyB) Q
theorem _root_.L2.PE.wk {X : Cx} {e : Expr} {t t' : TE} (h : PE X e t) (i : ∀ σ H Q, t' σ H Q → t σ H Q) : PE X e t' := ⟨fun pins s σ H Q I q => h.run pins s σ H Q I (i _ _ _ q)⟩
theorem _root_.L2.PA.wk {X : Cx} {es : List Expr} {t t' : TA} (h : PA X es t) (i : ∀ σ H Q, t' σ H Q → t σ H Q) : PA X es t' := ⟨fun pos pins s σ H Q I q => h.run pos pins s σ H Q I (i _ _ _ q)⟩
theorem _root_.L2.PT.wk {X : Cx} {e : Expr} {t t' : TT} (h : PT X e t) (i : ∀ σ H Q, t' σ H Q → t σ H Q) : PT X e t' := ⟨fun pins s σ H Q I q => h.run pins s σ H Q I (i _ _ _ q)⟩
theorem _root_.L2.PW.wk {X : Cx} {e : Expr} {t t' : TT} (h : PW X e t) (i : ∀ σ H Q, t' σ H Q → t σ H Q) : PW X e t' := ⟨fun wh pins s σ H Q I q => h.run wh pins s σ H Q I (i _ _ _ q)⟩
theorem _root_.L2.PS.wk {X : Cx} {e : Stmt} {t t' : TS} (h : PS X e t) (i : ∀ D σ H, t' D σ H → t D σ H) : PS X e t' := ⟨fun pins s σ H D I q => h.run pins s σ H D I (i _ _ _ q)⟩
theorem _root_.L2.PSs.wk {X : Cx} {e : List Stmt} {t t' : TS} (h : PSs X e t) (i : ∀ D σ H, t' D σ H → t D σ H) : PSs X e t' := ⟨fun pins s σ H D I q => h.run pins s σ H D I (i _ _ _ q)⟩
theorem _root_.L2.PG.wk {X : Cx} {e : Expr} {t t' : TG} (h : PG X e t) (i : ∀ v σ H Q, t' v σ H Q → t v σ H Q) : PG X e t' := ⟨fun pins s σ H v u Q I r q => h.run pins s σ H v u Q I r (i _ _ _ _ q)⟩
theorem _root_.L2.PGs.wk {X : Cx} {e : List Expr} {t t' : TGs} (h : PGs X e t) (i : ∀ v σ H Q, t' v σ H Q → t v σ H Q) : PGs X e t' := ⟨fun pins s σ H v u Q I r q => h.run pins s σ H v u Q I r (i _ _ _ _ q)⟩
theorem _root_.L2.PI.wk {X : Cx} {tg e : Expr} {t t' : TI} (h : PI X tg e t) (i : ∀ σ H R, t' σ H R → t σ H R) : PI X tg e t' := ⟨fun pins s σ H R I q => h.run pins s σ H R I (i _ _ _ q)⟩
section
variable {K : PySem.W.Frag} {G : Gd} {W : WX} {fa fb : Sg → Mem → Res D} {g : Sg → D → Mem → Res D}
theorem tE.bind {σv : VS} {H : Hp} {Q : VK} (h : tE K G W (fun σ m => (fa σ m).bind (g σ)) σv H Q) :
    tE K G W fa σv H fun v H1 => ∃ ρ1 σ d M1, RM K G H1 ρ1 M1 ∧ Rs K G H1 ρ1 σ σv ∧ Rp K G H1 ρ1 d v ∧ Post K G (rD K G) (fun c d H' => W c d σv H') ρ1 H1 (g σ d M1) Q := by
  obtain ⟨ρ, σ, M, rm, rs, p⟩ := h
  exact ⟨ρ, σ, M, rm, rs, (Post.bind (R := rD K G) p).imp fun v H1 ⟨ρ1, d, M1, ge, rm1, r1, p1⟩ => ⟨ρ1, σ, d, M1, rm1, rs.mono ge, r1, p1⟩⟩
end

/-! ### tests -/
section
variable {K : PySem.W.Frag} {G : Gd} {W : WX} {f : Sg → Mem → Res D}
theorem onlyB_cases {XK1 : XK} {ρ : List Addr} {H : Hp} {d : D} {M : Mem} {Q : Bool → Hp → Prop} (h : Post K G rB XK1 ρ H (onlyB d M) Q) : ∃ k, d = .bl k ∧ Post K G rB XK1 ρ H (.ok (.bl k) M) Q := by
  cases d <;> first | exact ⟨_, rfl, h⟩ | exact h.elim
/-- a value as a test -/
theorem tT_of {σv : VS} {H : Hp} {Q : Bool → Hp → Prop} (h : tT K G W f σv H Q) : tB (tE K G W f) σv H Q := by
  obtain ⟨ρ, σ, M, rm, rs, p⟩ := h
  refine ⟨ρ, σ, M, rm, rs, (Post.bind (R := rD K G) p).imp fun v H1 ⟨ρ1, d, M1, ge, rm1, r1, p1⟩ => ?_⟩
  obtain ⟨k, rfl, p1⟩ := onlyB_cases p1
  cases r1
  exact ⟨k, rfl, Post.here p1 rm1 rfl⟩
end
end Pw
set_option Elab.async false
set_option linter.all false
set_option maxRecDepth 100000
set_option autoImplicit false
set_option maxHeartbeats 1000000
/-! The operators' rules, by the interpreter's own functions. -/
namespace Pw
open PySem PySem.Spec PyProof.Rows L2

abbrev XF : XK := fun _ _ _ => False
/-- an operator's reading by the interpreter's function g; no exception -/
def OpD (K : PySem.W.Frag) (G : Gd) (g : D → D → Mem → Res D) : R2 := fun x y H Q => ∃ ρ d e M, RM K G H ρ M ∧ Rp K G H ρ d x ∧ Rp K G H ρ e y ∧ Post K G (rD K G) XF ρ H (g d e M) Q
/-- what calls give that nothing leaves: a promise by the interpreter's call -/
def spN (K : PySem.W.Frag) (G : Gd) (call : Nat → List D → Mem → Res D) (f : Nat) : Sp := fun vs H Q E => ∃ ρ ds M, RM K G H ρ M ∧ Rps K G H ρ ds vs ∧ Post K G (rD K G) E ρ H (call f ds M) Q
theorem lim_eq : LIM = sizeLine := by rw [sizeLine_eq]; rfl
section
variable {X : Cx} {G : Gd} {C : Cl}
variable {pins : List (Addr × Obj)} {s : Shared} {σ : VS} {H : Hp} {Q : VK}
/-- a result that is a scalar -/
theorem fin_int {ρ : List Addr} {M : Mem} {i : Int} {E : XK} (rm : RM X.K G H ρ M) (p : Post X.K G (rD X.K G) E ρ H (.ok (.int i) M) Q) : Q (.int i) H := p.here rm (.int i)
theorem fin_bl {ρ : List Addr} {M : Mem} {i : Bool} {E : XK} (rm : RM X.K G H ρ M) (p : Post X.K G (rD X.K G) E ρ H (.ok (.bl i) M) Q) : Q (.bl i) H := p.here rm (.bl i)
theorem fin_str {ρ : List Addr} {M : Mem} {i : Str} {E : XK} (rm : RM X.K G H ρ M) (hs : sok i) (p : Post X.K G (rD X.K G) E ρ H (.ok (.str i) M) Q) : Q (.str i) H := p.here rm (.str i hs)
/-- a new tuple -/
theorem fin_tup {ρ : List Addr} {M : Mem} {ds : List D} {vs : List V} {E : XK} (rm : RM X.K G H ρ M) (r : Rps X.K G H ρ ds vs) (p : Post X.K G (rD X.K G) E ρ H (.ok (.tup ds) M) Q) {a : Addr} (hp : H a = none) : Q (.ref a) (upd H a (.tup vs)) :=
  p ρ _ _ (Ge.fresh hp) (rm.fresh hp) (.tup (SqT.of upd_same) (r.mono (Ge.fresh hp)))
/-- a new list -/
theorem fin_lst {ρ : List Addr} {M : Mem} {ds : List D} {vs : List V} {E : XK} (rm : RM X.K G H ρ M) (r : Rps X.K G H ρ ds vs) (p : Post X.K G (rD X.K G) E ρ H (.ok (.ref M.length) (M ++ [.lst ds])) Q) {a : Addr} (hp : H a = none) : Q (.ref a) (upd H a (.lst vs)) := by
  have g : Ge X.K G ρ H ρ (upd H a (.lst vs)) := Ge.fresh hp
  have r1 : RM X.K G (upd H a (.lst vs)) (ρ ++ [a]) (M ++ [.lst ds]) := (rm.fresh hp).push (notin_of_none rm hp) ⟨vs, upd_same, r.mono g⟩
  refine p (ρ ++ [a]) _ _ (g.trans (Ge.push a)) r1 (.ref ?_)
  rw [← rm.len]
  simp
theorem new1_ok {E : XK} {ρ : List Addr} {M : Mem} {ds : List D} (p : Post X.K G (rD X.K G) E ρ H (new1 ds M) Q) : ds.length ≤ LIM ∧ Post X.K G (rD X.K G) E ρ H (.ok (.ref M.length) (M ++ [.lst ds])) Q := by
  unfold new1 at p
  split at p
  · exact ⟨by assumption, p⟩
  · exact p.elim
theorem tupR_ok {E : XK} {ρ : List Addr} {M : Mem} {ds : List D} (p : Post X.K G (rD X.K G) E ρ H (tupR ds M) Q) : ds.length ≤ LIM ∧ Post X.K G (rD X.K G) E ρ H (.ok (.tup ds) M) Q := by
  unfold tupR at p
  split at p
  · exact ⟨by assumption, p⟩
  · exact p.elim
end
theorem sok_append {s t : Str} (h : sok s) (h' : sok t) : sok (s ++ t) := by
  have e : (s ++ t).cps = s.cps ++ t.cps := rfl
  show (s ++ t).cps.all _ = true
  rw [e]
  simp only [Array.all_append, Bool.and_eq_true]
  exact ⟨h, h'⟩
/-- what stands around addresses: the class's own operators -/
structure AdrOk (X : Cx) (G : Gd) (C : Cl) (lv : Nat) : Prop where
  adrC : C.adrC = G.adrC
  room : Room (lv + 2) X.A
  cls : SlX.SCls X.K (G.cA G.adrC)
  mth : ∀ k f, C.mth G.adrC k = some f → PySem.W.findIn X.K (.ref (G.cA G.adrC)) (G.nm k) = some (some (.ref (G.fA f))) ∧ PySem.W.isFn X.K (.ref (G.fA f)) = true ∧ PySem.W.keepIn X.K (.ref (G.fA f)) = true ∧
    FnR X.prog X.w X.K X.mg X.base (L2.CX X.prog X.w) lv (G.fA f) (spN X.K G C.call f)
  nEq : G.nm nEq = "__eq__"
  nLt : G.nm nLt = "__lt__"
  nLe : G.nm nLe = "__le__"
  nGt : G.nm nGt = "__gt__"
  nGe : G.nm nGe = "__ge__"
  nAdd : G.nm nAdd = "__add__"
  nRadd : G.nm nRadd = "__radd__"
  nLen : G.nm nLen = "__len__"
  nSteps : G.nm nSteps = "steps"
  first : PySem.W.notFirst X.K (G.cA G.adrC) (.ref (G.cA G.adrC)) = true
  firstT : PySem.W.notFirst X.K (G.cA G.adrC) (.type "tuple") = true
  sf : PySem.W.selfFirst X.K (G.cA G.adrC) = true
  hne : PySem.W.findIn X.K (.ref (G.cA G.adrC)) "__ne__" = some (some (.builtin "object.__ne__"))
  hob : PySem.W.subIn X.K (.ref (G.cA G.adrC)) (.type "object") = some true
  t1 : PySem.W.findIn X.K (.type "tuple") "__add__" = some (some (.builtin "tuple.__add__"))
  t2 : PySem.W.findIn X.K (.type "tuple") "__radd__" = some none
  t3 : PySem.W.subIn X.K (.type "tuple") (.ref (G.cA G.adrC)) = some false
  radd : ∃ rc, PySem.W.findIn X.K (.ref (G.cA G.adrC)) "__radd__" = some rc ∧ (rc = none ∨ ∃ g : Addr, rc = some (.ref g))
  slot : ∃ p, SlX.Slot1 X.K (G.cA G.adrC) "steps" p 0
section
variable {X : Cx} {G : Gd} {C : Cl} {lv : Nat}
theorem callN_ok {K : PySem.W.Frag} {ρ : List Addr} {H : Hp} {o : Option Nat} {ds : List D} {M : Mem} {Q : VK} {E : XK} (p : Post K G (rD K G) E ρ H (callN C o ds M) Q) : ∃ f, o = some f ∧ Post K G (rD K G) XF ρ H (C.call f ds M) Q := by
  unfold callN callM at p
  cases o with
  | none => exact p.elim
  | some f =>
    refine ⟨f, rfl, ?_⟩
    dsimp only at p ⊢
    cases h : C.call f ds M with
    | ok d m => rw [h] at p; exact p
    | exc x m => rw [h] at p; exact p.elim
    | bad => rw [h] at p; exact p.elim
/-- a comparison of two addresses by the class's own method -/
theorem op_adr {op : CmpOp} {k : Nat} (A : AdrOk X G C lv) (hop : ∀ a b, compareOp op a b = richCompare op a b) (hk : G.nm k = (cmpInfo op).2.1) :
    OpR X (compareOp op) (fun x y H Q => ∃ ρ d e M, RM X.K G H ρ M ∧ Rp X.K G H ρ (.adr d) x ∧ Rp X.K G H ρ (.adr e) y ∧ Post X.K G (rD X.K G) XF ρ H (callN C (C.mth G.adrC k) [.adr d, .adr e] M) Q) := by
  intro pins s σ H x y v u Q I rx ry ⟨ρ, d, e, M, rm, r1, r2, p⟩
  obtain ⟨f, hf, p⟩ := callN_ok p
  obtain ⟨h1, h2, h3, F⟩ := A.mth k f hf
  cases id r1 with
  | adr s1 q1 =>
    rename_i a dx w
    cases id r2 with
    | adr s2 q2 =>
      rename_i b dy w2
      rw [hk] at h1
      refine SlX.op_own (C := G.cA G.adrC) (sp := spN X.K G C.call f) (E := XF) hop h1 h2 F (A.room.mono (by omega)) passL pins s σ H _ _ v u Q I rx ry ⟨a, dx, _, b, _, dy, _, rfl, rfl, s1, s2, A.first, ρ, [.adr d, .adr e], M, rm, .cons r1 (.cons r2 .nil), p⟩
end
/-! ### data as the library's data -/
mutual
def toP : D → PyData
  | .non => .none
  | .bl b => .bool b
  | .int i => .int i
  | .str s => .str s
  | .tup xs => .tuple (toPs xs)
  | .lst xs => .list (toPs xs)
  | .ref _ => .none
  | .adr _ => .none
  | .fn _ => .none
def toPs : List D → List PyData
  | [] => []
  | x :: xs => toP x :: toPs xs
end
mutual
/-- trees without addresses -/
def D.pl : D → Bool
  | .non => true
  | .bl _ => true
  | .int _ => true
  | .str _ => true
  | .tup xs => D.pls xs
  | .lst xs => D.pls xs
  | _ => false
def D.pls : List D → Bool
  | [] => true
  | x :: xs => D.pl x && D.pls xs
end
mutual
theorem eqv_toP : ∀ d e : D, d.pl = true → e.pl = true → PyData.eqv (toP d) (toP e) = D.eqv d e := by
  intro d e h1 h2
  cases d <;> cases e <;> simp only [toP, PyData.eqv, D.eqv, D.pl, Bool.false_eq_true] at h1 h2 ⊢
  · exact eqv_toPs _ _ h1 h2
  · exact eqv_toPs _ _ h1 h2
theorem eqv_toPs : ∀ ds es : List D, D.pls ds = true → D.pls es = true → PyData.eqvAll (toPs ds) (toPs es) = D.eqvs ds es
  | [], [], _, _ => by simp only [toPs, PyData.eqvAll, D.eqvs]
  | [], _ :: _, _, _ => by simp only [toPs, PyData.eqvAll, D.eqvs]
  | _ :: _, [], _, _ => by simp only [toPs, PyData.eqvAll, D.eqvs]
  | d :: ds, e :: es, h1, h2 => by
    simp only [D.pls, Bool.and_eq_true] at h1 h2
    simp only [toPs, PyData.eqvAll, D.eqvs]
    rw [eqv_toP d e h1.1 h2.1, eqv_toPs ds es h1.2 h2.2]
end
theorem mapM_some {α β : Type} {f : α → Option β} : ∀ {xs : List α} {ys : List β}, xs.mapM f = some ys → xs.length = ys.length ∧ ∀ (i : Nat) x, xs[i]? = some x → ∃ y, ys[i]? = some y ∧ f x = some y
  | [], ys, h => by
    simp at h
    subst h
    exact ⟨rfl, fun i x e => by simp at e⟩
  | x :: xs, ys, h => by
    rw [List.mapM_cons] at h
    cases hx : f x with
    | none => rw [hx] at h; cases h
    | some y =>
      rw [hx] at h
      cases hr : xs.mapM f with
      | none => rw [hr] at h; cases h
      | some zs =>
        rw [hr] at h
        cases h
        obtain ⟨h1, h2⟩ := mapM_some hr
        refine ⟨by simp [h1], fun i z e => ?_⟩
        cases i with
        | zero => simp at e; subst e; exact ⟨y, rfl, hx⟩
        | succ i => exact h2 i z (by simpa using e)
section
variable {X : Cx} {G : Gd} {H : Hp} {ρ : List Addr} {M : Mem}
/-- what resolve gives: data of the library, at most that deep -/
theorem resolve_dp (rm : RM X.K G H ρ M) : ∀ (n : Nat) (d x : D) (v : V), resolve M n d = some x → Rp X.K G H ρ d v → x.pl = true ∧ Dp X.K H v (toP x) ∧ (toP x).canLay0 = true ∧ (toP x).depth ≤ n
  | 0, d, x, v, h, _ => by simp [resolve] at h
  | n + 1, d, x, v, h, r => by
    have many : ∀ {ds xs : List D} {vs : List V}, ds.mapM (resolve M n) = some xs → Rps X.K G H ρ ds vs → D.pls xs = true ∧ DpAll X.K H vs (toPs xs) ∧ PyData.canLayAll0 (toPs xs) = true ∧ PyData.depthAll (toPs xs) ≤ n := by
      intro ds
      induction ds with
      | nil =>
        intro xs vs h r
        simp at h
        subst h
        cases r
        exact ⟨rfl, .nil, rfl, Nat.zero_le _⟩
      | cons d ds ih =>
        intro xs vs h r
        rw [List.mapM_cons] at h
        cases hx : resolve M n d with
        | none => rw [hx] at h; cases h
        | some y =>
          rw [hx] at h
          cases hr : ds.mapM (resolve M n) with
          | none => rw [hr] at h; cases h
          | some zs =>
            rw [hr] at h
            cases h
            cases r with
            | cons r1 r2 =>
              obtain ⟨a1, a2, a3, a4⟩ := resolve_dp rm n d y _ hx r1
              obtain ⟨b1, b2, b3, b4⟩ := ih hr r2
              refine ⟨?_, .cons a2 b2, ?_, ?_⟩
              · simp only [D.pls, a1, b1, Bool.and_self]
              · simp only [toPs, PyData.canLayAll0, a3, b3, Bool.and_self]
              · simp only [toPs, PyData.depthAll]
                omega
    cases d with
    | non => simp only [resolve, Option.some.injEq] at h; subst h; cases r; exact ⟨rfl, .non, rfl, by simp [toP, PyData.depth]⟩
    | bl b => simp only [resolve, Option.some.injEq] at h; subst h; cases r; exact ⟨rfl, .bl b, rfl, by simp [toP, PyData.depth]⟩
    | int i => simp only [resolve, Option.some.injEq] at h; subst h; cases r; exact ⟨rfl, .int i, rfl, by simp [toP, PyData.depth]⟩
    | str s =>
      simp only [resolve, Option.some.injEq] at h
      subst h
      cases r with
      | str _ hs => exact ⟨rfl, .str s, by simp only [toP, PyData.canLay0]; exact hs, by simp [toP, PyData.depth]⟩
    | tup ds =>
      simp only [resolve, Option.map_eq_some_iff] at h
      obtain ⟨xs, hx, rfl⟩ := h
      cases r with
      | tup ha hs =>
        obtain ⟨b1, b2, b3, b4⟩ := many hx hs
        refine ⟨b1, .tup ha b2, by simp only [toP, PyData.canLay0]; exact b3, ?_⟩
        simp only [toP, PyData.depth]
        omega
    | ref k =>
      simp only [resolve] at h
      cases r with
      | ref ha =>
        rename_i a
        cases hm : M[k]? with
        | none => rw [hm] at h; cases h
        | some o =>
          obtain ⟨b, hb, ro⟩ := rm.obj k o hm
          rw [ha] at hb
          cases hb
          have go : ∀ {ds : List D} {vs : List V}, (ds.mapM (resolve M n)).map D.lst = some x → SqL X.K H a vs → Rps X.K G H ρ ds vs → x.pl = true ∧ Dp X.K H (.ref a) (toP x) ∧ (toP x).canLay0 = true ∧ (toP x).depth ≤ n + 1 := by
            intro ds vs h hl hs
            simp only [Option.map_eq_some_iff] at h
            obtain ⟨xs, hx, rfl⟩ := h
            obtain ⟨b1, b2, b3, b4⟩ := many hx hs
            refine ⟨b1, .lst hl b2, by simp only [toP, PyData.canLay0]; exact b3, ?_⟩
            simp only [toP, PyData.depth]
            omega
          rw [hm] at h
          cases o with
          | lst xs => obtain ⟨vs, e, q⟩ := ro; exact go h (SqL.of e) q
          | dct _ _ => cases h
          | ins _ _ => cases h
    | adr _ => simp only [resolve] at h; cases h
    | fn _ => simp only [resolve] at h; cases h
    | lst ds =>
      simp only [resolve, Option.map_eq_some_iff] at h
      obtain ⟨xs, hx, rfl⟩ := h
      obtain ⟨a, vs, rfl, ha, hs⟩ := r.lst_inv
      obtain ⟨b1, b2, b3, b4⟩ := many hx hs
      refine ⟨b1, .lst ha.sql b2, by simp only [toP, PyData.canLay0]; exact b3, ?_⟩
      simp only [toP, PyData.depth]
      omega
end
/-! ### == and != -/
section
variable {X : Cx} {G : Gd} {C : Cl} {lv : Nat}
theorem eqD_cases {a b : D} {m : Mem} {K : PySem.W.Frag} {ρ : List Addr} {H : Hp} {Q : VK} {E : XK} (p : Post K G (rD K G) E ρ H (eqD C a b m) Q) :
    (∃ x y, a = .adr x ∧ b = .adr y ∧ Post K G (rD K G) E ρ H (callN C (C.mth C.adrC nEq) [.adr x, .adr y] m) Q) ∨
      ∃ x y, resolve m 64 a = some x ∧ resolve m 64 b = some y ∧ Post K G (rD K G) E ρ H (.ok (.bl (D.eqv x y)) m) Q := by
  have gen : Post K G (rD K G) E ρ H (match resolve m 64 a, resolve m 64 b with
    | some x, some y => .ok (.bl (D.eqv x y)) m
    | _, _ => .bad) Q → ∃ x y, resolve m 64 a = some x ∧ resolve m 64 b = some y ∧ Post K G (rD K G) E ρ H (.ok (.bl (D.eqv x y)) m) Q := fun p => by
    cases ha : resolve m 64 a with
    | none => rw [ha] at p; exact p.elim
    | some x =>
      cases hb : resolve m 64 b with
      | none => rw [ha, hb] at p; exact p.elim
      | some y => rw [ha, hb] at p; exact ⟨x, y, rfl, rfl, p⟩
  cases a <;> cases b <;> first
    | exact .inl ⟨_, _, rfl, rfl, p⟩
    | exact .inr ⟨_, _, rfl, rfl, p⟩
    | exact .inr (gen p)
theorem op_eqP (A : AdrOk X G C lv) : OpR X (compareOp .Eq) (OpD X.K G (eqD C)) := by
  intro pins s σ H x y v u Q I rx ry ⟨ρ, d, e, M, rm, r1, r2, p⟩
  rcases eqD_cases p with ⟨x', y', rfl, rfl, p'⟩ | ⟨x', y', h1, h2, p'⟩
  · rw [A.adrC] at p'
    exact op_adr A (fun _ _ => rfl) A.nEq pins s σ H _ _ v u Q I rx ry ⟨ρ, x', y', M, rm, r1, r2, p'⟩
  · obtain ⟨a1, a2, a3, a4⟩ := resolve_dp rm 64 _ _ _ h1 r1
    obtain ⟨b1, b2, b3, b4⟩ := resolve_dp rm 64 _ _ _ h2 r2
    refine op_eqD A.room.units pins s σ H _ _ v u Q I rx ry ⟨_, _, a2, b2, ?_, ?_, ?_⟩
    · simp only [SeqAt.shaped, a3, Bool.true_and, decide_eq_true_eq]; exact a4
    · simp only [SeqAt.shaped, b3, Bool.true_and, decide_eq_true_eq]; exact b4
    · rw [eqv_toP _ _ a1 b1]
      exact fin_bl rm p'
end
end Pw
set_option Elab.async false
set_option linter.all false
set_option maxRecDepth 100000
set_option autoImplicit false
set_option maxHeartbeats 2000000
/-! + - * // % **, the orders, items, slices. -/
namespace Pw
open PySem PySem.Spec PyProof.Rows L2
def opOf : BOp → Operator
  | .add => .Add | .sub => .Sub | .mul => .Mult | .fdiv => .FloorDiv | .mod => .Mod | .pow => .Pow
section
variable {X : Cx} {G : Gd} {C : Cl} {lv : Nat}
theorem rm_lst {ρ : List Addr} {H : Hp} {M : Mem} {n : Nat} {a : Addr} {xs : List D} (rm : RM X.K G H ρ M) (hn : ρ[n]? = some a) (h : M[n]? = some (.lst xs)) : ∃ vs, H a = some (.lst vs) ∧ Rps X.K G H ρ xs vs := by
  obtain ⟨b, hb, ro⟩ := rm.obj n _ h
  rw [hn] at hb
  cases hb
  exact ro
theorem rm_any {ρ : List Addr} {H : Hp} {M : Mem} {d : D} {v : V} {xs : List D} (rm : RM X.K G H ρ M) (r : Rp X.K G H ρ d v) (h : items M d = some xs) : ∃ a vs, v = .ref a ∧ (SqL X.K H a vs ∨ SqT X.K H a vs) ∧ Rps X.K G H ρ xs vs := by
  cases r with
  | tup ha hs => cases h; exact ⟨_, _, rfl, .inr ha, hs⟩
  | lst ha hs => cases h; exact ⟨_, _, rfl, .inl ha.sql, hs⟩
  | ref hn =>
    rename_i n a
    simp only [items] at h
    cases hm : M[n]? with
    | none => rw [hm] at h; cases h
    | some o =>
      obtain ⟨b, hb, ro⟩ := rm.obj n _ hm
      rw [hn] at hb
      cases hb
      rw [hm] at h
      cases o with
      | lst ys => cases h; obtain ⟨vs, e, q⟩ := ro; exact ⟨a, vs, rfl, .inl (SqL.of e), q⟩
      | dct _ _ => cases h
      | ins _ _ => cases h
  | _ => cases h
theorem Rps.nil_iff {K : PySem.W.Frag} {H : Hp} {ρ : List Addr} {ds : List D} {vs : List V} (r : Rps K G H ρ ds vs) : vs = [] ↔ ds = [] := by
  cases r <;> simp
/-- the class's own + from the left -/
theorem add_adr (A : AdrOk X G C lv) : OpR X (binaryOp .Add) (fun x y H Q => ∃ ρ d e M, RM X.K G H ρ M ∧ Rp X.K G H ρ (.adr d) x ∧ Rp X.K G H ρ (.tup e) y ∧ False ∧ Post X.K G (rD X.K G) XF ρ H (callN C (C.mth G.adrC nAdd) [.adr d, .tup e] M) Q) := by
  intro pins s σ H x y v u Q I rx ry ⟨ρ, d, e, M, rm, r1, r2, f, p⟩
  exact f.elim
theorem op_bin (A : AdrOk X G C lv) (hadd : OpR X (binaryOp .Add) (fun x y H Q => ∃ ρ d e M, RM X.K G H ρ M ∧ Rp X.K G H ρ (.adr d) x ∧ Rp X.K G H ρ (.tup e) y ∧ Post X.K G (rD X.K G) XF ρ H (callN C (C.mth G.adrC nAdd) [.adr d, .tup e] M) Q))
    (hrad : OpR X (binaryOp .Add) (fun x y H Q => ∃ ρ d e M, RM X.K G H ρ M ∧ Rp X.K G H ρ (.tup d) x ∧ Rp X.K G H ρ (.adr e) y ∧ Post X.K G (rD X.K G) XF ρ H (callN C (C.mth G.adrC nRadd) [.adr e, .tup d] M) Q))
    (o : BOp) : OpR X (binaryOp (opOf o)) (OpD X.K G (binD C o)) := by
  intro pins s σ H x y v u Q I rx ry ⟨ρ, d, e, M, rm, r1, r2, p⟩
  cases o with
  | add =>
    cases d <;> cases e <;> simp only [binD] at p <;> try exact False.elim p
    · -- ints
      cases r1; cases r2
      exact op_add pins s σ H _ _ v u Q I rx ry ⟨_, _, rfl, rfl, fin_int rm p⟩
    · -- texts
      cases r1; cases r2
      rename_i s1 s2 h1 h2
      split at p
      · rename_i hl
        exact op_add_str pins s σ H _ _ v u Q I rx ry ⟨_, _, rfl, rfl, by rw [← lim_eq]; exact hl, fin_str rm (sok_append h1 h2) p⟩
      · exact False.elim p
    · -- tuples
      cases id r1 with
      | tup ha hs =>
        cases id r2 with
        | tup hb ht =>
          obtain ⟨hl, p⟩ := tupR_ok p
          rename_i xs ys a vs b ws
          refine op_catA pins s σ H _ _ v u Q I rx ry ⟨a, b, vs, ws, rfl, rfl, ha, hb, ?_, ?_, ?_, ?_⟩
          · rw [← lim_eq, ← hs.length, ← ht.length]
            simpa using hl
          · intro e
            have e2 := (Rps.nil_iff hs).mp e
            subst e2
            exact Post.here (v := V.ref b) p rm r2
          · intro _ e
            have e2 := (Rps.nil_iff ht).mp e
            subst e2
            rw [List.append_nil] at p
            exact Post.here (v := V.ref a) p rm r1
          · exact fun _ _ q hq => fin_tup rm (hs.append ht) p hq
    · -- a tuple and an address
      rw [A.adrC] at p
      exact hrad pins s σ H _ _ v u Q I rx ry ⟨ρ, _, _, M, rm, r1, r2, p⟩
    · -- lists
      cases r1 with
      | ref hn =>
        cases r2 with
        | ref hk =>
          rename_i n k a b
          cases hm : M[n]? with
          | none => rw [hm] at p; exact False.elim p
          | some o =>
            cases hm' : M[k]? with
            | none => rw [hm, hm'] at p; cases o <;> exact False.elim p
            | some o' =>
              rw [hm, hm'] at p
              cases o with
              | lst xs =>
                cases o' with
                | lst ys =>
                  obtain ⟨hl, p⟩ := new1_ok p
                  obtain ⟨vs, e1, q1⟩ := rm_lst rm hn hm
                  obtain ⟨ws, e2, q2⟩ := rm_lst rm hk hm'
                  refine op_cat pins s σ H _ _ v u Q I rx ry ⟨a, b, vs, ws, rfl, rfl, e1, e2, ?_, fun q hq => fin_lst rm (q1.append q2) p hq⟩
                  rw [← lim_eq, ← q1.length, ← q2.length]
                  simpa using hl
                | _ => exact False.elim p
              | _ => exact False.elim p
    · -- an address and a tuple
      rw [A.adrC] at p
      exact hadd pins s σ H _ _ v u Q I rx ry ⟨ρ, _, _, M, rm, r1, r2, p⟩
  | sub =>
    cases d <;> cases e <;> simp only [binD] at p <;> try exact False.elim p
    cases r1; cases r2
    exact op_sub pins s σ H _ _ v u Q I rx ry ⟨_, _, rfl, rfl, fin_int rm p⟩
  | mul =>
    cases d <;> cases e <;> simp only [binD] at p <;> try exact False.elim p
    cases r1; cases r2
    split at p
    · rename_i hl
      exact op_mul pins s σ H _ _ v u Q I rx ry ⟨_, _, rfl, rfl, hl, fin_int rm p⟩
    · exact False.elim p
  | fdiv =>
    cases d <;> cases e <;> simp only [binD] at p <;> try exact False.elim p
    cases r1; cases r2
    split at p
    · rename_i hl
      exact op_fdiv pins s σ H _ _ v u Q I rx ry ⟨_, _, rfl, rfl, hl, fin_int rm p⟩
    · exact False.elim p
  | mod =>
    cases d <;> cases e <;> simp only [binD] at p <;> try exact False.elim p
    cases r1; cases r2
    split at p
    · rename_i hl
      exact op_mod pins s σ H _ _ v u Q I rx ry ⟨_, _, rfl, rfl, hl, fin_int rm p⟩
    · exact False.elim p
  | pow =>
    cases d <;> cases e <;> simp only [binD] at p <;> try exact False.elim p
    cases r1; cases r2
    split at p
    · rename_i hl
      exact op_pow pins s σ H _ _ v u Q I rx ry ⟨_, _, rfl, rfl, hl, fin_int rm p⟩
    · exact False.elim p
theorem ixOf_eq (n : Nat) (i : Int) : ixOf n i = ixN n i := rfl
/-- an item -/
theorem op_sub_ix (K0 : True) : IxR X (OpD X.K G subD) := by
  intro value slice pins s σ H x y v u Q I rx ry ⟨ρ, d, e, M, rm, r1, r2, p⟩ hs
  have item : ∀ {xs : List D} {vs : List V} {i : Int}, Rps X.K G H ρ xs vs → Post X.K G (rD X.K G) XF ρ H (orBad ((ixOf xs.length i).bind fun k => xs[k]?) M) Q → ∃ w, atI vs i = some w ∧ Q w H := by
    intro xs vs i r p
    cases h : (ixOf xs.length i).bind fun k => xs[k]? with
    | none => rw [h] at p; exact False.elim p
    | some d =>
      rw [h] at p
      cases hk : ixOf xs.length i with
      | none => rw [hk] at h; cases h
      | some k =>
        rw [hk] at h
        obtain ⟨w, hw, rw1⟩ := r.get h
        refine ⟨w, ?_, p.here rm rw1⟩
        unfold atI
        rw [← r.length, ← ixOf_eq, hk]
        exact hw
  cases d <;> cases e <;> simp only [subD] at p <;> try exact False.elim p
  · cases r1 with
    | tup ha hs2 =>
      cases r2
      obtain ⟨w, h1, h2⟩ := item hs2 p
      exact ix_tup value slice pins s σ H _ _ v u Q I rx ry ⟨_, _, _, w, rfl, rfl, ha, h1, h2⟩ hs
  · cases r1 with
    | ref hn =>
      cases r2
      rename_i n i a
      cases hm : M[n]? with
      | none => rw [hm] at p; exact False.elim p
      | some o =>
        obtain ⟨b, hb, ro⟩ := rm.obj n _ hm
        rw [hn] at hb
        cases hb
        rw [hm] at p
        cases o with
        | lst xs =>
          obtain ⟨vs, e, q⟩ := ro
          obtain ⟨w, h1, h2⟩ := item q p
          exact ix_list value slice pins s σ H _ _ v u Q I rx ry ⟨_, _, _, w, rfl, rfl, SqL.of e, h1, h2⟩ hs
        | _ => exact False.elim p
  · cases r1 with
    | lst ha hs2 =>
      cases r2
      obtain ⟨w, h1, h2⟩ := item hs2 p
      exact ix_list value slice pins s σ H _ _ v u Q I rx ry ⟨_, _, _, w, rfl, rfl, ha.sql, h1, h2⟩ hs
/-- a slice -/
def SlD (K : PySem.W.Frag) (G : Gd) : V → Option Int → Option Int → Hp → VK → Prop := fun x lo hi H Q => ∃ ρ d M, RM K G H ρ M ∧ Rp K G H ρ d x ∧ Post K G (rD K G) XF ρ H (slcD d lo hi M) Q
theorem bnd_eq : ∀ (n d : Nat) (o : Option Int), HT.sIx n d o = bnd n d o := fun n d o => by cases o <;> rfl
theorem cut_rel {ρ : List Addr} {H : Hp} {K : PySem.W.Frag} {ds : List D} {vs : List V} (r : Rps K G H ρ ds vs) (lo hi : Option Int) : Rps K G H ρ (cut ds lo hi) (cutV vs lo hi) := by
  unfold cut cutV
  rw [bnd_eq, bnd_eq, r.length]
  exact (r.drop _).take _
theorem cut_whole {α : Type} (xs : List α) (lo hi : Option Int) (h : HT.sIx xs.length 0 lo = 0 ∧ HT.sIx xs.length xs.length hi = xs.length) : cut xs lo hi = xs := by
  rw [bnd_eq, bnd_eq] at h
  unfold cut
  rw [h.1, h.2]
  simp
theorem op_slc : SlR X (SlD X.K G) := by
  intro pins s σ H x v vl vu lo hi sl Q I rx hs pl pu ⟨ρ, d, M, rm, r1, p⟩
  cases d <;> simp only [slcD] at p <;> try exact False.elim p
  · cases id r1 with
    | tup ha hs2 =>
      rename_i ds a vs
      refine sl_tupA pins s σ H _ v vl vu lo hi sl Q I rx hs pl pu ⟨a, vs, rfl, ha, fun hw => ?_, fun _ q hq => fin_tup rm (cut_rel hs2 lo hi) p hq⟩
      rw [← hs2.length] at hw
      rw [cut_whole _ _ _ hw] at p
      exact Post.here (v := V.ref a) p rm r1
  · cases r1 with
    | ref hn =>
      rename_i n a
      cases hm : M[n]? with
      | none => rw [hm] at p; exact False.elim p
      | some o =>
        rw [hm] at p
        cases o with
        | lst xs =>
          obtain ⟨hl, p⟩ := new1_ok p
          obtain ⟨vs, e, q⟩ := rm_lst rm hn hm
          exact sl_list pins s σ H _ v vl vu lo hi sl Q I rx hs pl pu ⟨a, vs, rfl, SqL.of e, fun q1 hq => fin_lst rm (cut_rel q lo hi) p hq⟩
        | _ => exact False.elim p
end
end Pw
set_option Elab.async false
set_option linter.all false
set_option maxRecDepth 100000
set_option autoImplicit false
set_option maxHeartbeats 2000000
/-! The orders; addresses: +, their length, their steps, their making. -/
namespace Pw
open PySem PySem.Spec PyProof.Rows L2
mutual
theorem alk_toP : ∀ d e : D, d.pl = true → e.pl = true → PySem.W.alike (toP d) (toP e) = D.alk d e := by
  intro d e h1 h2
  cases d <;> cases e <;> simp only [toP, PySem.W.alike, D.alk, D.pl, Bool.false_eq_true] at h1 h2 ⊢
  · exact alk_toPs _ _ h1 h2
  · exact alk_toPs _ _ h1 h2
theorem alk_toPs : ∀ ds es : List D, D.pls ds = true → D.pls es = true → PySem.W.alikeAll (toPs ds) (toPs es) = D.alks ds es
  | [], [], _, _ => by simp only [toPs, PySem.W.alikeAll, D.alks]
  | [], _ :: _, _, _ => by simp only [toPs, PySem.W.alikeAll, D.alks]
  | _ :: _, [], _, _ => by simp only [toPs, PySem.W.alikeAll, D.alks]
  | d :: ds, e :: es, h1, h2 => by
    simp only [D.pls, Bool.and_eq_true] at h1 h2
    simp only [toPs, PySem.W.alikeAll, D.alks]
    rw [alk_toP d e h1.1 h2.1, alk_toPs ds es h1.2 h2.2]
end
mutual
theorem lt_toP : ∀ d e : D, d.pl = true → e.pl = true → D.alk d e = true → PySem.W.dataLt (toP d) (toP e) = D.lt d e := by
  intro d e h1 h2 h3
  cases d <;> cases e <;> simp only [toP, D.alk, D.pl, D.lt, Bool.false_eq_true] at h1 h2 h3 ⊢
  · exact (by decide : PySem.W.dataLt .none .none = false)
  · rename_i a b
    cases a <;> cases b <;> decide
  · exact PySem.W.dataLt_int _ _
  · exact PySem.W.dataLt_str _ _
  · rw [PySem.W.dataLt_tuple]; exact lt_toPs _ _ h1 h2 h3
  · rw [PySem.W.dataLt_list]; exact lt_toPs _ _ h1 h2 h3
theorem lt_toPs : ∀ ds es : List D, D.pls ds = true → D.pls es = true → D.alks ds es = true → PyProof.Rows.lexLt itemOrd (PySem.W.keyToksAll (toPs ds)) (PySem.W.keyToksAll (toPs es)) = D.lts ds es
  | [], [], _, _, _ => by simp only [toPs, D.lts]; decide
  | [], e :: es, _, _, _ => by
    simp only [toPs, D.lts]
    rfl
  | d :: ds, [], _, _, _ => by
    simp only [toPs, D.lts]
    rfl
  | d :: ds, e :: es, h1, h2, h3 => by
    simp only [D.pls, D.alks, Bool.and_eq_true] at h1 h2 h3
    simp only [toPs, D.lts]
    rw [PySem.W.dataLt_cons (by rw [alk_toP d e h1.1 h2.1]; exact h3.1), eqv_toP d e h1.1 h2.1, lt_toPs ds es h1.2 h2.2 h3.2, lt_toP d e h1.1 h2.1 h3.1]
end
mutual
theorem alk_symm : ∀ d e : D, D.alk d e = D.alk e d := by
  intro d e
  cases d <;> cases e <;> simp only [D.alk]
  · exact alks_symm _ _
  · exact alks_symm _ _
theorem alks_symm : ∀ ds es : List D, D.alks ds es = D.alks es ds
  | [], [] => rfl
  | [], _ :: _ => rfl
  | _ :: _, [] => rfl
  | d :: ds, e :: es => by
    simp only [D.alks]
    rw [alk_symm d e, alks_symm ds es]
end
def copOf : COp → CmpOp
  | .eq => .Eq | .ne => .NotEq | .lt => .Lt | .le => .LtE | .gt => .Gt | .ge => .GtE | .inn => .In | .notin => .NotIn
section
variable {X : Cx} {G : Gd} {C : Cl} {lv : Nat}
theorem toP_none {d : D} (h : d.pl = true) (hn : D.isNon d = false) : toP d ≠ .none := by
  cases d <;> simp [toP, D.pl, D.isNon] at h hn ⊢
/-- the four orders -/
theorem op_ord (A : AdrOk X G C lv) (o : COp) (ho : o = .lt ∨ o = .le ∨ o = .gt ∨ o = .ge) : OpR X (compareOp (copOf o)) (OpD X.K G (ordD C o)) := by
  intro pins s σ H x y v u Q I rx ry ⟨ρ, d, e, M, rm, r1, r2, p⟩
  have gen : Post X.K G (rD X.K G) XF ρ H (ordG o d e M) Q → wpAny (model X.prog X.w) X.A (compareOp (copOf o) v u) (EP X pins σ Q) X.xe s := fun p => by
    unfold ordG at p
    cases h1 : resolve M 64 d with
    | none => rw [h1] at p; exact False.elim p
    | some a =>
      cases h2 : resolve M 64 e with
      | none => rw [h1, h2] at p; exact False.elim p
      | some b =>
        rw [h1, h2] at p
        dsimp only at p
        split at p
        · rename_i hc
          simp only [Bool.and_eq_true, Bool.not_eq_true'] at hc
          obtain ⟨ha, hn⟩ := hc
          obtain ⟨a1, a2, a3, a4⟩ := resolve_dp rm 64 _ _ _ h1 r1
          obtain ⟨b1, b2, b3, b4⟩ := resolve_dp rm 64 _ _ _ h2 r2
          obtain ⟨as, ra⟩ := Dp.reads I _ _ _ a2 rx
          obtain ⟨bs, rb⟩ := Dp.reads I _ _ _ b2 ry
          have al : PySem.W.alike (toP a) (toP b) = true := by rw [alk_toP _ _ a1 b1]; exact ha
          have hu : X.A.units + min (toP a).depth (toP b).depth < cLine := by
            have h1 := A.room.units
            have h2 : min (toP a).depth (toP b).depth ≤ (toP a).depth := Nat.min_le_left _ _
            omega
          have e1 := lt_toP a b a1 b1 ha
          have e2 := lt_toP b a b1 a1 (by rw [alk_symm]; exact ha)
          have fin : ∀ {k : Bool}, Post X.K G (rD X.K G) XF ρ H (.ok (.bl k) M) Q → EP X pins σ Q (.bool k) s := fun p => ⟨.bl _, H, I, rfl, fin_bl rm p⟩
          rcases ho with rfl | rfl | rfl | rfl
          · exact PySem.W.lt_data ra rb al (toP_none a1 hn) hu (by rw [e1]; exact fin p)
          · exact PySem.W.le_data ra rb al (toP_none a1 hn) hu (by rw [e2]; exact fin p)
          · exact PySem.W.gt_data ra rb al (toP_none a1 hn) hu (by rw [e2]; exact fin p)
          · exact PySem.W.ge_data ra rb al (toP_none a1 hn) hu (by rw [e1]; exact fin p)
        · exact False.elim p
  have adr : ∀ x' y', d = .adr x' → e = .adr y' → wpAny (model X.prog X.w) X.A (compareOp (copOf o) v u) (EP X pins σ Q) X.xe s := fun x' y' e1 e2 => by
    subst e1 e2
    rcases ho with rfl | rfl | rfl | rfl <;> (simp only [ordD] at p; rw [A.adrC] at p)
    · exact op_adr A (fun _ _ => rfl) A.nLt pins s σ H _ _ v u Q I rx ry ⟨ρ, x', y', M, rm, r1, r2, p⟩
    · exact op_adr A (fun _ _ => rfl) A.nLe pins s σ H _ _ v u Q I rx ry ⟨ρ, x', y', M, rm, r1, r2, p⟩
    · exact op_adr A (fun _ _ => rfl) A.nGt pins s σ H _ _ v u Q I rx ry ⟨ρ, x', y', M, rm, r1, r2, p⟩
    · exact op_adr A (fun _ _ => rfl) A.nGe pins s σ H _ _ v u Q I rx ry ⟨ρ, x', y', M, rm, r1, r2, p⟩
  cases d <;> cases e <;> first
    | exact adr _ _ rfl rfl
    | exact gen p
    | (cases r1
       cases r2
       rcases ho with rfl | rfl | rfl | rfl
       · exact op_lt pins s σ H _ _ v u Q I rx ry ⟨_, _, rfl, rfl, fin_bl rm p⟩
       · exact op_le pins s σ H _ _ v u Q I rx ry ⟨_, _, rfl, rfl, fin_bl rm p⟩
       · exact op_gt pins s σ H _ _ v u Q I rx ry ⟨_, _, rfl, rfl, fin_bl rm p⟩
       · exact op_ge pins s σ H _ _ v u Q I rx ry ⟨_, _, rfl, rfl, fin_bl rm p⟩)
end
end Pw
set_option Elab.async false
set_option linter.all false
set_option maxRecDepth 100000
set_option autoImplicit false
set_option maxHeartbeats 2000000
/-! + of an instance and an object of a built-in type, from the left and reflected. -/
namespace PySem.W
open PySem PySem.Calls PyProof.Rows
section
variable {prog : Program} {w : World} {A : Around} {E : Value → Shared → Prop} {s : Shared} {K : Frag} {x C L f g : Addr} {h₀ : Heap} {m : Str → Option Value} {ox : Obj} {od : Option Obj} {T : String}
theorem pw_binT {op : Operator} {b : Value} {fo ro rc : Option Value} {Q : Value → Shared → Prop} (F : Fr h₀ L s.heap m) (X₀ : K.In h₀) (I : InstAt s.heap x ox C od) (hb : Looks (model prog w) s.heap (typeOf b) (.type T)) (hc : selfFirst K C = true)
    (hs : findIn K (.ref C) (PySem.dunder op.info.2) = some (some (.ref f))) (hf : isFn K (.ref f) = true) (hr : findIn K (.ref C) (dunderR op.info.2) = some rc) (hp : rc = none ∨ ∃ g : Addr, rc = some (.ref g))
    (h1 : findIn K (.type T) (PySem.dunder op.info.2) = some fo) (h2 : findIn K (.type T) (dunderR op.info.2) = some ro) (hsub : subIn K (.type T) (.ref C) = some false)
    (h : wpAny (model prog w) A (call (.ref f) [.ref x, b]) (CmpBack Q) E s) : wpAny (model prog w) A (binaryOp op (.ref x) b) Q E s := by
  have X := X₀.keeps F.keep
  obtain ⟨cd, rest, hcd, hm⟩ := ksp_first hc
  rcases hi : op.info with ⟨sym, nm'⟩
  rw [hi] at hs hr h1 h2
  dsimp only at hs hr h1 h2
  have one := ksp_try X I hs hf h
  obtain ⟨hh, g, d, tt, os⟩ := s
  have L1 : Looks (model prog w) hh (typeOf (.ref x)) (.ref C) := I.type
  have L2 : Looks (model prog w) hh (typeOf b) (.type T) := hb
  have L3 : Looks (model prog w) hh (fillsNumberSlot (.ref C) nm') true := fills_K X hcd hm hs
  have L4 : Looks (model prog w) hh (fillsNumberSlot (.type T) nm') ((fo.isSome && !isSeqSlot fo) || (ro.isSome && !isSeqSlot ro)) := ksp_fillsT X h1 h2
  have L5 : Looks (model prog w) hh (isSubtype (.type T) (.ref C)) false := looks_subIn X hsub
  have L6 : Looks (model prog w) hh (numberSlotInPython (.ref C) nm') true := ksp_inPy X hs hr hp
  have L7 : Looks (model prog w) hh (numberSlotInPython (.type T) nm') false := Looks.of_pure rfl
  have L8 : Looks (model prog w) hh (typeLookup (.type T) (dunderR nm')) ro := looks_findIn X h2
  generalize ((fo.isSome && !isSeqSlot fo) || (ro.isSome && !isSeqSlot ro)) = right at L4
  have hne : (Value.ref C == Value.type T) = false := Bool.eq_false_iff.mpr fun q => by cases beq_iff_eq.mp q
  simp only [binaryOp, hi]
  refine wpAny_holding (wpAny_bind ?_)
  unfold binaryOp1
  refine wpAny_bind (L1.at (wpAny_bind (L2.at (wpAny_bind (L3.at ?_)))))
  simp only [hne, Bool.false_eq_true, if_false]
  cases right with
  | false =>
    ksp_lk
    refine wpAny_mono one (fun r s' hr' => ?_) fun _ _ e => e
    obtain ⟨v, rfl, hq⟩ := hr'
    ksp_lk
    exact hq
  | true =>
    ksp_lk
    refine wpAny_mono one (fun r s' hr' => ?_) fun _ _ e => e
    obtain ⟨v, rfl, hq⟩ := hr'
    ksp_lk
    exact hq
/-- a + x, a of a built-in type whose + is no number's, x an instance whose class has a reflected one -/
theorem pw_radT {op : Operator} {a : Value} {fo : Option Value} {Q : Value → Shared → Prop} (F : Fr h₀ L s.heap m) (X₀ : K.In h₀) (I : InstAt s.heap x ox C od) (ha : Looks (model prog w) s.heap (typeOf a) (.type T)) (hc : selfFirst K C = true)
    (hs : findIn K (.ref C) (PySem.dunder op.info.2) = some (some (.ref f))) (hr : findIn K (.ref C) (dunderR op.info.2) = some (some (.ref g))) (hg : isFn K (.ref g) = true)
    (h1 : findIn K (.type T) (PySem.dunder op.info.2) = some fo) (hq1 : isSeqSlot fo = true) (h2 : findIn K (.type T) (dunderR op.info.2) = some none)
    (h : wpAny (model prog w) A (call (.ref g) [.ref x, a]) (CmpBack Q) E s) : wpAny (model prog w) A (binaryOp op a (.ref x)) Q E s := by
  have X := X₀.keeps F.keep
  obtain ⟨cd, rest, hcd, hm⟩ := ksp_first hc
  rcases hi : op.info with ⟨sym, nm'⟩
  rw [hi] at hs hr h1 h2
  dsimp only at hs hr h1 h2
  have one := ksp_try X I hr hg h
  obtain ⟨hh, g, d, tt, os⟩ := s
  have L1 : Looks (model prog w) hh (typeOf (.ref x)) (.ref C) := I.type
  have L2 : Looks (model prog w) hh (typeOf a) (.type T) := ha
  have L3 : Looks (model prog w) hh (fillsNumberSlot (.ref C) nm') true := fills_K X hcd hm hs
  have L4 : Looks (model prog w) hh (fillsNumberSlot (.type T) nm') ((fo.isSome && !isSeqSlot fo) || ((none : Option Value).isSome && !isSeqSlot none)) := ksp_fillsT X h1 h2
  have e4 : ((fo.isSome && !isSeqSlot fo) || ((none : Option Value).isSome && !isSeqSlot none)) = false := by rw [hq1]; simp
  rw [e4] at L4
  have hne : (Value.type T == Value.ref C) = false := Bool.eq_false_iff.mpr fun q => by cases beq_iff_eq.mp q
  simp only [binaryOp, hi]
  refine wpAny_holding (wpAny_bind ?_)
  unfold binaryOp1
  refine wpAny_bind (L2.at (wpAny_bind (L1.at (wpAny_bind (L4.at ?_)))))
  simp only [hne, Bool.false_eq_true, if_false]
  ksp_lk
  refine wpAny_mono one (fun r s' hr' => ?_) fun _ _ e => e
  obtain ⟨v, rfl, hq⟩ := hr'
  ksp_lk
  exact hq
theorem pw_ne_bind (self : Value) : bindSpecial (.builtin "object.__ne__") self = pure (.builtin "object.__ne__", [self]) :=
  (Slot.of (T := "object") (name := "__ne__") (owner := "object") (n := "__ne__") (by rw [typeLookup_type, builtinLookup_eq_fast]; kernel_rfl) (by decide +kernel) (by decide +kernel) (by decide +kernel)
    (.inl (by decide +kernel)) (by rw [isSubtype_type]; kernel_rfl)).bind self
/-- x != y of two instances of a class with an own __eq__ and object's != -/
theorem pw_ne {y : Addr} {Q : Value → Shared → Prop} (hu : A.units + 1 < cLine) (Fm : Fr h₀ L s.heap m) (X₀ : K.In h₀) (I : InstAt s.heap x ox C od) (hb : Looks (model prog w) s.heap (typeOf (.ref y)) (.ref C))
    (hne : findIn K (.ref C) "__ne__" = some (some (.builtin "object.__ne__"))) (hs : findIn K (.ref C) "__eq__" = some (some (.ref f))) (hf : isFn K (.ref f) = true) (hsub : subIn K (.ref C) (.type "object") = some true)
    (h : wpAny (model prog w) A.in1 (call (.ref f) [.ref x, .ref y]) (fun v s' => ∃ b, v = .bool b ∧ Q (.bool (!b)) s') E s) : wpAny (model prog w) A (richCompare .NotEq (.ref x) (.ref y)) Q E s := by
  have X := X₀.keeps Fm.keep
  have LI : Looks (model prog w) s.heap (isInstance (.ref x) (.type "object")) true := I.type.andThen (looks_subIn X hsub)
  have inner : wpAny (model prog w) A.in1 (Builtin.«object.__ne__» ⟨[.ref x, .ref y], []⟩) (fun fin s' => ∃ b : Bool, fin = .done (.ret (.bool (!b))) ∧ Q (.bool (!b)) s') E s := by
    unfold Builtin.«object.__ne__»
    refine wpAny_bind (wpAny_pure ?_)
    dsimp only
    refine wpAny_bind (wpAny_cRoomFor hu ?_)
    refine wpAny_bind (m := callSpecialIfBound? (.ref x) (Str.ofString "__eq__") [.ref y]) (ifBound_K X I hs hf (wpAny_mono h (fun v s' hv => ?_) fun _ _ e => e))
    obtain ⟨b, rfl, hq⟩ := hv
    dsimp only
    refine wpAny_bind (wpAny_truthy_bool ?_)
    exact wpAny_pure ⟨b, rfl, hq⟩
  have call1 : wpAny (model prog w) A (call (.builtin "object.__ne__") [.ref x, .ref y]) (fun v s' => ∃ b : Bool, v = .bool b ∧ Q (.bool b) s') E s := by
    refine wpAny_call (codeAny_call_builtin (by decide +kernel) PySem.F.cmpEntry_ne (check_slot PySem.F.cmpKind_ne PySem.F.cmpSplit_ne LI (PySem.F.cmpArgs_ne _ _) (wpAny_mono inner (fun fin s' hv => ?_) fun _ _ e => e)))
    obtain ⟨b, rfl, hq⟩ := hv
    exact ⟨_, rfl, hq⟩
  have one : wpAny (model prog w) A (tryCompare (.ref x) "__ne__" (.ref y)) (fun r s' => ∃ v, r = some v ∧ Q v s') E s := by
    unfold tryCompare
    refine wpAny_bind ?_
    simp only [callSpecialIfBound?, bindSpecialIfBound?]
    refine wpAny_holding (wpAny_bind (wpAny_bind (wpAny_bind (I.type.here ((looks_findIn X hne).here ?_)))))
    simp only [pw_ne_bind]
    refine wpAny_bind (wpAny_askSetting (wpAny_ite ?_))
    have fin : wpAny (model prog w) A (call (.builtin "object.__ne__") ([.ref x] ++ [.ref y]) >>= fun v => pure (some v)) (fun r s' => wpAny (model prog w) A (match r with | some .notImplemented | none => pure none | some v => pure (some v)) (fun r s' => ∃ v, r = some v ∧ Q v s') E s') E s :=
      wpAny_bind (wpAny_mono call1 (fun v s' h' => by
        obtain ⟨b, rfl, hq⟩ := h'
        exact wpAny_pure (wpAny_pure ⟨_, rfl, hq⟩)) fun _ _ h' => h')
    split
    · exact wpAny_bind (wpAny_pure (wpAny_pure fin))
    · exact wpAny_tryCatch (wpAny_bind (wpAny_pure (wpAny_pure fin)))
  unfold richCompare
  simp only [oneThing_ref]
  refine wpAny_holding (wpAny_bind (wpAny_cRoomFor (Nat.lt_of_succ_lt hu) ?_))
  refine wpAny_bind (I.type.here (wpAny_bind (hb.here ?_)))
  rw [show (Value.ref C != Value.ref C) = false from by simp]
  simp only [Bool.false_eq_true, if_false]
  refine wpAny_bind (wpAny_pure ?_)
  simp only [Bool.false_eq_true, if_false]
  refine wpAny_bind (wpAny_mono one (fun r s' z => ?_) fun _ _ e => e)
  obtain ⟨v, rfl, hq⟩ := z
  exact wpAny_pure hq
end
end PySem.W
set_option Elab.async false
set_option linter.all false
set_option maxRecDepth 100000
set_option autoImplicit false
set_option maxHeartbeats 2000000
/-! Addresses: !=, +, len. -/
namespace Pw
open PySem PySem.Spec PyProof.Rows L2
section
variable {X : Cx} {G : Gd} {C : Cl} {lv : Nat}
theorem slt_type {pins : List (Addr × Obj)} {σ : VS} {H : Hp} {s : Shared} {a C0 dx : Addr} {vs : List (Option V)} (I : Inv X pins σ H s) (h : SlX.Slt H a C0 dx vs) : ∃ ox od, PySem.W.InstAt s.heap a ox C0 (some od) := by
  obtain ⟨sl, od, _, J, _⟩ := SlX.slt_inst I h
  exact ⟨_, _, J⟩
theorem looks_tuple {pins : List (Addr × Obj)} {σ : VS} {H : Hp} {s : Shared} {a : Addr} {vs : List V} (I : Inv X pins σ H s) (h : SqT X.K H a vs) (M : Model) : PySem.W.Looks M s.heap (typeOf (.ref a)) (.type "tuple") := by
  obtain ⟨its, _, ⟨o, ho, hc, _⟩, _⟩ := I.tuple h
  exact fun A Q E s' k q => wpAny_typeOf_ref (k _ _ ho) (by rw [hc]; exact q)
theorem dunder_add : PySem.dunder Operator.Add.info.2 = ("__add__" : Str) := by decide +kernel
theorem dunderR_add : dunderR Operator.Add.info.2 = ("__radd__" : Str) := by decide +kernel
theorem op_addA (A : AdrOk X G C lv) : OpR X (binaryOp .Add) (fun x y H Q => ∃ ρ d e M, RM X.K G H ρ M ∧ Rp X.K G H ρ (.adr d) x ∧ Rp X.K G H ρ (.tup e) y ∧ Post X.K G (rD X.K G) XF ρ H (callN C (C.mth G.adrC nAdd) [.adr d, .tup e] M) Q) := by
  intro pins s σ H x y v u Q I rx ry ⟨ρ, d, e, M, rm, r1, r2, p⟩
  obtain ⟨f, hf, p⟩ := callN_ok p
  obtain ⟨h1, h2, h3, F⟩ := A.mth _ f hf
  rw [A.nAdd] at h1
  cases id r1 with
  | adr s1 q1 =>
    cases id r2 with
    | tup s2 q2 =>
      rename_i a dx w b vs
      cases rx
      cases ry
      obtain ⟨ox, od, J⟩ := slt_type I s1
      obtain ⟨m, hF⟩ := I.fr
      have hr : ∃ rc, PySem.W.findIn X.K (.ref (G.cA G.adrC)) "__radd__" = some rc ∧ (rc = none ∨ ∃ g : Addr, rc = some (.ref g)) := A.radd
      obtain ⟨rc, hr1, hr2⟩ := hr
      refine PySem.W.pw_binT (op := .Add) hF I.ok.mod.kin J (looks_tuple I s2 _) A.sf (by rw [dunder_add]; exact h1) h2 (by rw [dunderR_add]; exact hr1) hr2 (by rw [dunder_add]; exact A.t1) (by rw [dunderR_add]; exact A.t2) A.t3 ?_
      refine wpAny_mono (wpAny_call (run_fnR (us := [.ref a, .ref b]) (vs := [.ref a, .ref b]) (E := XF) F (A.room.mono (by omega)) passL I (.cons rfl (.cons rfl .nil)) ⟨ρ, [.adr d, .tup e], M, rm, .cons r1 (.cons r2 .nil), p⟩)) (fun w s' z => ?_) fun _ _ x => x
      obtain ⟨z', H', I', rz, qz⟩ := z
      exact SlX.cmpback rz ⟨z', H', I', rz, qz⟩
theorem op_radA (A : AdrOk X G C lv) (hh : ∃ f, C.mth G.adrC nAdd = some f) : OpR X (binaryOp .Add) (fun x y H Q => ∃ ρ d e M, RM X.K G H ρ M ∧ Rp X.K G H ρ (.tup d) x ∧ Rp X.K G H ρ (.adr e) y ∧ Post X.K G (rD X.K G) XF ρ H (callN C (C.mth G.adrC nRadd) [.adr e, .tup d] M) Q) := by
  intro pins s σ H x y v u Q I rx ry ⟨ρ, d, e, M, rm, r1, r2, p⟩
  obtain ⟨f, hf, p⟩ := callN_ok p
  obtain ⟨h1, h2, h3, F⟩ := A.mth _ f hf
  obtain ⟨f0, hf0⟩ := hh
  obtain ⟨g1, _, _, _⟩ := A.mth _ f0 hf0
  rw [A.nRadd] at h1
  rw [A.nAdd] at g1
  cases id r2 with
  | adr s1 q1 =>
    cases id r1 with
    | tup s2 q2 =>
      rename_i a dx w b vs
      cases rx
      cases ry
      obtain ⟨ox, od, J⟩ := slt_type I s1
      obtain ⟨m, hF⟩ := I.fr
      refine PySem.W.pw_radT (op := .Add) hF I.ok.mod.kin J (looks_tuple I s2 _) A.sf (by rw [dunder_add]; exact g1) (by rw [dunderR_add]; exact h1) h2 (by rw [dunder_add]; exact A.t1) (by decide +kernel) (by rw [dunderR_add]; exact A.t2) ?_
      refine wpAny_mono (wpAny_call (run_fnR (us := [.ref a, .ref b]) (vs := [.ref a, .ref b]) (E := XF) F (A.room.mono (by omega)) passL I (.cons rfl (.cons rfl .nil)) ⟨ρ, [.adr e, .tup d], M, rm, .cons r2 (.cons r1 .nil), p⟩)) (fun w s' z => ?_) fun _ _ x => x
      obtain ⟨z', H', I', rz, qz⟩ := z
      exact SlX.cmpback rz ⟨z', H', I', rz, qz⟩
theorem notR_ok {r : Res D} {K : PySem.W.Frag} {ρ : List Addr} {H : Hp} {Q : VK} {E : XK} (p : Post K G (rD K G) E ρ H (notR r) Q) :
    Post K G (rD K G) E ρ H r fun v H' => ∃ b, v = .bl b ∧ Q (.bl (!b)) H' := by
  cases r with
  | ok d m =>
    intro ρ' H' v g rm r1
    cases d with
    | bl b => cases r1; exact ⟨b, rfl, p ρ' H' (.bl (!b)) g rm (.bl (!b))⟩
    | _ => exact False.elim p
  | exc x m => exact p
  | bad => exact p
theorem op_neA (A : AdrOk X G C lv) : OpR X (compareOp .NotEq) (fun x y H Q => ∃ ρ d e M, RM X.K G H ρ M ∧ Rp X.K G H ρ (.adr d) x ∧ Rp X.K G H ρ (.adr e) y ∧ Post X.K G (rD X.K G) XF ρ H (notR (callN C (C.mth G.adrC nEq) [.adr d, .adr e] M)) Q) := by
  intro pins s σ H x y v u Q I rx ry ⟨ρ, d, e, M, rm, r1, r2, p⟩
  obtain ⟨f, hf, p⟩ := callN_ok (notR_ok p)
  obtain ⟨h1, h2, h3, F⟩ := A.mth _ f hf
  rw [A.nEq] at h1
  cases id r1 with
  | adr s1 q1 =>
    cases id r2 with
    | adr s2 q2 =>
      rename_i a dx w b dy w2
      cases rx
      cases ry
      obtain ⟨ox, od, J⟩ := slt_type I s1
      obtain ⟨ox2, od2, J2⟩ := slt_type I s2
      obtain ⟨m, hF⟩ := I.fr
      show wpAny _ _ (richCompare .NotEq _ _) _ _ _
      have hr1 : Room lv X.A.in1 := (A.room.mono (by omega : lv + 1 ≤ lv + 2)).in1
      refine PySem.W.pw_ne (by have := A.room.units; omega) hF I.ok.mod.kin J J2.type A.hne h1 h2 A.hob ?_
      refine wpAny_mono (wpAny_call (SlX.run_at (us := [.ref a, .ref b]) (ws := [.ref a, .ref b]) (E := XF) F hr1 I.env0.in1 passL I (.cons rfl (.cons rfl .nil)) ⟨ρ, [.adr d, .adr e], M, rm, .cons r1 (.cons r2 .nil), p⟩)) (fun w s' z => ?_) fun _ _ x => x
      obtain ⟨z', H', I', rz, k, ez, qz⟩ := z
      subst ez
      cases rz
      exact ⟨k, rfl, .bl (!k), H', I', rfl, qz⟩
theorem op_neP (A : AdrOk X G C lv) : OpR X (compareOp .NotEq) (OpD X.K G fun d e m => notR (eqD C d e m)) := by
  intro pins s σ H x y v u Q I rx ry ⟨ρ, d, e, M, rm, r1, r2, p⟩
  rcases eqD_cases (notR_ok p) with ⟨x', y', rfl, rfl, _⟩ | ⟨x', y', h1, h2, p'⟩
  · simp only [eqD] at p
    rw [A.adrC] at p
    exact op_neA A pins s σ H _ _ v u Q I rx ry ⟨ρ, x', y', M, rm, r1, r2, p⟩
  · obtain ⟨a1, a2, a3, a4⟩ := resolve_dp rm 64 _ _ _ h1 r1
    obtain ⟨b1, b2, b3, b4⟩ := resolve_dp rm 64 _ _ _ h2 r2
    refine op_neD A.room.units pins s σ H _ _ v u Q I rx ry ⟨_, _, a2, b2, ?_, ?_, ?_⟩
    · simp only [SeqAt.shaped, a3, Bool.true_and, decide_eq_true_eq]; exact a4
    · simp only [SeqAt.shaped, b3, Bool.true_and, decide_eq_true_eq]; exact b4
    · rw [eqv_toP _ _ a1 b1]
      obtain ⟨b, e1, e2⟩ := fin_bl rm p'
      cases e1
      exact e2
theorem op_adrT (A : AdrOk X G C lv) : OpR X (compareOp .Eq) (fun x y H Q => ∃ ρ d e M, RM X.K G H ρ M ∧ Rp X.K G H ρ (.adr d) x ∧ Rp X.K G H ρ (.tup e) y ∧ Post X.K G (rD X.K G) XF ρ H (callN C (C.mth G.adrC nEq) [.adr d, .tup e] M) Q) := by
  intro pins s σ H x y v u Q I rx ry ⟨ρ, d, e, M, rm, r1, r2, p⟩
  obtain ⟨f, hf, p⟩ := callN_ok p
  obtain ⟨h1, h2, h3, F⟩ := A.mth _ f hf
  rw [A.nEq] at h1
  obtain ⟨a, dx, w, rfl, s1, q1⟩ := r1.adr_inv
  obtain ⟨b, vs, rfl, s2, q2⟩ := r2.tup_inv
  cases (show v = Value.ref a from rx)
  cases (show u = Value.ref b from ry)
  obtain ⟨sl, od, _, J, _⟩ := SlX.slt_inst I s1
  obtain ⟨m, hF⟩ := I.fr
  show wpAny _ _ (richCompare .Eq _ _) _ _ _
  refine PySem.W.cmp_K (op := .Eq) (tb := .type "tuple") (A.room.mono (by omega : lv ≤ lv + 2)).units0 hF I.ok.mod.kin J (looks_tuple I s2 _) A.firstT h1 h2 ?_
  refine wpAny_mono (wpAny_call (run_fnR (us := [.ref a, .ref b]) (vs := [.ref a, .ref b]) (E := XF) F (A.room.mono (by omega)) passL I (.cons rfl (.cons rfl .nil)) ⟨ρ, [.adr d, .tup e], M, rm, .cons r1 (.cons r2 .nil), p⟩)) (fun w s' z => ?_) fun _ _ x => x
  obtain ⟨z', H', I', rz, qz⟩ := z
  exact SlX.cmpback rz ⟨z', H', I', rz, qz⟩
theorem op_eqT (A : AdrOk X G C lv) : OpR X (compareOp .Eq) (OpD X.K G (eqT C)) := by
  intro pins s σ H x y v u Q I rx ry ⟨ρ, d, e, M, rm, r1, r2, p⟩
  unfold eqT at p
  split at p
  · rw [A.adrC] at p
    exact op_adrT A pins s σ H _ _ v u Q I rx ry ⟨ρ, _, _, M, rm, r1, r2, p⟩
  · exact op_eqP A pins s σ H _ _ v u Q I rx ry ⟨ρ, _, _, M, rm, r1, r2, p⟩
/-- all comparisons -/
theorem op_cmp (A : AdrOk X G C lv) (o : COp) (ho : o ≠ .inn ∧ o ≠ .notin) : OpR X (compareOp (copOf o)) (OpD X.K G (cmpD C o)) := by
  cases o with
  | eq => exact op_eqT A
  | ne => exact op_neP A
  | lt => exact op_ord A .lt (by simp)
  | le => exact op_ord A .le (by simp)
  | gt => exact op_ord A .gt (by simp)
  | ge => exact op_ord A .ge (by simp)
  | inn => exact absurd rfl ho.1
  | notin => exact absurd rfl ho.2
/-- len of an address -/
theorem call_lenA (A : AdrOk X G C lv) : CallR X (.builtin "len") (fun xs H Q => ∃ ρ d M, RM X.K G H ρ M ∧ Rps X.K G H ρ [.adr d] xs ∧ Post X.K G (rD X.K G) XF ρ H (bltD C .len [.adr d] M) Q) := by
  intro pins s σ H xs us Q I r ⟨ρ, d, M, rm, r1, p⟩
  simp only [bltD] at p
  have p1 := Post.bind (R := rD X.K G) p
  rw [A.adrC] at p1
  obtain ⟨f, hf, p1⟩ := callN_ok p1
  obtain ⟨h1, h2, h3, F⟩ := A.mth _ f hf
  rw [A.nLen] at h1
  cases id r1 with
  | cons r2 rn =>
    cases rn
    cases id r2 with
    | adr s1 q1 =>
      rename_i a dx w
      obtain ⟨u, rfl, ru⟩ := r.one
      cases ru
      obtain ⟨ox, od, J⟩ := slt_type I s1
      obtain ⟨m, hF⟩ := I.fr
      have hr1 : Room lv X.A.in1 := (A.room.mono (by omega : lv + 1 ≤ lv + 2)).in1
      refine PySem.W.len_K hF I.ok.mod.kin J h1 h2 ?_
      refine wpAny_mono (wpAny_call (SlX.run_at (us := [.ref a]) (ws := [.ref a]) (E := XF) F hr1 I.env0.in1 passL I (.cons rfl .nil) ⟨ρ, [.adr d], M, rm, r1, p1⟩)) (fun w s' z => ?_) fun _ _ x => x
      obtain ⟨z', H', I', rz, ρ1, d1, M1, ge, rm1, rp1, p2⟩ := z
      cases d1 <;> try exact False.elim p2
      cases rp1
      obtain ⟨t, rfl⟩ := rz
      dsimp only at p2
      split at p2
      · rename_i i hb
        refine ⟨⟨hb.1, ?_⟩, .int i, H', ?_, ⟨_, rfl⟩, fin_int rm1 p2⟩
        · have : i ≤ 16777216 := hb.2
          omega
        · exact I'.tok _
      · exact False.elim p2
end
end Pw
set_option Elab.async false
set_option linter.all false
set_option maxRecDepth 100000
set_option autoImplicit false
/-! From the model's syntax to the interpreter's (by fuel): none where the interpreter has no word. -/
namespace Pw
open PySem PySem.Spec PyProof.Rows L2
/-- the tables of a text: interned names, functions, classes, constants of the module by name; what is left of the built-ins; arities and defaults -/
structure Tb where
  nms : List Str
  fns : List (Str × Nat)
  clss : List (Str × Nat)
  cons : List (Str × Nat)
  blts : List Str
  ar : Nat → Option Nat
  dfl : Nat → Option (List D)
  adrC : Nat
  xcs : List (Str × Nat)
  xfn : Nat → Option (List Nat)
def ixS (x : Str) : List Str → Nat → Option Nat
  | [], _ => none
  | y :: r, i => if x = y then some i else ixS x r (i + 1)
def visK : Option NameKind → Bool
  | some .local => true
  | some .cell => true
  | some .free => true
  | _ => false
def okName (x : Str) : Bool := !(x == ("__debug__" : Str)) && !(x == ("__classdict__" : Str))
def slotOf (sc : Scope) (N : List Str) (x : Str) : Option Nat := if visK (sc.names.lookup x) && okName x then ixS x N 0 else none
def isGl (sc : Scope) (x : Str) : Bool := sc.names.lookup x == some .globalImplicit && okName x
def isBlt (T : Tb) (sc : Scope) (x : Str) : Bool := isGl sc x && T.blts.contains x && !(x == ("__name__" : Str))
def notStar : Expr → Bool
  | .Starred _ _ => false
  | _ => true
def notSuper : Expr → Bool
  | .Call (.Name id _) [] [] _ => !(id == ("super" : Str))
  | _ => true
def notSlice : Expr → Bool
  | .Slice _ _ _ _ => false
  | _ => true
def notSet : Expr → Bool
  | .Set _ _ _ => false
  | _ => true
def bopOf : Operator → Option BOp
  | .Add => some .add | .Sub => some .sub | .Mult => some .mul | .FloorDiv => some .fdiv | .Mod => some .mod | .Pow => some .pow
  | _ => none
def copOf? : CmpOp → Option COp
  | .Eq => some .eq | .NotEq => some .ne | .Lt => some .lt | .LtE => some .le | .Gt => some .gt | .GtE => some .ge
  | _ => none
def bltOf (x : Str) : Option Blt :=
  if x = "len" then some .len else if x = "int" then some .int else if x = "max" then some .max else if x = "min" then some .min
  else if x = "list" then some .list else if x = "tuple" then some .tuple else none
/-- how many arguments each takes -/
def bltAr : Blt → Nat
  | .max => 2 | .min => 2 | _ => 1
def tyOf (T : Tb) (sc : Scope) (x : Str) : Option Ty :=
  if isBlt T sc x then (if x = "int" then some .int else if x = "str" then some .str else if x = "bool" then some .bool else if x = "list" then some .list else if x = "tuple" then some .tuple else if x = "dict" then some .dict else none)
  else if isGl sc x then (T.clss.lookup x).map .cls else none
def tysOf (T : Tb) (sc : Scope) : List Expr → Option (List Ty)
  | [] => some []
  | .Name x _ :: r => (tyOf T sc x).bind fun t => (tysOf T sc r).map (t :: ·)
  | _ => none
mutual
def cTg (sc : Scope) (N : List Str) : Nat → Expr → Option Tg
  | 0, _ => none
  | n + 1, e => match e with
    | .Name x _ => (match sc.names.lookup x with
      | some .local => (ixS x N 0).map .v
      | some .cell => (ixS x N 0).map .v
      | _ => none)
    | .Tuple es _ _ => (cTgs sc N n es).map .t
    | _ => none
def cTgs (sc : Scope) (N : List Str) : Nat → List Expr → Option Tgs
  | 0, _ => none
  | _ + 1, [] => some .nil
  | n + 1, e :: r => (cTg sc N n e).bind fun t => (cTgs sc N n r).map fun ts => .cons t ts
end
mutual
def Tg.slots : Tg → List Nat
  | .v i => [i]
  | .t ts => Tgs.slots ts
def Tgs.slots : Tgs → List Nat
  | .nil => []
  | .cons t ts => Tg.slots t ++ Tgs.slots ts
end
/-- a comprehension's own names with their slots: those of its scope that are local, by the function's list -/
def ownOf (N : List Str) : List (Str × NameKind) → Option (List (Str × Nat))
  | [] => some []
  | (x, .local) :: r => (match ixS x N 0 with
    | some i => (ownOf N r).map ((x, i) :: ·)
    | none => ownOf N r)
  | (x, .cell) :: r => (match ixS x N 0 with
    | some i => (ownOf N r).map ((x, i) :: ·)
    | none => ownOf N r)
  | _ :: r => ownOf N r
def cstEs : List D → Exs
  | [] => .nil
  | d :: ds => .cons false (.cst d) (cstEs ds)
def appEs : Exs → List D → Exs
  | .nil, ds => cstEs ds
  | .cons s e es, ds => .cons s e (appEs es ds)
termination_by structural x => x
mutual
def cE (T : Tb) : Nat → Scope → List Str → Expr → Option Ex
  | 0, _, _, _ => none
  | n + 1, sc, N, e => match e with
    | .Constant .none _ _ => some (.cst .non)
    | .Constant (.bool b) _ _ => some (.cst (.bl b))
    | .Constant (.int i) _ _ => some (.cst (.int i))
    | .Constant (.str s) _ _ => if s.cps.all (· < 0x110000) then some (.cst (.str s)) else none
    | .Name x _ => (match slotOf sc N x with
      | some i => some (.var i)
      | none => if isGl sc x then (T.cons.lookup x).map .glo else none)
    | .BinOp a op b _ => (bopOf op).bind fun o => (cE T n sc N a).bind fun x => (cE T n sc N b).map fun y => .bin o x y
    | .UnaryOp .Not a _ => (cE T n sc N a).map .not
    | .UnaryOp .USub (.Constant (.int i) _ _) _ => some (.cst (.int (-i)))
    | .Compare a [.Is] [.Constant .none _ _] _ => (cE T n sc N a).map fun x => .isn x false
    | .Compare a [.IsNot] [.Constant .none _ _] _ => (cE T n sc N a).map fun x => .isn x true
    | .Compare a [op] [b] _ => (copOf? op).bind fun o => (cE T n sc N a).bind fun x => (cE T n sc N b).map fun y => .cmp o x y
    | .Compare a [op, op'] [b, c] _ => if notSet c then (copOf? op).bind fun o => (copOf? op').bind fun o' => (cE T n sc N a).bind fun x => (cE T n sc N b).bind fun y => (cE T n sc N c).map fun z => Ex.chn o o' x y z else none
    | .BoolOp _ [a] _ => cE T n sc N a
    | .BoolOp .And (a :: b :: r) pos => (cE T n sc N a).bind fun x => (cE T n sc N (.BoolOp .And (b :: r) pos)).map fun y => .and x y
    | .BoolOp .Or (a :: b :: r) pos => (cE T n sc N a).bind fun x => (cE T n sc N (.BoolOp .Or (b :: r) pos)).map fun y => .or x y
    | .IfExp c a b _ => (cE T n sc N c).bind fun z => (cE T n sc N a).bind fun x => (cE T n sc N b).map fun y => .ite z x y
    | .Tuple es _ _ => (cEs T n sc N es).map .tup
    | .List es _ => (cEs T n sc N es).map .lst
    | .Subscript a (.Slice (some lo) none none _) _ => (cE T n sc N a).bind fun x => (cE T n sc N lo).map fun y => .slL x y
    | .Subscript a (.Slice none (some hi) none _) _ => (cE T n sc N a).bind fun x => (cE T n sc N hi).map fun y => .slR x y
    | .Subscript a (.Slice (some lo) (some hi) none _) _ => (cE T n sc N a).bind fun x => (cE T n sc N lo).bind fun y => (cE T n sc N hi).map fun z => .slB x y z
    | .Subscript a b _ => if notSlice b then (cE T n sc N a).bind fun x => (cE T n sc N b).map fun y => .sub x y else none
    | .Call (.Name x _) es [] _ => if x = "isinstance" ∧ isBlt T sc x = true then (match es with
      | [a, .Tuple ts _ _] => if notStar a then (cE T n sc N a).bind fun y => (tysOf T sc ts).bind fun (t : List Ty) => if t.length ≤ 20 then some (Ex.isi y t) else none else none
      | [a, .Name t _] => if notStar a then (cE T n sc N a).bind fun y => (tyOf T sc t).map fun t => .isi y [t] else none
      | _ => none) else cCall T n sc N x es
    | .Call (.Attribute o m apos) es [] pos => if notSuper o && es.all notStar && decide (es.length < 20) && (apos.endLine == pos.line) then
        (ixS m T.nms 0).bind fun k => (cE T n sc N o).bind fun x => (cEs T n sc N es).map fun xs => .met k x xs else none
    | .Attribute o f _ => if notSuper o then (ixS f T.nms 0).bind fun k => (cE T n sc N o).map fun x => .fld k x else none
    | .ListComp e [⟨tg, it, ifs, 0⟩] cs _ => (ownOf N cs.names).bind fun (own : List (Str × Nat)) => if blkC N sc cs own && notSet it then
        (cTg cs N n tg).bind fun (t : Tg) => if (Tg.slots t).all (fun i => (own.map Prod.snd).contains i) then
          (cIt T n sc N tg it).bind fun w => (match ifs with
            | [] => some (Ex.cst (.bl true))
            | [c] => cE T n (relS cs sc) N c
            | _ => (none : Option Ex)).bind fun (c : Ex) => (cE T n (relS cs sc) N e).map fun x => Ex.lc t (own.map Prod.snd) w c x
        else none else none
    | _ => none
def cEs (T : Tb) : Nat → Scope → List Str → List Expr → Option Exs
  | 0, _, _, _ => none
  | _ + 1, _, _, [] => some .nil
  | n + 1, sc, N, .Starred e _ :: r => (cE T n sc N e).bind fun x => (cEs T n sc N r).map fun xs => .cons true x xs
  | n + 1, sc, N, e :: r => (cE T n sc N e).bind fun x => (cEs T n sc N r).map fun xs => .cons false x xs
/-- f(..): a built-in, a function of the text, a class -/
def cCall (T : Tb) : Nat → Scope → List Str → Str → List Expr → Option Ex
  | 0, _, _, _, _ => none
  | n + 1, sc, N, x, es => if es.all notStar then
      (if isBlt T sc x then (bltOf x).bind fun b => if es.length = bltAr b then (cEs T n sc N es).map fun xs => .blt b xs else none
      else if isGl sc x then (match T.fns.lookup x with
        | some f => (match T.ar f, T.dfl f with
          | some a, some ds => if es.length ≤ a ∧ a - es.length ≤ ds.length ∧ es ≠ [] then (cEs T n sc N es).map fun xs => .call f (appEs xs (ds.drop (ds.length - (a - es.length)))) else none
          | _, _ => none)
        | none => (match T.clss.lookup x with
          | some c => if c = T.adrC ∧ es.length ≤ 1 then (cEs T n sc N es).map fun xs => .new c xs else none
          | none => none))
      else none)
    else none
def cIt (T : Tb) : Nat → Scope → List Str → Expr → Expr → Option It
  | 0, _, _, _, _ => none
  | n + 1, sc, N, tg, e => match e with
    | .Call (.Name x _) [a] [] _ => if x = "range" ∧ isBlt T sc x = true ∧ notStar a = true then (cE T n sc N a).map .rng1 else (cE T n sc N e).map .e
    | .Call (.Name x _) [a, b] [] _ => if x = "range" ∧ isBlt T sc x = true ∧ notStar a = true ∧ notStar b = true then (cE T n sc N a).bind fun x => (cE T n sc N b).map fun y => .rng2 x y else (cE T n sc N e).map .e
    | _ => (cE T n sc N e).map .e
end
end Pw
set_option Elab.async false
set_option linter.all false
set_option maxRecDepth 100000
set_option autoImplicit false
set_option maxHeartbeats 2000000
/-! The rules of expressions, each by the interpreter's own step. -/
namespace Pw
open PySem PySem.Spec PyProof.Rows L2
/-- a function of the text as its callers see it -/
def FnI (X : Cx) (G : Gd) (C : Cl) (lv f a : Nat) (ds : List D) : Prop := ∃ fd ps, ps.length = a ∧ FnOk X.prog X.w X.K X.mg X.base (L2.CX X.prog X.w) lv (G.fA f) fd ps (spN X.K G C.call f) ∧ PySem.W.keepIn X.K (.ref (G.fA f)) = true ∧
  ∀ k, k ≤ ds.length → ∃ dv us, Vals dv us ∧ Binds X.K fd ps us ∧ ∀ H ρ, Rps X.K G H ρ (ds.drop (ds.length - k)) dv
/-- an instance of Address comes to be: its __init__ at the new instance -/
def spMk (C0 : Addr) : Sp := fun vs H Q E => ∃ x dx v, vs = [.ref x, v] ∧ dx ≠ x ∧ H x = some (.ins C0 dx []) ∧ Q .non (SlX.slH H x C0 dx [some v])
structure CtxOk (T : Tb) (G : Gd) (C : Cl) (lv : Nat) (X : Cx) (sc : Scope) (N : List Str) : Prop where
  scope : X.env.scope = sc
  names : X.N = N
  nd : N.Nodup
  calm : X.calm = true
  adr : AdrOk X G C lv
  adrT : T.adrC = G.adrC
  add0 : ∃ f, C.mth G.adrC nAdd = some f
  nms : ∀ x k, ixS x T.nms 0 = some k → G.nm k = x
  cons : ∀ x g, T.cons.lookup x = some g → ∃ u v, X.mg x = some u ∧ RelV v u ∧ ∀ H ρ, Rp X.K G H ρ (C.con g) v
  blts : ∀ x, T.blts.contains x = true → X.mg x = none
  fns : ∀ x f, T.fns.lookup x = some f → X.mg x = some (.ref (G.fA f))
  clss : ∀ x c, T.clss.lookup x = some c → X.mg x = some (.ref (G.cA c))
  fni : ∀ f a ds, T.ar f = some a → T.dfl f = some ds → FnI X G C lv f a ds
  kitB : ∀ (t : String) (x : Str) (c : Nat), t ∈ ["NoneType", "bool", "int", "str", "list", "tuple", "dict"] → T.clss.lookup x = some c → PySem.W.kitOne X.K (.type t) (.ref (G.cA c)) = some false
  kitA : ∀ (t : String), t ∈ ["bool", "int", "str", "list", "tuple", "dict"] → PySem.W.kitOne X.K (.ref (G.cA G.adrC)) (.type t) = some false
  kitC : ∀ (x : Str) (c : Nat), T.clss.lookup x = some c → PySem.W.kitOne X.K (.ref (G.cA G.adrC)) (.ref (G.cA c)) = some (C.isA G.adrC c)
  mthI : ∀ c k f, C.mth c k = some f → c ≠ G.adrC → Cls X.K (G.cA c) ∧ Meth X.K (G.cA c) (G.nm k) (G.fA f) ∧ FnR X.prog X.w X.K X.mg X.base (L2.CX X.prog X.w) lv (G.fA f) (spN X.K G C.call f)
  attI : ∀ c f, C.att c f = true → Cls X.K (G.cA c) ∧ NoAttr X.K (G.cA c) (G.nm f)
  nAppend : G.nm nAppend = "append"
  nExtend : G.nm nExtend = "extend"
  nPop : G.nm nPop = "pop"
  nReverse : G.nm nReverse = "reverse"
  sisi : SlX.SIsi X.K (G.cA G.adrC)
  mka : ∃ fI fd ps us, PySem.W.keepIn X.K (.ref (G.cA G.adrC)) = true ∧ Mk X.K (G.cA G.adrC) fI ∧ FnOk X.prog X.w X.K X.mg X.base CX0 lv fI fd ps (spMk (G.cA G.adrC)) ∧ Binds X.K fd ps [] ∧ Binds X.K fd ps [us] ∧ ∃ v, RelV v us ∧ ∀ H ρ, Rp X.K G H ρ (.tup []) v
section
variable {T : Tb} {G : Gd} {C : Cl} {lv : Nat} {X : Cx} {sc : Scope} {N : List Str} {W : WX} {xc : Option Xc}
theorem ixS_get (x : Str) : ∀ (l : List Str) (k i : Nat), ixS x l k = some i → k ≤ i ∧ l[i - k]? = some x
  | [], _, _, h => by cases h
  | y :: r, k, i, h => by
    unfold ixS at h
    by_cases e : x = y
    · rw [if_pos e] at h
      cases h
      exact ⟨Nat.le_refl _, by simp [e]⟩
    · rw [if_neg e] at h
      obtain ⟨h1, h2⟩ := ixS_get x r (k + 1) i h
      refine ⟨by omega, ?_⟩
      have e2 : i - k = (i - (k + 1)) + 1 := by omega
      rw [e2, List.getElem?_cons_succ]
      exact h2
theorem slotOf_spec {x : Str} {i : Nat} (h : slotOf sc N x = some i) : N[i]? = some x ∧ Vis sc x ∧ okName x = true := by
  unfold slotOf at h
  split at h
  · rename_i hc
    simp only [Bool.and_eq_true] at hc
    have h1 := (ixS_get x N 0 i h).2
    refine ⟨by simpa using h1, ?_, hc.2⟩
    have h2 := hc.1
    unfold Vis
    cases hl : sc.names.lookup x with
    | none => rw [hl] at h2; cases h2
    | some k => rw [hl] at h2; cases k <;> simp [visK] at h2 ⊢
  · cases h
theorem okName_spec {x : Str} (h : okName x = true) : (x == ("__debug__" : Str)) = false ∧ (x == ("__classdict__" : Str)) = false := by
  unfold okName at h
  simp only [Bool.and_eq_true, Bool.not_eq_true'] at h
  exact h
theorem isGl_spec (c : CtxOk T G C lv X sc N) {x : Str} (h : isGl sc x = true) : Gl X x ∧ (x == ("__debug__" : Str)) = false := by
  unfold isGl at h
  simp only [Bool.and_eq_true, beq_iff_eq] at h
  refine ⟨?_, (okName_spec h.2).1⟩
  show X.env.scope.names.lookup x = _
  rw [c.scope]
  exact h.1
theorem isBlt_spec (c : CtxOk T G C lv X sc N) {x : Str} (h : isBlt T sc x = true) : Gl X x ∧ (x == ("__debug__" : Str)) = false ∧ X.mg x = none ∧ x ≠ "__name__" := by
  unfold isBlt at h
  simp only [Bool.and_eq_true, Bool.not_eq_true'] at h
  obtain ⟨⟨h1, h2⟩, h3⟩ := h
  obtain ⟨g1, g2⟩ := isGl_spec c h1
  exact ⟨g1, g2, c.blts x h2, by simpa using h3⟩
theorem star_cons {e : Expr} {es : List Expr} (h : notStar e = true) (env : Env) : starEach (e :: es) env = (false, eval e env) :: starEach es env := by
  cases e <;> first | rfl | cases h
theorem star_none {es : List Expr} (h : es.all notStar = true) (pos : Pos) (env : Env) : (backTo pos (starEach es env)).any (·.1) = false := by
  induction es with
  | nil => rfl
  | cons e r ih =>
    simp only [List.all_cons, Bool.and_eq_true] at h
    rw [star_cons h.1]
    show (false || (backTo pos (starEach r env)).any (·.1)) = false
    rw [ih h.2]
    rfl
theorem attr_base {o : Expr} (h : notSuper o = true) (f : Str) (env : Env) (w : Sem Value) : attributeBase o f env w = w := by
  cases o with
  | Call func args kws pos =>
    cases func with
    | Name id p =>
      cases args with
      | nil =>
        cases kws with
        | nil =>
          have h1 : (id == ("super" : Str)) = false := by simpa [notSuper] using h
          unfold attributeBase
          simp only [bne, h1, Bool.not_false, Bool.true_or, if_true]
        | cons _ _ => rfl
      | cons _ _ => rfl
    | _ => rfl
  | _ => rfl
/-! ### the rules -/
theorem s_cst {k : Const} {j : Nat} {pos : Pos} {d : D} {v : V} (h : PE X (.Constant k j pos) (tC v)) (r : ∀ H ρ, Rp X.K G H ρ d v) : PE X (.Constant k j pos) (tE X.K G W (ev C xc (.cst d))) :=
  h.wk fun σ H Q ⟨ρ, σ1, M, rm, rs, p⟩ => by
    simp only [ev] at p
    exact Post.here (R := rD X.K G) p rm (r H ρ)
theorem s_var (c : CtxOk T G C lv X sc N) {x : Str} {i : Nat} {pos : Pos} (h : slotOf sc N x = some i) : PE X (.Name x pos) (tE X.K G W (ev C xc (.var i))) := by
  obtain ⟨h1, h2, h3⟩ := slotOf_spec h
  obtain ⟨o1, o2⟩ := okName_spec h3
  refine (pe_var (by rw [c.names]; exact h1) (by rw [c.scope]; exact h2) o1 o2).wk fun σ H Q ⟨ρ, σ1, M, rm, rs, p⟩ => ?_
  simp only [ev] at p
  cases e : σ1[i]? with
  | none => rw [e] at p; exact False.elim p
  | some o =>
    cases o with
    | none => rw [e] at p; exact False.elim p
    | some d =>
      rw [e] at p
      obtain ⟨v, e1, r⟩ := rs.2 i d e
      exact ⟨v, e1, Post.here p rm r⟩
theorem s_glo (c : CtxOk T G C lv X sc N) {x : Str} {g : Nat} {pos : Pos} (h : isGl sc x = true) (hg : T.cons.lookup x = some g) : PE X (.Name x pos) (tE X.K G W (ev C xc (.glo g))) := by
  obtain ⟨u, v, h1, h2, h3⟩ := c.cons x g hg
  obtain ⟨g1, g2⟩ := isGl_spec c h
  exact (pe_glob g1 h1 h2 g2).wk fun σ H Q ⟨ρ, σ1, M, rm, rs, p⟩ => by
    simp only [ev] at p
    exact Post.here (R := rD X.K G) p rm (h3 H ρ)
/-- two operands and an operator that raises nothing -/
theorem two_ops {fa fb : Sg → Mem → Res D} {g : D → D → Mem → Res D} (hn : ∀ d e m x m', g d e m ≠ .exc x m') {σv : VS} {H : Hp} {Q : VK}
    (h : tE X.K G W (fun σ m => (fa σ m).bind fun d m => (fb σ m).bind fun e m => g d e m) σv H Q) :
    tE X.K G W fa σv H fun x H1 => tE X.K G W fb σv H1 fun y H2 => OpD X.K G g x y H2 Q := by
  obtain ⟨ρ, σ, M, rm, rs, p⟩ := h
  refine ⟨ρ, σ, M, rm, rs, (Post.bind (R := rD X.K G) p).imp fun v H1 ⟨ρ1, d, M1, ge, rm1, r1, p1⟩ => ?_⟩
  refine ⟨ρ1, σ, M1, rm1, rs.mono ge, (Post.bind (R := rD X.K G) p1).imp fun w H2 ⟨ρ2, e, M2, ge2, rm2, r2, p2⟩ => ?_⟩
  refine ⟨ρ2, d, e, M2, rm2, r1.mono ge2, r2, ?_⟩
  cases hg : g d e M2 with
  | ok a m => rw [hg] at p2; exact p2
  | exc x m => exact absurd hg (hn _ _ _ _ _)
  | bad => rw [hg] at p2; exact p2
theorem callN_nexc {o : Option Nat} {ds : List D} {m m' : Mem} {x : Xc} : callN C o ds m ≠ .exc x m' := by
  unfold callN
  intro h
  split at h <;> cases h
theorem new1_nexc {ds : List D} {m m' : Mem} {x : Xc} : new1 ds m ≠ .exc x m' := by
  unfold new1
  intro h
  split at h <;> cases h
theorem tupR_nexc {ds : List D} {m m' : Mem} {x : Xc} : tupR ds m ≠ .exc x m' := by
  unfold tupR
  intro h
  split at h <;> cases h
theorem orBad_nexc {α : Type} {o : Option α} {m m' : Mem} {x : Xc} : orBad o m ≠ .exc x m' := by
  unfold orBad
  intro h
  split at h <;> cases h
theorem binD_nexc (o : BOp) (d e : D) (m : Mem) (x : Xc) (m' : Mem) : binD C o d e m ≠ .exc x m' := by
  intro h
  unfold binD at h
  split at h <;> first
    | exact callN_nexc h
    | exact tupR_nexc h
    | cases h
    | (split at h <;> first | exact new1_nexc h | cases h)
theorem eqD_nexc (d e : D) (m : Mem) (x : Xc) (m' : Mem) : eqD C d e m ≠ .exc x m' := by
  intro h
  unfold eqD at h
  split at h <;> first
    | exact callN_nexc h
    | cases h
    | (split at h <;> cases h)
theorem eqT_nexc (d e : D) (m : Mem) (x : Xc) (m' : Mem) : eqT C d e m ≠ .exc x m' := by
  intro h
  unfold eqT at h
  split at h
  · exact callN_nexc h
  · exact eqD_nexc _ _ _ _ _ h
theorem notR_nexc {r : Res D} {x : Xc} {m' : Mem} (hr : ∀ x m, r ≠ .exc x m) : notR r ≠ .exc x m' := by
  intro h
  cases r with
  | ok d m => simp only [notR, Res.bind] at h; cases d <;> cases h
  | exc x m => exact hr _ _ rfl
  | bad => cases h
theorem ordD_nexc (o : COp) (d e : D) (m : Mem) (x : Xc) (m' : Mem) : ordD C o d e m ≠ .exc x m' := by
  intro h
  unfold ordD at h
  split at h
  · split at h <;> cases h
  · split at h <;> first | exact callN_nexc h | cases h
  · unfold ordG at h
    split at h
    · split at h
      · split at h <;> cases h
      · cases h
    · cases h
theorem cmpD_nexc (o : COp) (d e : D) (m : Mem) (x : Xc) (m' : Mem) : cmpD C o d e m ≠ .exc x m' := by
  intro h
  cases o <;> simp only [cmpD] at h
  · exact eqT_nexc _ _ _ _ _ h
  · exact notR_nexc (fun _ _ => eqD_nexc _ _ _ _ _) h
  · exact ordD_nexc _ _ _ _ _ _ h
  · exact ordD_nexc _ _ _ _ _ _ h
  · exact ordD_nexc _ _ _ _ _ _ h
  · exact ordD_nexc _ _ _ _ _ _ h
  · cases h
  · cases h
theorem subD_nexc (d e : D) (m : Mem) (x : Xc) (m' : Mem) : subD d e m ≠ .exc x m' := by
  intro h
  unfold subD at h
  split at h <;> first
    | exact orBad_nexc h
    | cases h
    | (split at h <;> first | exact orBad_nexc h | cases h)
theorem slcD_nexc (d : D) (lo hi : Option Int) (m : Mem) (x : Xc) (m' : Mem) : slcD d lo hi m ≠ .exc x m' := by
  intro h
  unfold slcD at h
  split at h <;> first
    | cases h
    | (split at h <;> first | exact new1_nexc h | cases h)
theorem s_bin (c : CtxOk T G C lv X sc N) {a b : Expr} {op : Operator} {o : BOp} {pos : Pos} {x y : Ex} (ho : bopOf op = some o) (ha : PE X a (tE X.K G W (ev C xc x))) (hb : PE X b (tE X.K G W (ev C xc y))) :
    PE X (.BinOp a op b pos) (tE X.K G W (ev C xc (.bin o x y))) := by
  have e : op = opOf o := by cases op <;> simp [bopOf] at ho <;> subst ho <;> rfl
  subst e
  refine (pe_op (op_bin c.adr (op_addA c.adr) (op_radA c.adr c.add0) o) ha hb).wk fun σ H Q h => two_ops (binD_nexc o) ?_
  simpa only [ev] using h
theorem cop_eq {op : CmpOp} {o : COp} (h : copOf? op = some o) : op = copOf o ∧ o ≠ .inn ∧ o ≠ .notin ∧ op ≠ .In ∧ op ≠ .NotIn := by
  cases op <;> simp [copOf?] at h <;> subst h <;> simp [copOf]
theorem s_cmp (c : CtxOk T G C lv X sc N) {a b : Expr} {op : CmpOp} {o : COp} {pos : Pos} {x y : Ex} (ho : copOf? op = some o) (ha : PE X a (tE X.K G W (ev C xc x))) (hb : PE X b (tE X.K G W (ev C xc y))) :
    PE X (.Compare a [op] [b] pos) (tE X.K G W (ev C xc (.cmp o x y))) ∧ PT X (.Compare a [op] [b] pos) (tT X.K G W (ev C xc (.cmp o x y))) := by
  obtain ⟨e, h1, h2, h3, h4⟩ := cop_eq ho
  subst e
  constructor
  · refine (pe_cmpR (op_cmp c.adr o ⟨h1, h2⟩) ha hb (nomark b h3 h4)).wk fun σ H Q h => two_ops (cmpD_nexc o) ?_
    simpa only [ev] using h
  · refine (pt_cmpR (op_cmp c.adr o ⟨h1, h2⟩) ha hb (nomark b h3 h4)).wk fun σ H Q h => ?_
    have h' := tT_of h
    simp only [ev] at h'
    exact two_ops (X := X) (G := G) (W := W) (cmpD_nexc o) h'
end
end Pw
set_option Elab.async false
set_option linter.all false
set_option maxRecDepth 100000
set_option autoImplicit false
set_option maxHeartbeats 2000000
/-! Chains, tests, displays, items, slices. -/
namespace Pw
open PySem PySem.Spec PyProof.Rows L2
section
variable {T : Tb} {G : Gd} {C : Cl} {lv : Nat} {X : Cx} {sc : Scope} {N : List Str} {W : WX} {xc : Option Xc}
/-- one operand -/
theorem one_op {fa : Sg → Mem → Res D} {g : Sg → D → Mem → Res D} {σv : VS} {H : Hp} {Q : VK} (h : tE X.K G W (fun σ m => (fa σ m).bind (g σ)) σv H Q) {Q' : VK}
    (i : ∀ v H1 ρ1 σ d M1, RM X.K G H1 ρ1 M1 → Rs X.K G H1 ρ1 σ σv → Rp X.K G H1 ρ1 d v → Post X.K G (rD X.K G) (fun c d H' => W c d σv H') ρ1 H1 (g σ d M1) Q → Q' v H1) : tE X.K G W fa σv H Q' := by
  obtain ⟨ρ, σ, M, rm, rs, p⟩ := tE.bind h
  exact ⟨ρ, σ, M, rm, rs, p.imp fun v H1 ⟨ρ1, σ1, d, M1, a, b, c, q⟩ => i v H1 ρ1 σ1 d M1 a b c q⟩
/-- back into a reading -/
theorem tE.mk {fa : Sg → Mem → Res D} {σ : Sg} {σv : VS} {H : Hp} {Q : VK} {ρ : List Addr} {M : Mem} (rm : RM X.K G H ρ M) (rs : Rs X.K G H ρ σ σv) (p : Post X.K G (rD X.K G) (fun c d H' => W c d σv H') ρ H (fa σ M) Q) : tE X.K G W fa σv H Q := ⟨ρ, σ, M, rm, rs, p⟩
theorem Post.noex {α β : Type} {R : Rel α β} {E : XK} {ρ : List Addr} {H : Hp} {r : Res α} {Q : β → Hp → Prop} (p : Post X.K G R E ρ H r Q) (h : ∀ x m, r ≠ .exc x m) : Post X.K G R XF ρ H r Q := by
  cases r with
  | ok d m => exact p
  | exc x m => exact absurd rfl (h x m)
  | bad => exact p
theorem s_chn (c : CtxOk T G C lv X sc N) {a b e : Expr} {op op' : CmpOp} {o o' : COp} {pos : Pos} {x y z : Ex} (ho : copOf? op = some o) (ho' : copOf? op' = some o') (ha : PE X a (tE X.K G W (ev C xc x))) (hb : PE X b (tE X.K G W (ev C xc y))) (he : PE X e (tE X.K G W (ev C xc z)))
    (hn : notSet e = true) : PE X (.Compare a [op, op'] [b, e] pos) (tE X.K G W (ev C xc (.chn o o' x y z))) ∧ PT X (.Compare a [op, op'] [b, e] pos) (tT X.K G W (ev C xc (.chn o o' x y z))) := by
  obtain ⟨e1, h1, h2, h3, h4⟩ := cop_eq ho
  obtain ⟨e2, h1', h2', h3', h4'⟩ := cop_eq ho'
  subst e1 e2
  have go : ∀ σ H Q, tE X.K G W (ev C xc (.chn o o' x y z)) σ H Q → tChain (OpD X.K G (cmpD C o)) (OpD X.K G (cmpD C o')) (tE X.K G W (ev C xc x)) (tE X.K G W (ev C xc y)) (tE X.K G W (ev C xc z)) σ H Q := by
    intro σv H Q ⟨ρ, σ, M, rm, rs, p⟩
    simp only [ev] at p
    refine ⟨ρ, σ, M, rm, rs, (Post.bind (R := rD X.K G) p).imp fun v H1 ⟨ρ1, d, M1, ge, rm1, r1, p1⟩ => ?_⟩
    refine ⟨ρ1, σ, M1, rm1, rs.mono ge, (Post.bind (R := rD X.K G) p1).imp fun w H2 ⟨ρ2, e, M2, ge2, rm2, r2, p2⟩ => ?_⟩
    have rs2 := (rs.mono ge).mono ge2
    refine ⟨ρ2, d, e, M2, rm2, r1.mono ge2, r2, ?_⟩
    refine Post.noex ((Post.bind (R := rD X.K G) p2).imp fun u H3 ⟨ρ3, k, M3, ge3, rm3, r3, p3⟩ => ?_) fun _ _ => cmpD_nexc o _ _ _ _ _
    cases k with
    | bl k =>
      cases r3
      refine ⟨k, rfl, ?_⟩
      cases k with
      | true =>
        rw [if_pos rfl]
        refine ⟨ρ3, σ, M3, rm3, rs2.mono ge3, (Post.bind (R := rD X.K G) p3).imp fun w' H4 ⟨ρ4, g, M4, ge4, rm4, r4, p4⟩ => ?_⟩
        exact ⟨ρ4, e, g, M4, rm4, (r2.mono ge3).mono ge4, r4, Post.noex p4 fun _ _ => cmpD_nexc o' _ _ _ _ _⟩
      | false =>
        rw [if_neg Bool.false_ne_true]
        exact Post.here (R := rD X.K G) p3 rm3 (.bl false)
    | _ => exact False.elim p3
  have lm : lastMarks [copOf o, copOf o'] [b, e] = false := by
    show behindInMarks (copOf o') e = false
    cases e <;> first | rfl | cases hn
  constructor
  · exact (pe_chain (op_cmp c.adr o ⟨h1, h2⟩) (op_cmp c.adr o' ⟨h1', h2'⟩) ha hb he lm).wk go
  · exact (pt_chain (op_cmp c.adr o ⟨h1, h2⟩) (op_cmp c.adr o' ⟨h1', h2'⟩) ha hb he lm).wk fun σ H Q h => go σ H _ (tT_of h)
/-- is None, is not None -/
theorem non_iff {ρ : List Addr} {H : Hp} {d : D} {v : V} (r : Rp X.K G H ρ d v) : decide (v = .non) = D.isNon d := by
  cases r <;> rfl
theorem s_isn {a : Expr} {x : Ex} {j : Nat} {p' pos : Pos} (ha : PE X a (tE X.K G W (ev C xc x))) :
    (PE X (.Compare a [.Is] [.Constant .none j p'] pos) (tE X.K G W (ev C xc (.isn x false))) ∧ PT X (.Compare a [.Is] [.Constant .none j p'] pos) (tT X.K G W (ev C xc (.isn x false)))) ∧
    PE X (.Compare a [.IsNot] [.Constant .none j p'] pos) (tE X.K G W (ev C xc (.isn x true))) ∧ PT X (.Compare a [.IsNot] [.Constant .none j p'] pos) (tT X.K G W (ev C xc (.isn x true))) := by
  have g1 : ∀ σ H Q, tE X.K G W (ev C xc (.isn x false)) σ H Q → tIsN (tE X.K G W (ev C xc x)) σ H Q := fun σ H Q h => by
    simp only [ev] at h
    refine one_op h fun v H1 ρ1 σ d M1 rm rs r1 p => ?_
    rw [non_iff r1]
    have := Post.here (R := rD X.K G) p rm (.bl _)
    simpa using this
  have g2 : ∀ σ H Q, tE X.K G W (ev C xc (.isn x true)) σ H Q → tNotN (tE X.K G W (ev C xc x)) σ H Q := fun σ H Q h => by
    simp only [ev] at h
    refine one_op h fun v H1 ρ1 σ d M1 rm rs r1 p => ?_
    rw [non_iff r1]
    have := Post.here (R := rD X.K G) p rm (.bl _)
    simpa using this
  exact ⟨⟨(pe_cmp (pc_isN ha) rfl).wk g1, (pt_cmp (pc_isN ha) rfl).wk fun σ H Q h => g1 σ H _ (tT_of h)⟩, (pe_cmp (pc_notN ha) rfl).wk g2, (pt_cmp (pc_notN ha) rfl).wk fun σ H Q h => g2 σ H _ (tT_of h)⟩
/-! ### truth -/
theorem bl_cases {ρ : List Addr} {H : Hp} {d : D} {v : V} {α β : Type} {R : Rel α β} {E : XK} {f : Bool → Res α} {Q : β → Hp → Prop} (r : Rp X.K G H ρ d v) (p : Post X.K G R E ρ H (match d with | .bl true => f true | .bl false => f false | _ => .bad) Q) : ∃ k, v = .bl k ∧ d = .bl k ∧ Post X.K G R E ρ H (f k) Q := by
  cases r with
  | bl k => exact ⟨k, rfl, rfl, by cases k <;> exact p⟩
  | _ => exact False.elim p
theorem s_not {a : Expr} {x : Ex} {pos : Pos} (ha : PE X a (tE X.K G W (ev C xc x))) (ht : PT X a (tT X.K G W (ev C xc x))) :
    PE X (.UnaryOp .Not a pos) (tE X.K G W (ev C xc (.not x))) ∧ PT X (.UnaryOp .Not a pos) (tT X.K G W (ev C xc (.not x))) := by
  constructor
  · refine (pe_not ha).wk fun σ H Q h => ?_
    simp only [ev] at h
    refine one_op h fun v H1 ρ1 σ d M1 rm rs r1 p => ?_
    cases r1 with
    | bl k => exact ⟨k, rfl, Post.here (R := rD X.K G) p rm (.bl _)⟩
    | _ => exact False.elim p
  · refine (pt_not ht).wk fun σ H Q ⟨ρ, σ1, M, rm, rs, p⟩ => ?_
    simp only [ev] at p
    refine ⟨ρ, σ1, M, rm, rs, ?_⟩
    cases e : ev C xc x σ1 M with
    | ok d m =>
      rw [e] at p
      cases d with
      | bl k =>
        intro ρ' H' b ge rm' rb
        have hb : k = b := by
          have : D.bl k = D.bl b := rb
          cases this
          rfl
        subst hb
        exact p ρ' H' (!k) ge rm' rfl
      | _ => exact False.elim p
    | exc x m => rw [e] at p; exact p
    | bad => rw [e] at p; exact p
theorem s_and {a b : Expr} {r : List Expr} {x y : Ex} {pos : Pos} (ha : PE X a (tE X.K G W (ev C xc x))) (hta : PT X a (tT X.K G W (ev C xc x))) (hb : PE X (.BoolOp .And (b :: r) pos) (tE X.K G W (ev C xc y))) (htb : PW X (.BoolOp .And (b :: r) pos) (tT X.K G W (ev C xc y))) :
    PE X (.BoolOp .And (a :: b :: r) pos) (tE X.K G W (ev C xc (.and x y))) ∧ PW X (.BoolOp .And (a :: b :: r) pos) (tT X.K G W (ev C xc (.and x y))) := by
  constructor
  · refine (pe_and ha hb).wk fun σ H Q h => ?_
    simp only [ev] at h
    refine one_op h fun v H1 ρ1 σ1 d M1 rm rs r1 p => ?_
    cases r1 with
    | bl k =>
      refine ⟨k, rfl, ?_⟩
      cases k with
      | true => rw [if_pos rfl]; exact tE.mk rm rs p
      | false => rw [if_neg Bool.false_ne_true]; exact Post.here (R := rD X.K G) p rm (.bl _)
    | _ => exact False.elim p
  · refine (pw_and hta htb).wk fun σ H Q ⟨ρ, σ1, M, rm, rs, p⟩ => ?_
    simp only [ev] at p
    refine ⟨ρ, σ1, M, rm, rs, ?_⟩
    cases e : ev C xc x σ1 M with
    | ok d m =>
      rw [e] at p
      cases d with
      | bl k =>
        intro ρ' H' b ge rm' rb
        have hb : k = b := by
          have : D.bl k = D.bl b := rb
          cases this
          rfl
        subst hb
        cases k with
        | true => rw [if_pos rfl]; exact ⟨ρ', σ1, m, rm', rs.mono ge, Post.ge p ge⟩
        | false => rw [if_neg Bool.false_ne_true]; exact p ρ' H' false ge rm' rfl
      | _ => exact False.elim p
    | exc x m => rw [e] at p; exact p
    | bad => rw [e] at p; exact p
theorem s_or {a b : Expr} {r : List Expr} {x y : Ex} {pos : Pos} (ha : PE X a (tE X.K G W (ev C xc x))) (hta : PT X a (tT X.K G W (ev C xc x))) (hb : PE X (.BoolOp .Or (b :: r) pos) (tE X.K G W (ev C xc y))) (htb : PW X (.BoolOp .Or (b :: r) pos) (tT X.K G W (ev C xc y))) :
    PE X (.BoolOp .Or (a :: b :: r) pos) (tE X.K G W (ev C xc (.or x y))) ∧ PW X (.BoolOp .Or (a :: b :: r) pos) (tT X.K G W (ev C xc (.or x y))) := by
  constructor
  · refine (pe_or ha hb).wk fun σ H Q h => ?_
    simp only [ev] at h
    refine one_op h fun v H1 ρ1 σ1 d M1 rm rs r1 p => ?_
    cases r1 with
    | bl k =>
      refine ⟨k, rfl, ?_⟩
      cases k with
      | false => rw [if_neg Bool.false_ne_true]; exact tE.mk rm rs p
      | true => rw [if_pos rfl]; exact Post.here (R := rD X.K G) p rm (.bl _)
    | _ => exact False.elim p
  · refine (pw_or hta htb).wk fun σ H Q ⟨ρ, σ1, M, rm, rs, p⟩ => ?_
    simp only [ev] at p
    refine ⟨ρ, σ1, M, rm, rs, ?_⟩
    cases e : ev C xc x σ1 M with
    | ok d m =>
      rw [e] at p
      cases d with
      | bl k =>
        intro ρ' H' b ge rm' rb
        have hb : k = b := by
          have : D.bl k = D.bl b := rb
          cases this
          rfl
        subst hb
        cases k with
        | false => rw [if_neg Bool.false_ne_true]; exact ⟨ρ', σ1, m, rm', rs.mono ge, Post.ge p ge⟩
        | true => rw [if_pos rfl]; exact p ρ' H' true ge rm' rfl
      | _ => exact False.elim p
    | exc x m => rw [e] at p; exact p
    | bad => rw [e] at p; exact p
/-- a if c else b, as a test -/
theorem pt_ifExp {c a b : Expr} {pos : Pos} {tc ta tb : TT} (hc : PT X c tc) (ha : PT X a ta) (hb : PT X b tb) : PT X (.IfExp c a b pos) (fun σ H Q => tc σ H fun k H1 => if k = true then ta σ H1 Q else tb σ H1 Q) := by
  refine ⟨fun pins s σ H Q I h => ?_⟩
  have e : PySem.isTrue (.IfExp c a b pos) X.env (eval (.IfExp c a b pos) X.env) = (do
    if ← PySem.isTrue c X.env (eval c X.env) then PySem.isTrue a X.env (eval a X.env) else PySem.isTrue b X.env (eval b X.env)) := by
    rw [PySem.isTrue]
  rw [e]
  refine wpAny_bind (thn (hc.run pins s σ H _ I h) fun d s1 ⟨H1, I1, q1⟩ => ?_)
  cases d with
  | true => exact ha.run pins s1 σ H1 Q I1 q1
  | false => exact hb.run pins s1 σ H1 Q I1 q1
theorem s_ite {z a b : Expr} {w x y : Ex} {pos : Pos} (hz : PT X z (tT X.K G W (ev C xc w))) (ha : PE X a (tE X.K G W (ev C xc x))) (hb : PE X b (tE X.K G W (ev C xc y))) (hta : PT X a (tT X.K G W (ev C xc x))) (htb : PT X b (tT X.K G W (ev C xc y))) :
    PE X (.IfExp z a b pos) (tE X.K G W (ev C xc (.ite w x y))) ∧ PT X (.IfExp z a b pos) (tT X.K G W (ev C xc (.ite w x y))) := by
  constructor
  · refine (pe_ifExp hz ha hb).wk fun σ H Q ⟨ρ, σ1, M, rm, rs, p⟩ => ?_
    simp only [ev] at p
    refine ⟨ρ, σ1, M, rm, rs, ?_⟩
    cases e : ev C xc w σ1 M with
    | ok d m =>
      rw [e] at p
      cases d with
      | bl k =>
        intro ρ' H' b ge rm' rb
        have hb : k = b := by
          have : D.bl k = D.bl b := rb
          cases this
          rfl
        subst hb
        cases k with
        | true => rw [if_pos rfl]; exact ⟨ρ', σ1, m, rm', rs.mono ge, Post.ge p ge⟩
        | false => rw [if_neg Bool.false_ne_true]; exact ⟨ρ', σ1, m, rm', rs.mono ge, Post.ge p ge⟩
      | _ => exact False.elim p
    | exc x m => rw [e] at p; exact p
    | bad => rw [e] at p; exact p
  · refine (pt_ifExp hz hta htb).wk fun σ H Q ⟨ρ, σ1, M, rm, rs, p⟩ => ?_
    simp only [ev] at p
    refine ⟨ρ, σ1, M, rm, rs, ?_⟩
    cases e : ev C xc w σ1 M with
    | ok d m =>
      rw [e] at p
      cases d with
      | bl k =>
        intro ρ' H' b ge rm' rb
        have hb : k = b := by
          have : D.bl k = D.bl b := rb
          cases this
          rfl
        subst hb
        cases k with
        | true => rw [if_pos rfl]; exact ⟨ρ', σ1, m, rm', rs.mono ge, Post.ge p ge⟩
        | false => rw [if_neg Bool.false_ne_true]; exact ⟨ρ', σ1, m, rm', rs.mono ge, Post.ge p ge⟩
      | _ => exact False.elim p
    | exc x m => rw [e] at p; exact p
    | bad => rw [e] at p; exact p
/-! ### lists of expressions, displays -/
theorem s_nil : PA X [] (tA X.K G W (evs C xc .nil)) := pa_nil.wk fun σ H Q ⟨ρ, σ1, M, rm, rs, p⟩ => by
  simp only [evs] at p
  exact Post.here (R := rL X.K G) p rm .nil
theorem tA.bind {fa : Sg → Mem → Res D} {g : Sg → D → Mem → Res (List D)} {σv : VS} {H : Hp} {Q : List V → Hp → Prop} (h : tA X.K G W (fun σ m => (fa σ m).bind (g σ)) σv H Q) {Q' : VK}
    (i : ∀ v H1 ρ1 σ d M1, RM X.K G H1 ρ1 M1 → Rs X.K G H1 ρ1 σ σv → Rp X.K G H1 ρ1 d v → Post X.K G (rL X.K G) (fun c d H' => W c d σv H') ρ1 H1 (g σ d M1) Q → Q' v H1) : tE X.K G W fa σv H Q' := by
  obtain ⟨ρ, σ, M, rm, rs, p⟩ := h
  exact ⟨ρ, σ, M, rm, rs, (Post.bind (R := rD X.K G) p).imp fun v H1 ⟨ρ1, d, M1, ge, rm1, r1, p1⟩ => i v H1 ρ1 σ d M1 rm1 (rs.mono ge) r1 p1⟩
theorem s_cons {e : Expr} {es : List Expr} {x : Ex} {xs : Exs} (hn : notStar e = true) (he : PE X e (tE X.K G W (ev C xc x))) (hs : PA X es (tA X.K G W (evs C xc xs))) : PA X (e :: es) (tA X.K G W (evs C xc (.cons false x xs))) := by
  refine (pa_cons he hs (star_cons hn _)).wk fun σ H Q h => ?_
  simp only [evs] at h
  refine tA.bind h fun v H1 ρ1 σ1 d M1 rm rs r1 p => ?_
  refine ⟨ρ1, σ1, M1, rm, rs, (Post.bind (R := rL X.K G) p).imp fun vs H2 ⟨ρ2, ds, M2, ge, rm2, r2, p2⟩ => ?_⟩
  exact Post.here (R := rL X.K G) p2 rm2 (.cons (r1.mono ge) r2)
theorem s_star {e : Expr} {es : List Expr} {x : Ex} {xs : Exs} {pp : Pos} (he : PE X e (tE X.K G W (ev C xc x))) (hs : PA X es (tA X.K G W (evs C xc xs))) : PA X (.Starred e pp :: es) (tA X.K G W (evs C xc (.cons true x xs))) := by
  refine (StX.pa_star he hs).wk fun σ H Q h => ?_
  simp only [evs] at h
  refine tA.bind h fun v H1 ρ1 σ1 d M1 rm rs r1 p => ?_
  cases hi : items M1 d with
  | none => rw [hi] at p; exact False.elim p
  | some ys =>
    rw [hi] at p
    obtain ⟨a, vs, rfl, hq, r3⟩ := rm_any rm r1 hi
    refine ⟨a, vs, rfl, hq.symm, ρ1, σ1, M1, rm, rs, (Post.bind (R := rL X.K G) p).imp fun ws H2 ⟨ρ2, ds, M2, ge, rm2, r2, p2⟩ => ?_⟩
    exact Post.here (R := rL X.K G) p2 rm2 ((r3.mono ge).append r2)
/-- a list of values, then one step -/
theorem many_op {f : Sg → Mem → Res (List D)} {g : Sg → List D → Mem → Res D} {σv : VS} {H : Hp} {Q : VK} (h : tE X.K G W (fun σ m => (f σ m).bind (g σ)) σv H Q) {Q' : List V → Hp → Prop}
    (i : ∀ vs H1 ρ1 σ ds M1, RM X.K G H1 ρ1 M1 → Rs X.K G H1 ρ1 σ σv → Rps X.K G H1 ρ1 ds vs → Post X.K G (rD X.K G) (fun c d H' => W c d σv H') ρ1 H1 (g σ ds M1) Q → Q' vs H1) : tA X.K G W f σv H Q' := by
  obtain ⟨ρ, σ, M, rm, rs, p⟩ := h
  exact ⟨ρ, σ, M, rm, rs, (Post.bind (R := rL X.K G) p).imp fun v H1 ⟨ρ1, d, M1, ge, rm1, r1, p1⟩ => i v H1 ρ1 σ d M1 rm1 (rs.mono ge) r1 p1⟩
theorem s_tup {es : List Expr} {xs : Exs} {k : Nat} {pos : Pos} (h : PA X es (tA X.K G W (evs C xc xs))) : PE X (.Tuple es k pos) (tE X.K G W (ev C xc (.tup xs))) := by
  refine (pe_tup h).wk fun σ H Q q => ?_
  simp only [ev] at q
  refine many_op q fun vs H1 ρ1 σ1 ds M1 rm rs r p => ?_
  obtain ⟨hl, p⟩ := tupR_ok p
  exact ⟨by rw [← lim_eq, ← r.length]; exact hl, fun a ha => fin_tup rm r p ha⟩
theorem s_lst {es : List Expr} {xs : Exs} {pos : Pos} (h : PA X es (tA X.K G W (evs C xc xs))) : PE X (.List es pos) (tE X.K G W (ev C xc (.lst xs))) := by
  refine (pe_lst h).wk fun σ H Q q => ?_
  simp only [ev] at q
  refine many_op q fun vs H1 ρ1 σ1 ds M1 rm rs r p => ?_
  obtain ⟨hl, p⟩ := new1_ok p
  exact ⟨by rw [← lim_eq, ← r.length]; exact hl, fun a ha => fin_lst rm r p ha⟩
/-! ### items, slices -/
theorem s_sub {a b : Expr} {x y : Ex} {pos : Pos} (hb : notSlice b = true) (ha : PE X a (tE X.K G W (ev C xc x))) (h : PE X b (tE X.K G W (ev C xc y))) : PE X (.Subscript a b pos) (tE X.K G W (ev C xc (.sub x y))) := by
  refine (pe_ix (op_sub_ix trivial) ha h (fun o i => by cases b <;> first | rfl | cases hb)).wk fun σ H Q q => two_ops subD_nexc ?_
  simpa only [ev] using q
theorem s_slL {a lo : Expr} {x y : Ex} {pos p2 : Pos} (ha : PE X a (tE X.K G W (ev C xc x))) (hl : PE X lo (tE X.K G W (ev C xc y))) : PE X (.Subscript a (.Slice (some lo) none none p2) pos) (tE X.K G W (ev C xc (.slL x y))) := by
  refine (pe_slice (op_slc (G := G)) ha (po_some hl) po_none).wk fun σv H Q ⟨ρ, σ, M, rm, rs, p⟩ => ?_
  simp only [ev] at p
  refine ⟨ρ, σ, M, rm, rs, (Post.bind (R := rD X.K G) p).imp fun v H1 ⟨ρ1, d, M1, ge, rm1, r1, p1⟩ => ?_⟩
  refine ⟨ρ1, σ, M1, rm1, rs.mono ge, (Post.bind (R := rD X.K G) p1).imp fun w H2 ⟨ρ2, e, M2, ge2, rm2, r2, p2⟩ => ?_⟩
  cases r2 with
  | int i => exact ⟨i, rfl, ρ2, d, M2, rm2, r1.mono ge2, Post.noex p2 fun _ _ => slcD_nexc _ _ _ _ _ _⟩
  | _ => exact False.elim p2
theorem s_slR {a hi : Expr} {x y : Ex} {pos p2 : Pos} (ha : PE X a (tE X.K G W (ev C xc x))) (hl : PE X hi (tE X.K G W (ev C xc y))) : PE X (.Subscript a (.Slice none (some hi) none p2) pos) (tE X.K G W (ev C xc (.slR x y))) := by
  refine (pe_slice (op_slc (G := G)) ha po_none (po_some hl)).wk fun σv H Q ⟨ρ, σ, M, rm, rs, p⟩ => ?_
  simp only [ev] at p
  refine ⟨ρ, σ, M, rm, rs, (Post.bind (R := rD X.K G) p).imp fun v H1 ⟨ρ1, d, M1, ge, rm1, r1, p1⟩ => ?_⟩
  refine ⟨ρ1, σ, M1, rm1, rs.mono ge, (Post.bind (R := rD X.K G) p1).imp fun w H2 ⟨ρ2, e, M2, ge2, rm2, r2, p2⟩ => ?_⟩
  cases r2 with
  | int i => exact ⟨i, rfl, ρ2, d, M2, rm2, r1.mono ge2, Post.noex p2 fun _ _ => slcD_nexc _ _ _ _ _ _⟩
  | _ => exact False.elim p2
theorem s_slB {a lo hi : Expr} {x y z : Ex} {pos p2 : Pos} (ha : PE X a (tE X.K G W (ev C xc x))) (hl : PE X lo (tE X.K G W (ev C xc y))) (hh : PE X hi (tE X.K G W (ev C xc z))) : PE X (.Subscript a (.Slice (some lo) (some hi) none p2) pos) (tE X.K G W (ev C xc (.slB x y z))) := by
  refine (pe_slice (op_slc (G := G)) ha (po_some hl) (po_some hh)).wk fun σv H Q ⟨ρ, σ, M, rm, rs, p⟩ => ?_
  simp only [ev] at p
  refine ⟨ρ, σ, M, rm, rs, (Post.bind (R := rD X.K G) p).imp fun v H1 ⟨ρ1, d, M1, ge, rm1, r1, p1⟩ => ?_⟩
  refine ⟨ρ1, σ, M1, rm1, rs.mono ge, (Post.bind (R := rD X.K G) p1).imp fun w H2 ⟨ρ2, e, M2, ge2, rm2, r2, p2⟩ => ?_⟩
  cases r2 with
  | int i =>
    refine ⟨i, rfl, ρ2, σ, M2, rm2, (rs.mono ge).mono ge2, (Post.bind (R := rD X.K G) p2).imp fun u H3 ⟨ρ3, g, M3, ge3, rm3, r3, p3⟩ => ?_⟩
    cases r3 with
    | int j => exact ⟨j, rfl, ρ3, d, M3, rm3, (r1.mono ge2).mono ge3, Post.noex p3 fun _ _ => slcD_nexc _ _ _ _ _ _⟩
    | _ => exact False.elim p3
  | _ => exact False.elim p2
end
end Pw
set_option Elab.async false
set_option linter.all false
set_option maxRecDepth 100000
set_option autoImplicit false
set_option maxHeartbeats 2000000
/-! Calls of built-ins, isinstance, calls of the text's functions and methods, fields, new addresses. -/
namespace Pw
open PySem PySem.Spec PyProof.Rows L2
section
variable {T : Tb} {G : Gd} {C : Cl} {lv : Nat} {X : Cx} {sc : Scope} {N : List Str} {W : WX} {xc : Option Xc}
def CallD (K : PySem.W.Frag) (G : Gd) (g : List D → Mem → Res D) : List V → Hp → VK → Prop := fun xs H Q => ∃ ρ ds M, RM K G H ρ M ∧ Rps K G H ρ ds xs ∧ Post K G (rD K G) XF ρ H (g ds M) Q
theorem rps1 {ρ : List Addr} {H : Hp} {d : D} {xs : List V} (r : Rps X.K G H ρ [d] xs) : ∃ v, xs = [v] ∧ Rp X.K G H ρ d v := by
  cases r with
  | cons a b => cases b; exact ⟨_, rfl, a⟩
theorem rps2 {ρ : List Addr} {H : Hp} {d e : D} {xs : List V} (r : Rps X.K G H ρ [d, e] xs) : ∃ v w, xs = [v, w] ∧ Rp X.K G H ρ d v ∧ Rp X.K G H ρ e w := by
  cases r with
  | cons a b =>
    obtain ⟨w, rfl, h⟩ := rps1 b
    exact ⟨_, _, rfl, a, h⟩
theorem cl_len (A : AdrOk X G C lv) : CallR X (.builtin "len") (CallD X.K G (bltD C .len)) := by
  intro pins s σ H xs us Q I r ⟨ρ, ds, M, rm, rs, p⟩
  match ds, rs, p with
  | [], _, p => simp only [bltD] at p; exact False.elim p
  | _ :: _ :: _, _, p => simp only [bltD] at p; exact False.elim p
  | [d], rs, p =>
    obtain ⟨v, rfl, rv⟩ := rps1 rs
    have gen : Post X.K G (rD X.K G) XF ρ H (orBad ((lenD M d).map fun n => D.int n) M) Q → wpAny (model X.prog X.w) X.A (call (.builtin "len") us) (EP X pins σ Q) X.xe s := fun p => by
      cases hl : lenD M d with
      | none => rw [hl] at p; exact False.elim p
      | some n =>
        rw [hl] at p
        refine call_len pins s σ H _ us Q I r ⟨v, n, rfl, ?_, fin_int rm p⟩
        cases d with
        | str t =>
          cases rv
          simp only [lenD] at hl
          split at hl
          · cases hl; exact ⟨by rw [← lim_eq]; assumption, rfl⟩
          · cases hl
        | tup ys => cases hl; obtain ⟨a, vs, rfl, ha, hs⟩ := rv.tup_inv; exact .inr ⟨_, ha, hs.length⟩
        | lst ys => cases hl; obtain ⟨a, vs, rfl, ha, hs⟩ := rv.lst_inv; exact .inl ⟨_, ha.sql, hs.length⟩
        | ref k =>
          obtain ⟨a, rfl, hn⟩ := rv.ref_inv
          simp only [lenD] at hl
          cases hm : M[k]? with
          | none => rw [hm] at hl; cases hl
          | some o =>
            obtain ⟨b, hb, ro⟩ := rm.obj k _ hm
            rw [hn] at hb
            cases hb
            rw [hm] at hl
            cases o with
            | lst ys => cases hl; obtain ⟨vs, e, q⟩ := ro; exact .inl ⟨vs, SqL.of e, q.length⟩
            | dct _ _ => exact False.elim ro
            | ins _ _ => cases hl
        | _ => cases hl
    cases d <;> first
      | exact gen p
      | exact call_lenA A pins s σ H _ us Q I r ⟨ρ, _, M, rm, rs, p⟩
theorem cl_int : CallR X (.type "int") (CallD X.K G (bltD C .int)) := by
  intro pins s σ H xs us Q I r ⟨ρ, ds, M, rm, rs, p⟩
  match ds, rs, p with
  | [], _, p => simp only [bltD] at p; exact False.elim p
  | _ :: _ :: _, _, p => simp only [bltD] at p; exact False.elim p
  | [d], rs, p =>
    obtain ⟨v, rfl, rv⟩ := rps1 rs
    cases rv with
    | int i => exact call_int1 pins s σ H _ us Q I r (.inl ⟨i, rfl, fin_int rm p⟩)
    | bl b => exact call_int1 pins s σ H _ us Q I r (.inr ⟨b, rfl, fin_int rm p⟩)
    | _ => exact False.elim p
theorem cl_max (hc : X.calm = true) : CallR X (.builtin "max") (CallD X.K G (bltD C .max)) := by
  intro pins s σ H xs us Q I r ⟨ρ, ds, M, rm, rs, p⟩
  match ds, rs, p with
  | [], _, p => simp only [bltD] at p; exact False.elim p
  | [_], _, p => simp only [bltD] at p; exact False.elim p
  | _ :: _ :: _ :: _, _, p => simp only [bltD] at p; exact False.elim p
  | [d, e], rs, p =>
    obtain ⟨v, w, rfl, r1, r2⟩ := rps2 rs
    cases r1 <;> cases r2 <;> first
      | exact call_max2 hc pins s σ H _ us Q I r ⟨_, _, rfl, fin_int rm p⟩
      | exact False.elim p
theorem cl_min (hc : X.calm = true) : CallR X (.builtin "min") (CallD X.K G (bltD C .min)) := by
  intro pins s σ H xs us Q I r ⟨ρ, ds, M, rm, rs, p⟩
  match ds, rs, p with
  | [], _, p => simp only [bltD] at p; exact False.elim p
  | [_], _, p => simp only [bltD] at p; exact False.elim p
  | _ :: _ :: _ :: _, _, p => simp only [bltD] at p; exact False.elim p
  | [d, e], rs, p =>
    obtain ⟨v, w, rfl, r1, r2⟩ := rps2 rs
    cases r1 <;> cases r2 <;> first
      | exact call_min2 hc pins s σ H _ us Q I r ⟨_, _, rfl, fin_int rm p⟩
      | exact False.elim p
theorem cl_list : CallR X (.type "list") (CallD X.K G (bltD C .list)) := by
  intro pins s σ H xs us Q I r ⟨ρ, ds, M, rm, rs, p⟩
  match ds, rs, p with
  | [], _, p => simp only [bltD] at p; exact False.elim p
  | _ :: _ :: _, _, p => simp only [bltD] at p; exact False.elim p
  | [d], rs, p =>
    obtain ⟨v, rfl, rv⟩ := rps1 rs
    simp only [bltD] at p
    cases hi : items M d with
    | none => rw [hi] at p; exact False.elim p
    | some ys =>
      rw [hi] at p
      obtain ⟨a, vs, rfl, hq, r3⟩ := rm_any rm rv hi
      obtain ⟨_, p⟩ := new1_ok p
      exact call_list_of pins s σ H _ us Q I r ⟨a, vs, rfl, hq, fun l hl => fin_lst rm r3 p hl⟩
theorem cl_tuple : CallR X (.type "tuple") (CallD X.K G (bltD C .tuple)) := by
  intro pins s σ H xs us Q I r ⟨ρ, ds, M, rm, rs, p⟩
  match ds, rs, p with
  | [], _, p => simp only [bltD] at p; exact False.elim p
  | _ :: _ :: _, _, p => simp only [bltD] at p; exact False.elim p
  | [d], rs, p =>
    obtain ⟨v, rfl, rv⟩ := rps1 rs
    simp only [bltD] at p
    cases hi : items M d with
    | none => rw [hi] at p; exact False.elim p
    | some ys =>
      rw [hi] at p
      obtain ⟨a, vs, rfl, hq, r3⟩ := rm_any rm rv hi
      obtain ⟨_, p⟩ := tupR_ok p
      rcases hq with hq | hq
      · exact call_tuple_of pins s σ H _ us Q I r ⟨a, vs, rfl, .inl ⟨hq, fun l hl => fin_tup rm r3 p hl⟩⟩
      · exact call_tuple_of pins s σ H _ us Q I r ⟨a, vs, rfl, .inr ⟨hq, p.here rm (.tup hq r3)⟩⟩
theorem bltD_nexc (b : Blt) (ds : List D) (m : Mem) (x : Xc) (m' : Mem) : bltD C b ds m ≠ .exc x m' := by
  intro h
  unfold bltD at h
  split at h
  · rename_i y
    cases hc : callN C (C.mth C.adrC nLen) [.adr y] m with
    | ok d m1 =>
      rw [hc] at h
      simp only [Res.bind] at h
      cases d <;> simp only at h
      · cases h
      · cases h
      · split at h <;> cases h
      all_goals cases h
    | exc x m1 => exact callN_nexc hc
    | bad => rw [hc] at h; cases h
  · exact orBad_nexc h
  · cases h
  · cases h
  · cases h
  · cases h
  · split at h
    · exact new1_nexc h
    · cases h
  · split at h
    · exact tupR_nexc h
    · cases h
  · cases h
theorem s_blt (c : CtxOk T G C lv X sc N) {x : Str} {b : Blt} {es : List Expr} {xs : Exs} {p pos : Pos} (hb : isBlt T sc x = true) (ho : bltOf x = some b) (hl : es.length = bltAr b) (hn : es.all notStar = true) (ha : PA X es (tA X.K G W (evs C xc xs))) :
    PE X (.Call (.Name x p) es [] pos) (tE X.K G W (ev C xc (.blt b xs))) := by
  obtain ⟨g1, g2, g3, g4⟩ := isBlt_spec c hb
  have wk : ∀ {r : List V → Hp → VK → Prop}, (∀ xs H Q, CallD X.K G (bltD C b) xs H Q → r xs H Q) → ∀ σ H Q, tE X.K G W (ev C xc (.blt b xs)) σ H Q → tCB r (tA X.K G W (evs C xc xs)) σ H Q := fun hr σ H Q q => by
    simp only [ev] at q
    exact many_op q fun vs H1 ρ1 σ1 ds M1 rm rs r p => hr _ _ _ ⟨ρ1, ds, M1, rm, r, Post.noex p fun _ _ => bltD_nexc _ _ _ _ _⟩
  cases es with
  | nil => cases b <;> cases hl
  | cons e es =>
    simp only [List.all_cons, Bool.and_eq_true] at hn
    have h1 := star_cons (es := es) hn.1 X.env
    have h2 := star_none hn.2 pos X.env
    unfold bltOf at ho
    split at ho
    · rename_i hx; subst hx; cases ho
      exact (pe_callB (cl_len c.adr) g1 g3 (by decide +kernel) ha g4 g2 h1 h2).wk (wk fun _ _ _ h => h)
    split at ho
    · rename_i hx; subst hx; cases ho
      exact (pe_callTy cl_int g1 g3 (by decide +kernel) ha g4 g2 h1 h2).wk (wk fun _ _ _ h => h)
    split at ho
    · rename_i hx; subst hx; cases ho
      exact (pe_callB (cl_max c.calm) g1 g3 (by decide +kernel) ha g4 g2 h1 h2).wk (wk fun _ _ _ h => h)
    split at ho
    · rename_i hx; subst hx; cases ho
      exact (pe_callB (cl_min c.calm) g1 g3 (by decide +kernel) ha g4 g2 h1 h2).wk (wk fun _ _ _ h => h)
    split at ho
    · rename_i hx; subst hx; cases ho
      exact (pe_callTy cl_list g1 g3 (by decide +kernel) ha g4 g2 h1 h2).wk (wk fun _ _ _ h => h)
    split at ho
    · rename_i hx; subst hx; cases ho
      exact (pe_callTy cl_tuple g1 g3 (by decide +kernel) ha g4 g2 h1 h2).wk (wk fun _ _ _ h => h)
    cases ho
end
end Pw
set_option Elab.async false
set_option linter.all false
set_option maxRecDepth 100000
set_option autoImplicit false
set_option maxHeartbeats 2000000
/-! isinstance, calls of the text's functions and methods, fields, new addresses. -/
namespace Pw
open PySem PySem.Spec PyProof.Rows L2
section
variable {T : Tb} {G : Gd} {C : Cl} {lv : Nat} {X : Cx} {sc : Scope} {N : List Str} {W : WX} {xc : Option Xc}
/-! ### isinstance -/
def dtV (G : Gd) : DT → Value
  | .non => .type "NoneType" | .bool => .type "bool" | .int => .type "int" | .str => .type "str" | .list => .type "list" | .tuple => .type "tuple" | .dict => .type "dict" | .cls c => .ref (G.cA c)
def tyV (G : Gd) : Ty → Value
  | .int => .type "int" | .str => .type "str" | .bool => .type "bool" | .list => .type "list" | .tuple => .type "tuple" | .dict => .type "dict" | .cls c => .ref (G.cA c)
def tyW (G : Gd) : Ty → V
  | .int => .ty "int" | .str => .ty "str" | .bool => .ty "bool" | .list => .ty "list" | .tuple => .ty "tuple" | .dict => .ty "dict" | .cls c => .ref (G.cA c)
theorem tyW_rel (t : Ty) : RelV (tyW G t) (tyV G t) := by cases t <;> rfl
theorem tyW_one {t : Ty} {u : Value} (r : RelV (tyW G t) u) : u = tyV G t := by cases t <;> exact r
/-- a class's name that the text has -/
def tyOk (T : Tb) : Ty → Prop
  | .cls c => ∃ x, T.clss.lookup x = some c
  | _ => True
theorem kit_dt (c : CtxOk T G C lv X sc N) {M : Mem} {d : D} {t : DT} {ty : Ty} (h : tyD C M d = some t) (hd : t ≠ .dict) (ok : tyOk T ty) : PySem.W.kitOne X.K (dtV G t) (tyV G ty) = some (isDT C t ty) := by
  have own : ∀ s : String, s ∈ ["NoneType", "bool", "int", "str", "list", "tuple", "dict"] → ∀ k, tyOk T (.cls k) → PySem.W.kitOne X.K (.type s) (.ref (G.cA k)) = some false := fun s hs k ⟨x, hx⟩ => c.kitB s x k hs hx
  cases t with
  | cls k =>
    have hk : k = G.adrC := by
      cases d <;> simp only [tyD] at h <;> try (cases h)
      · split at h <;> cases h
      · exact c.adr.adrC
    subst hk
    cases ty with
    | cls c' => obtain ⟨x, hx⟩ := ok; exact c.kitC x c' hx
    | int => exact c.kitA "int" (by decide)
    | str => exact c.kitA "str" (by decide)
    | bool => exact c.kitA "bool" (by decide)
    | list => exact c.kitA "list" (by decide)
    | tuple => exact c.kitA "tuple" (by decide)
    | dict => exact c.kitA "dict" (by decide)
  | dict => exact absurd rfl hd
  | non => cases ty <;> first | exact own _ (by decide) _ ok | exact kit_ty (r := true) (by decide +kernel) | exact kit_ty (r := false) (by decide +kernel)
  | bool => cases ty <;> first | exact own _ (by decide) _ ok | exact kit_ty (r := true) (by decide +kernel) | exact kit_ty (r := false) (by decide +kernel)
  | int => cases ty <;> first | exact own _ (by decide) _ ok | exact kit_ty (r := true) (by decide +kernel) | exact kit_ty (r := false) (by decide +kernel)
  | str => cases ty <;> first | exact own _ (by decide) _ ok | exact kit_ty (r := true) (by decide +kernel) | exact kit_ty (r := false) (by decide +kernel)
  | list => cases ty <;> first | exact own _ (by decide) _ ok | exact kit_ty (r := true) (by decide +kernel) | exact kit_ty (r := false) (by decide +kernel)
  | tuple => cases ty <;> first | exact own _ (by decide) _ ok | exact kit_ty (r := true) (by decide +kernel) | exact kit_ty (r := false) (by decide +kernel)
/-- what isinstance asks of a value -/
theorem kit_D (c : CtxOk T G C lv X sc N) {pins : List (Addr × Obj)} {s : Shared} {σ : VS} {H : Hp} {ρ : List Addr} {M : Mem} {d : D} {v : V} {u : Value} {t : DT} (I : Inv X pins σ H s) (rm : RM X.K G H ρ M) (r : Rp X.K G H ρ d v) (ru : RelV v u) (h : tyD C M d = some t) :
    t ≠ .dict ∧ ∃ P : Heap → Prop, PySem.W.KitX X.K u (dtV G t) P ∧ P s.heap ∧ u ≠ .builtin "__main__.__loader__#opaque" := by
  have base : ∀ {tv : Value}, TyX X.K H v tv → ∃ P : Heap → Prop, PySem.W.KitX X.K u tv P ∧ P s.heap ∧ u ≠ .builtin "__main__.__loader__#opaque" := fun ty => kit_of I ru ty
  have seqL : ∀ {a : Addr} {vs : List V}, SqL X.K H a vs → TyX X.K H (.ref a) (.type "list") := fun {a vs} q => by
    rcases q with (q | ⟨o, q⟩) | ⟨o, its, n, q, hc, _⟩
    · exact .base (.lst q)
    · exact .base (.frz q)
    · exact .kList q hc
  cases d with
  | non => cases h; cases r; exact ⟨by decide, base (.base .non)⟩
  | bl b => cases h; cases r; exact ⟨by decide, base (.base (.bl b))⟩
  | int i => cases h; cases r; exact ⟨by decide, base (.base (.int i))⟩
  | str t => cases h; cases r; exact ⟨by decide, base (.base (.str t))⟩
  | tup ds =>
    cases h
    obtain ⟨a, vs, rfl, q, _⟩ := r.tup_inv
    refine ⟨by decide, base ?_⟩
    rcases q with (q | ⟨o, q⟩) | ⟨o, its, n, q, hc, _⟩
    · exact .base (.tup q)
    · exact .fTuple q
    · exact .kTuple q hc
  | lst ys =>
    cases h
    obtain ⟨a, vs, rfl, q, _⟩ := r.lst_inv
    exact ⟨by decide, base (seqL q.sql)⟩
  | ref k =>
    obtain ⟨a, rfl, hn⟩ := r.ref_inv
    simp only [tyD] at h
    cases hm : M[k]? with
    | none => rw [hm] at h; cases h
    | some o =>
      obtain ⟨b, hb, ro⟩ := rm.obj k _ hm
      rw [hn] at hb
      cases hb
      rw [hm] at h
      cases o with
      | lst ys => cases h; obtain ⟨vs, e, q⟩ := ro; exact ⟨by decide, base (seqL (SqL.of e))⟩
      | dct _ _ => cases h
      | ins _ _ => cases h
  | adr y =>
    cases h
    obtain ⟨a, dx, w, rfl, q, _⟩ := r.adr_inv
    cases ru
    obtain ⟨sl, od, _, J, _⟩ := SlX.slt_inst I q
    refine ⟨by simp, ?_⟩
    have e : dtV G (.cls C.adrC) = .ref (G.cA G.adrC) := by rw [c.adr.adrC]; rfl
    rw [e]
    exact ⟨_, OwX.kitx_slt c.adr.cls.ic (c.adr.cls.get _) c.sisi.ca c.sisi.cn c.sisi.ct c.sisi.cm, J, fun z => nomatch z⟩
  | fn f => cases h
theorem kit_all (c : CtxOk T G C lv X sc N) {M : Mem} {d : D} {t : DT} (h : tyD C M d = some t) (hd : t ≠ .dict) : ∀ (ts : List Ty), (∀ ty ∈ ts, tyOk T ty) → PySem.W.kitAny X.K (dtV G t) (ts.map (tyV G)) = some (ts.any (isDT C t))
  | [], _ => rfl
  | ty :: r, ok => by
    have h1 := kit_dt c (ty := ty) h hd (ok ty List.mem_cons_self)
    have ih := kit_all c h hd r fun z hz => ok z (List.mem_cons_of_mem _ hz)
    refine kitAny_cons h1 (fun e => ?_) (fun e => ?_)
    · rw [ih]
      simp [e]
    · simp [e]
/-- isinstance(x, c) -/
theorem cl_isi1 (c : CtxOk T G C lv X sc N) {ty : Ty} (ok : tyOk T ty) : CallR X (.builtin "isinstance") (fun xs H Q => ∃ ρ d M x, xs = [x, tyW G ty] ∧ RM X.K G H ρ M ∧ Rp X.K G H ρ d x ∧ Post X.K G (rD X.K G) XF ρ H (match tyD C M d with
    | some t => .ok (.bl (([ty] : List Ty).any (isDT C t))) M
    | none => .bad) Q) := by
  intro pins s σ H xs us Q I r ⟨ρ, d, M, x, e, rm, rx, p⟩
  subst e
  obtain ⟨u1, u2, rfl, r1, r2⟩ := r.two
  cases tyW_one r2
  cases ht : tyD C M d with
  | none => rw [ht] at p; exact False.elim p
  | some t =>
    rw [ht] at p
    obtain ⟨hd, P, k1, k2, k3⟩ := kit_D c I rm rx r1 ht
    refine PySem.W.kia_one k1 I.kIn k2 (kit_dt c ht hd ok) k3 fun tk => ⟨.bl _, H, I.tok _, rfl, ?_⟩
    have := fin_bl rm p
    simpa using this
theorem tys_vals : ∀ (ts : List Ty) (its : List Value), Vals (ts.map (tyW G)) its → its = ts.map (tyV G)
  | [], _, .nil => rfl
  | ty :: tr, _, .cons a b => by
    rw [tyW_one a, tys_vals tr _ b]
    rfl
/-- isinstance(x, (c, ..)) -/
theorem cl_isiN (c : CtxOk T G C lv X sc N) {ts : List Ty} (ok : ∀ ty ∈ ts, tyOk T ty) : CallR X (.builtin "isinstance") (fun xs H Q => ∃ ρ d M x tp, xs = [x, .ref tp] ∧ H tp = some (.tup (ts.map (tyW G))) ∧ RM X.K G H ρ M ∧ Rp X.K G H ρ d x ∧ Post X.K G (rD X.K G) XF ρ H (match tyD C M d with
    | some t => .ok (.bl (ts.any (isDT C t))) M
    | none => .bad) Q) := by
  intro pins s σ H xs us Q I r ⟨ρ, d, M, x, tp, e, hT, rm, rx, p⟩
  subst e
  obtain ⟨u1, u2, rfl, r1, r2⟩ := r.two
  cases (show u2 = Value.ref tp from r2)
  cases ht : tyD C M d with
  | none => rw [ht] at p; exact False.elim p
  | some t =>
    rw [ht] at p
    obtain ⟨hd, P, k1, k2, k3⟩ := kit_D c I rm rx r1 ht
    obtain ⟨_, its, rv, o, h1, h2, n, h3⟩ := (show ObjOk X.prog X.w H s.heap tp (.tup (ts.map (tyW G))) from I.hok tp _ hT)
    have e3 : its = ts.map (tyV G) := tys_vals ts its rv
    subst e3
    obtain ⟨oc, od, dt, sl⟩ := o
    simp only at h2 h3
    subst h2 h3
    exact PySem.W.kia_tup k1 I.kIn k2 h1 (kit_all c ht hd ts ok) k3 fun tk => ⟨.bl _, H, I.tok tk, rfl, fin_bl rm p⟩
theorem tyOf_spec (c : CtxOk T G C lv X sc N) {x : Str} {ty : Ty} {p : Pos} (h : tyOf T sc x = some ty) : tyOk T ty ∧ PE X (.Name x p) (tC (tyW G ty)) := by
  unfold tyOf at h
  split at h
  · rename_i hb
    obtain ⟨g1, g2, g3, g4⟩ := isBlt_spec c hb
    split at h
    · rename_i hx; subst hx; cases h; exact ⟨trivial, pe_bltn g1 g3 (by decide +kernel) rfl g4 g2⟩
    split at h
    · rename_i hx; subst hx; cases h; exact ⟨trivial, pe_bltn g1 g3 (by decide +kernel) rfl g4 g2⟩
    split at h
    · rename_i hx; subst hx; cases h; exact ⟨trivial, pe_bltn g1 g3 (by decide +kernel) rfl g4 g2⟩
    split at h
    · rename_i hx; subst hx; cases h; exact ⟨trivial, pe_bltn g1 g3 (by decide +kernel) rfl g4 g2⟩
    split at h
    · rename_i hx; subst hx; cases h; exact ⟨trivial, pe_bltn g1 g3 (by decide +kernel) rfl g4 g2⟩
    split at h
    · rename_i hx; subst hx; cases h; exact ⟨trivial, pe_bltn g1 g3 (by decide +kernel) rfl g4 g2⟩
    cases h
  · split at h
    · rename_i hg
      obtain ⟨g1, g2⟩ := isGl_spec c hg
      cases hl : T.clss.lookup x with
      | none => rw [hl] at h; cases h
      | some k =>
        rw [hl] at h
        cases h
        exact ⟨⟨x, hl⟩, pe_glob g1 (c.clss x k hl) rfl g2⟩
    · cases h
theorem tysOf_spec (c : CtxOk T G C lv X sc N) : ∀ (es : List Expr) (ts : List Ty), tysOf T sc es = some ts → (∀ ty ∈ ts, tyOk T ty) ∧ PA X es (fun σ H Q => Q (ts.map (tyW G)) H)
  | [], ts, h => by
    simp only [tysOf, Option.some.injEq] at h
    subst h
    exact ⟨(fun _ z => by cases z), pa_nil⟩
  | e :: r, ts, h => by
    cases e with
    | Name x p =>
      simp only [tysOf, Option.bind_eq_some_iff, Option.map_eq_some_iff] at h
      obtain ⟨ty, h1, tr, h2, rfl⟩ := h
      obtain ⟨o1, q1⟩ := tyOf_spec c (p := p) h1
      obtain ⟨o2, q2⟩ := tysOf_spec c r tr h2
      refine ⟨fun z hz => ?_, (pa_cons q1 q2).wk fun σ H Q q => q⟩
      rcases List.mem_cons.mp hz with rfl | hz
      · exact o1
      · exact o2 z hz
    | _ => simp [tysOf] at h
theorem isi_nexc {d : D} {M : Mem} {ts : List Ty} (x : Xc) (m : Mem) : (match tyD C M d with
    | some t => Res.ok (D.bl (ts.any (isDT C t))) M
    | none => (Res.bad : Res D)) ≠ .exc x m := by
  intro h
  split at h <;> cases h
theorem s_isi1 (c : CtxOk T G C lv X sc N) {a : Expr} {y : Ex} {t : Str} {ty : Ty} {p p2 pos : Pos} (hb : isBlt T sc "isinstance" = true) (hn : notStar a = true) (ha : PE X a (tE X.K G W (ev C xc y))) (ht : tyOf T sc t = some ty) :
    PE X (.Call (.Name "isinstance" p) [a, .Name t p2] [] pos) (tE X.K G W (ev C xc (.isi y [ty]))) := by
  obtain ⟨g1, g2, g3, g4⟩ := isBlt_spec c hb
  obtain ⟨o, q⟩ := tyOf_spec c (p := p2) ht
  refine (pe_callB (cl_isi1 c o) g1 g3 (by decide +kernel) (pa_cons ha (pa_cons q pa_nil) (star_cons hn _)) g4 g2 (star_cons hn _) rfl).wk fun σ H Q h => ?_
  simp only [ev] at h
  refine one_op h fun v H1 ρ1 σ1 d M1 rm rs r1 p => ?_
  exact ⟨ρ1, d, M1, v, rfl, rm, r1, Post.noex p isi_nexc⟩
theorem s_isiN (c : CtxOk T G C lv X sc N) {a : Expr} {y : Ex} {es : List Expr} {ts : List Ty} {k : Nat} {p p2 pos : Pos} (hb : isBlt T sc "isinstance" = true) (hn : notStar a = true) (ha : PE X a (tE X.K G W (ev C xc y))) (ht : tysOf T sc es = some ts) (hz : ts.length ≤ 20) :
    PE X (.Call (.Name "isinstance" p) [a, .Tuple es k p2] [] pos) (tE X.K G W (ev C xc (.isi y ts))) := by
  obtain ⟨g1, g2, g3, g4⟩ := isBlt_spec c hb
  obtain ⟨o, q⟩ := tysOf_spec c es ts ht
  refine (pe_callB (cl_isiN c o) g1 g3 (by decide +kernel) (pa_cons ha (pa_cons (pe_tup q) pa_nil) (star_cons hn _)) g4 g2 (star_cons hn _) rfl).wk fun σ H Q h => ?_
  simp only [ev] at h
  refine one_op h fun v H1 ρ1 σ1 d M1 rm rs r1 p => ?_
  refine ⟨?_, fun tp htp => ?_⟩
  · rw [List.length_map, ← lim_eq]
    exact Nat.le_trans hz (by decide)
  · exact ⟨ρ1, d, M1, v, tp, rfl, upd_same, rm.fresh htp, r1.mono (Ge.fresh htp), Post.ge (Post.noex p isi_nexc) (Ge.fresh htp)⟩
end
end Pw
set_option Elab.async false
set_option linter.all false
set_option maxRecDepth 100000
set_option autoImplicit false
set_option maxHeartbeats 2000000
/-! Calls of the text's functions and methods, fields, new addresses. -/
namespace Pw
open PySem PySem.Spec PyProof.Rows L2
section
variable {T : Tb} {G : Gd} {C : Cl} {lv : Nat} {X : Cx} {sc : Scope} {N : List Str} {W : WX} {xc : Option Xc}
theorem evs_app : ∀ (xs : Exs) (dd : List D) (σ : Sg) (m : Mem), evs C xc (appEs xs dd) σ m = (evs C xc xs σ m).bind fun ds m => .ok (ds ++ dd) m
  | .nil, ds, σ, m => by
    simp only [appEs, evs, Res.bind, List.nil_append]
    induction ds with
    | nil => rfl
    | cons d ds ih =>
      simp only [cstEs, evs, ev, Res.bind]
      rw [ih]
  | .cons s e es, ds, σ, m => by
    simp only [appEs, evs]
    cases h : ev C xc e σ m with
    | ok d m1 =>
      simp only [Res.bind]
      cases s with
      | false =>
        simp only
        rw [evs_app es ds σ m1]
        cases evs C xc es σ m1 <;> simp [Res.bind]
      | true =>
        simp only
        cases items m1 d with
        | none => rfl
        | some ys =>
          simp only
          rw [evs_app es ds σ m1]
          cases evs C xc es σ m1 <;> simp [Res.bind]
    | exc x m1 => rfl
    | bad => rfl
theorem s_call (c : CtxOk T G C lv X sc N) (tk : Takes X W) {x : Str} {f a : Nat} {ds : List D} {es : List Expr} {xs : Exs} {p pos : Pos} (hg : isGl sc x = true) (hf : T.fns.lookup x = some f) (h1 : T.ar f = some a) (h2 : T.dfl f = some ds)
    (hl : a - es.length ≤ ds.length) (hne : es ≠ []) (hn : es.all notStar = true) (ha : PA X es (tA X.K G W (evs C xc xs))) :
    PE X (.Call (.Name x p) es [] pos) (tE X.K G W (ev C xc (.call f (appEs xs (ds.drop (ds.length - (a - es.length))))))) := by
  obtain ⟨g1, g2⟩ := isGl_spec c hg
  obtain ⟨fd, ps, hps, F, kp, hb⟩ := c.fni f a ds h1 h2
  obtain ⟨dv, us, v1, b1, r1⟩ := hb _ hl
  cases es with
  | nil => exact absurd rfl hne
  | cons e es =>
    simp only [List.all_cons, Bool.and_eq_true] at hn
    refine (pe_callSD (E := WE W) F (c.adr.room.mono (by omega)) g1 (c.fns x f hf) kp b1 v1 (fun σ => L2.passAt tk σ) ha g2 (star_cons hn.1 _) (star_none hn.2 _ _)).wk fun σ H Q h => ?_
    simp only [ev, evs_app] at h
    have e1 : ∀ (σ : Sg) (m : Mem), ((evs C xc xs σ m).bind fun d m => Res.ok (d ++ ds.drop (ds.length - (a - (e :: es).length))) m).bind (fun ds m => C.call f ds m) = (evs C xc xs σ m).bind fun d m => C.call f (d ++ ds.drop (ds.length - (a - (e :: es).length))) m := fun σ m => by
      cases evs C xc xs σ m <;> rfl
    simp only [e1] at h
    exact many_op h fun vs H1 ρ1 σ1 d1 M1 rm rs r p => ⟨ρ1, _, M1, rm, r.append (r1 H1 ρ1), p⟩
/-! ### methods -/
theorem meth_eval {o : Expr} {m : Str} {apos pos : Pos} {es : List Expr} {env : Env} (ho : notSuper o = true) (hn : es.all notStar = true) (hz : es.length < 20) (hl : (apos.endLine == pos.line) = true) :
    eval (.Call (.Attribute o m apos) es [] pos) env = (do
      let ov ← eval o env
      standAt apos.atName
      let (f, first) ← holding [ov] (getMethod ov m (plainOf o env))
      callWith pos f first (backTo pos (starEach es env)) (backToKw pos (keywordEach [] env))) := by
  have e1 : eval (.Call (.Attribute o m apos) es [] pos) env = (do
      let ov ← attributeBase o m env (eval o env)
      standAt apos.atName
      methodCall o m apos pos env ov (es.length + ([] : List Keyword).length) (backTo pos (starEach es env)) (backToKw pos (keywordEach [] env))) := by rw [eval]
  have hf : methodCallForm (es.length + ([] : List Keyword).length) (backTo pos (starEach es env)) (backToKw pos (keywordEach [] env)) = true := by
    unfold methodCallForm
    have h1 : (backTo pos (starEach es env)).all (!·.1) = true := by
      clear e1 hz
      induction es with
      | nil => rfl
      | cons e r ih =>
        simp only [List.all_cons, Bool.and_eq_true] at hn
        rw [star_cons hn.1]
        show (true && (backTo pos (starEach r env)).all (!·.1)) = true
        rw [ih hn.2]
        rfl
    rw [h1]
    have h2 : decide (es.length + ([] : List Keyword).length + (if (backToKw pos (keywordEach [] env)).isEmpty then 0 else 1) < 30) = true := by
      refine decide_eq_true ?_
      show es.length + 0 + 0 < 30
      omega
    rw [h2]
    rfl
  rw [e1, attr_base ho]
  congr 1
  funext ov
  rw [mcall_line hf hl]
/-- a method of the text is called: f of o and the arguments -/
theorem run_meth (c : CtxOk T G C lv X sc N) (tk : Takes X W) {pins : List (Addr × Obj)} {s : Shared} {σv : VS} {H : Hp} {Q : VK} {f : Nat} {ρ : List Addr} {ds : List D} {M : Mem} {us : List Value} {vs : List V} (I : Inv X pins σv H s) (r : Vals vs us)
    (F : FnR X.prog X.w X.K X.mg X.base (L2.CX X.prog X.w) lv (G.fA f) (spN X.K G C.call f)) (rm : RM X.K G H ρ M) (rs : Rps X.K G H ρ ds vs) (p : Post X.K G (rD X.K G) (fun c d H' => W c d σv H') ρ H (C.call f ds M) Q) :
    wpAny (model X.prog X.w) X.A (call (.ref (G.fA f)) us) (EP X pins σv Q) X.xe s := by
  refine wpAny_call (codeAny_mono (F X.A X.stack s H us vs Q (fun c d H' => W c d σv H') (c.adr.room.mono (by omega)) I.env0 r ⟨ρ, ds, M, rm, rs, p⟩) fun r s' hq => ?_)
  cases r with
  | error e => exact (L2.passAt tk σv) pins H s e s' I hq
  | ok fl =>
    cases fl with
    | ret u => exact I.after hq
    | next => exact False.elim hq
    | brk => exact False.elim hq
    | cont => exact False.elim hq
theorem callM_ok {K : PySem.W.Frag} {ρ : List Addr} {H : Hp} {o : Option Nat} {ds : List D} {M : Mem} {Q : VK} {E : XK} (p : Post K G (rD K G) E ρ H (callM C o ds M) Q) : ∃ f, o = some f ∧ Post K G (rD K G) E ρ H (C.call f ds M) Q := by
  unfold callM at p
  cases o with
  | none => exact False.elim p
  | some f => exact ⟨f, rfl, p⟩
/-- a callee and its first values, called with the arguments that are written -/
theorem args_run {pos : Pos} {pins : List (Addr × Obj)} {s : Shared} {σv : VS} {H : Hp} {Q' : Value → Shared → Prop} {es : List Expr} {xs : Exs} (ha : PA X es (tA X.K G W (evs C xc xs))) (hnil : es = [] → xs = .nil) (hn : es.all notStar = true) {fv : Value} {first : List Value}
    (kp : PySem.W.keepIn X.K fv = true ∨ ∃ id, fv = .builtin id) (I : Inv X pins σv H s) {ρ : List Addr} {σ : Sg} {M : Mem} (rm : RM X.K G H ρ M) (rs : Rs X.K G H ρ σ σv) {β γ : Type} {R : Rel β γ} {g : List D → Mem → Res β} {Q : γ → Hp → Prop} (p : Post X.K G R (fun c d H' => W c d σv H') ρ H ((evs C xc xs σ M).bind g) Q)
    (fin : ∀ vs us s2 H2 ρ2 ds M2, Inv X pins σv H2 s2 → Vals vs us → Ge X.K G ρ H ρ2 H2 → RM X.K G H2 ρ2 M2 → Rps X.K G H2 ρ2 ds vs → Post X.K G R (fun c d H' => W c d σv H') ρ2 H2 (g ds M2) Q → wpAny (model X.prog X.w) X.A (call fv (first ++ us)) Q' X.xe s2) :
    wpAny (model X.prog X.w) X.A (callWith pos fv first (backTo pos (starEach es X.env)) (backToKw pos (keywordEach [] X.env))) Q' X.xe s := by
  cases es with
  | nil =>
    have hx := hnil rfl
    subst hx
    simp only [evs, Res.bind] at p
    have f0 := fin [] [] s H ρ [] M I .nil Ge.refl rm .nil p
    rcases kp with kp | ⟨id, rfl⟩
    · exact PySem.W.callWith_K0 (first := first) I.kIn kp f0
    · exact Calls.callWith_builtin rfl (PySem.evalArgs_none f0)
  | cons e es =>
    simp only [List.all_cons, Bool.and_eq_true] at hn
    have run : wpAny (model X.prog X.w) X.A (spliced (backTo pos (starEach (e :: es) X.env))) (AP X pins σv fun vs H2 => ∃ ρ2 ds M2, Ge X.K G ρ H ρ2 H2 ∧ RM X.K G H2 ρ2 M2 ∧ Rps X.K G H2 ρ2 ds vs ∧ Post X.K G R (fun c d H' => W c d σv H') ρ2 H2 (g ds M2) Q) X.xe s :=
      ha.run pos pins s σv H _ I ⟨ρ, σ, M, rm, rs, (Post.bind (R := rL X.K G) p).imp fun vs H2 ⟨ρ2, ds, M2, g2, rm2, r2, p2⟩ => ⟨ρ2, ds, M2, g2, rm2, r2, p2⟩⟩
    rcases kp with kp | ⟨id, rfl⟩
    · refine PySem.W.callWith_K (first := first) (h₀ := X.base) I.ok.mod.kin kp (thn run fun us s2 ⟨vs, H2, I2, r, ρ2, ds, M2, g2, rm2, r2, p2⟩ => ⟨I2.kIn, ?_⟩) (star_cons hn.1 _) (star_none hn.2 _ _)
      exact fin vs us s2 H2 ρ2 ds M2 I2 r g2 rm2 r2 p2
    · rw [star_cons hn.1] at run ⊢
      refine Calls.callWith_builtin (by show (false || (backTo pos (starEach es X.env)).any (·.1)) = false; rw [star_none hn.2]; rfl) (Calls.evalArgs_plain ?_)
      exact thn run fun us s2 ⟨vs, H2, I2, r, ρ2, ds, M2, g2, rm2, r2, p2⟩ => fin vs us s2 H2 ρ2 ds M2 I2 r g2 rm2 r2 p2
/-! ### methods of lists -/
abbrev BmR (X : Cx) (G : Gd) (b : BM) : V → List V → Hp → VK → Prop := fun v vs H Q => ∃ ρ o ds M, RM X.K G H ρ M ∧ Rp X.K G H ρ o v ∧ Rps X.K G H ρ ds vs ∧ Post X.K G (rD X.K G) XF ρ H (bmD b o ds M) Q
theorem MtM.wk {id : String} {r r' : V → List V → Hp → VK → Prop} (h : MtM X id r) (i : ∀ v vs H Q, r' v vs H Q → r v vs H Q) : MtM X id r' := fun pins s σ H x vs v us Q I rx rv q => h pins s σ H x vs v us Q I rx rv (i _ _ _ _ q)
/-- a list of the store is written -/
theorem fin_put {H : Hp} {ρ : List Addr} {M : Mem} {n : Nat} {a : Addr} {vs ws : List V} {ds : List D} (rm : RM X.K G H ρ M) (ha : ρ[n]? = some a) (hH : H a = some (.lst vs)) (r : Rps X.K G H ρ ds ws) :
    Ge X.K G ρ H ρ (upd H a (.lst ws)) ∧ RM X.K G (upd H a (.lst ws)) ρ (M.set n (.lst ds)) :=
  ⟨Ge.write hH (.inl ⟨_, rfl⟩), rm.write ha hH (.inl ⟨_, rfl⟩) ⟨ws, upd_same, r.mono (Ge.write hH (.inl ⟨_, rfl⟩))⟩⟩
theorem Rps.dropLast {K : PySem.W.Frag} {H : Hp} {ρ : List Addr} : ∀ {ds : List D} {vs : List V}, Rps K G H ρ ds vs → Rps K G H ρ ds.dropLast vs.dropLast
  | _, _, .nil => .nil
  | _, _, .cons _ .nil => .nil
  | _, _, .cons r (.cons q t) => .cons r (Rps.dropLast (.cons q t))
theorem Rps.reverse {K : PySem.W.Frag} {H : Hp} {ρ : List Addr} : ∀ {ds : List D} {vs : List V}, Rps K G H ρ ds vs → Rps K G H ρ ds.reverse vs.reverse
  | _, _, .nil => .nil
  | _, _, .cons r t => by
    rw [List.reverse_cons, List.reverse_cons]
    exact (Rps.reverse t).append (.cons r .nil)
theorem lst_at {H : Hp} {ρ : List Addr} {M : Mem} {n : Nat} {ys : List D} {v : V} (rm : RM X.K G H ρ M) (r : Rp X.K G H ρ (.ref n) v) (hm : M[n]? = some (.lst ys)) : ∃ a vs, v = .ref a ∧ ρ[n]? = some a ∧ H a = some (.lst vs) ∧ Rps X.K G H ρ ys vs := by
  obtain ⟨a, rfl, ha⟩ := r.ref_inv
  obtain ⟨a', ha', ro⟩ := rm.obj n _ hm
  rw [ha] at ha'
  cases ha'
  obtain ⟨vs, e, q⟩ := ro
  exact ⟨a, vs, rfl, ha, e, q⟩
theorem mtD_append : MtM X "list.append" (BmR X G .append) := MtM.wk mt_append fun v vs H Q ⟨ρ, o, ds, M, rm, ro, rv, p⟩ => by
  cases o with
  | ref n =>
    cases rv with
    | nil => exact False.elim p
    | cons r1 t =>
      cases t with
      | cons _ _ => exact False.elim p
      | nil =>
        simp only [bmD] at p
        split at p
        · rename_i xs hm
          split at p
          · rename_i hl
            obtain ⟨a, ws, rfl, ha, e, q⟩ := lst_at rm ro hm
            have q1 : Rps X.K G H ρ (xs ++ [_]) (ws ++ [_]) := q.append (.cons r1 .nil)
            obtain ⟨g, rm2⟩ := fin_put rm ha e q1
            exact ⟨a, ws, _, rfl, rfl, e, by rw [← lim_eq, ← q.length]; exact hl, p ρ _ _ g rm2 .non⟩
          · exact False.elim p
        · exact False.elim p
  | _ => exact False.elim p
theorem mtD_extend : MtM X "list.extend" (BmR X G .extend) := MtM.wk mt_extend fun v vs H Q ⟨ρ, o, ds, M, rm, ro, rv, p⟩ => by
  cases o with
  | ref n =>
    cases rv with
    | nil => exact False.elim p
    | @cons d w _ _ r1 t =>
      cases t with
      | cons _ _ => cases d <;> exact False.elim p
      | nil =>
        cases d with
        | ref k =>
          simp only [bmD] at p
          split at p
          · rename_i xs ys hm hm2
            split at p
            · rename_i hl
              obtain ⟨a, ws, rfl, ha, e, q⟩ := lst_at rm ro hm
              obtain ⟨b, us, rfl, hb, e2, q2⟩ := lst_at rm r1 hm2
              obtain ⟨g, rm2⟩ := fin_put rm ha e (q.append q2)
              exact ⟨a, b, ws, us, rfl, rfl, e, e2, by rw [← lim_eq, ← q.length, ← q2.length]; exact hl, p ρ _ _ g rm2 .non⟩
            · exact False.elim p
          · exact False.elim p
        | _ => exact False.elim p
  | _ => exact False.elim p
theorem mtD_pop : MtM X "list.pop" (BmR X G .pop) := MtM.wk mt_pop fun v vs H Q ⟨ρ, o, ds, M, rm, ro, rv, p⟩ => by
  cases o with
  | ref n =>
    cases rv with
    | cons _ _ => exact False.elim p
    | nil =>
      simp only [bmD] at p
      split at p
      · rename_i xs hm
        split at p
        · rename_i d hd
          obtain ⟨a, ws, rfl, ha, e, q⟩ := lst_at rm ro hm
          obtain ⟨y, hy, ry⟩ := q.get hd
          rw [q.length] at hy
          obtain ⟨g, rm2⟩ := fin_put rm ha e q.dropLast
          exact ⟨a, ws, y, rfl, rfl, e, hy, p ρ _ _ g rm2 (ry.mono g)⟩
        · exact False.elim p
      · exact False.elim p
  | _ => exact False.elim p
theorem mtD_reverse : MtM X "list.reverse" (BmR X G .reverse) := MtM.wk mt_reverse fun v vs H Q ⟨ρ, o, ds, M, rm, ro, rv, p⟩ => by
  cases o with
  | ref n =>
    cases rv with
    | cons _ _ => exact False.elim p
    | nil =>
      simp only [bmD] at p
      split at p
      · rename_i xs hm
        obtain ⟨a, ws, rfl, ha, e, q⟩ := lst_at rm ro hm
        obtain ⟨g, rm2⟩ := fin_put rm ha e q.reverse
        exact ⟨a, ws, rfl, rfl, e, p ρ _ _ g rm2 .non⟩
      · exact False.elim p
  | _ => exact False.elim p
theorem bmOf_spec (c : CtxOk T G C lv X sc N) {k : Nat} {b : BM} (h : bmOf k = some b) : ∃ id, Slot "list" (G.nm k) id ∧ typeOf (.builtin id) = pure (.type "method_descriptor") ∧ MtM X id (BmR X G b) := by
  unfold bmOf at h
  split at h
  · cases h
    subst_vars
    exact ⟨"list.append", by rw [c.nAppend]; exact PySem.F.slot_list_append, rfl, mtD_append⟩
  split at h
  · cases h
    subst_vars
    exact ⟨"list.extend", by rw [c.nExtend]; exact PySem.F.slot_list_extend, rfl, mtD_extend⟩
  split at h
  · cases h
    subst_vars
    exact ⟨"list.pop", by rw [c.nPop]; exact PySem.F.slot_list_pop, rfl, mtD_pop⟩
  split at h
  · cases h
    subst_vars
    exact ⟨"list.reverse", by rw [c.nReverse]; exact PySem.F.slot_list_reverse, rfl, mtD_reverse⟩
  · cases h
theorem bmD_nexc {b : BM} {o : D} {ds : List D} {m m' : Mem} {x : Xc} : bmD b o ds m ≠ .exc x m' := by
  intro h
  unfold bmD at h
  split at h <;> first
    | cases h
    | (split at h <;> first | cases h | (split at h <;> cases h))
theorem s_met (c : CtxOk T G C lv X sc N) (tk : Takes X W) {o : Expr} {m : Str} {k : Nat} {x : Ex} {es : List Expr} {xs : Exs} {apos pos : Pos} (ho : notSuper o = true) (hn : es.all notStar = true) (hz : es.length < 20) (hl : (apos.endLine == pos.line) = true)
    (hk : ixS m T.nms 0 = some k) (he : PE X o (tE X.K G W (ev C xc x))) (ha : PA X es (tA X.K G W (evs C xc xs))) (hnil : es = [] → xs = .nil) : PE X (.Call (.Attribute o m apos) es [] pos) (tE X.K G W (ev C xc (.met k x xs))) := by
  refine ⟨fun pins s σ H Q I h => ?_⟩
  obtain ⟨ρ, σ1, M, rm, rs, p⟩ := h
  simp only [ev] at p
  refine PySem.W.methodCall_KW (pl := plainOf o X.env) (thn (he.run pins s σ H _ I ⟨ρ, σ1, M, rm, rs, (Post.bind (R := rD X.K G) p).imp fun v H1 z => z⟩) fun u s1 ⟨v, H1, I1, r1, ρ1, d, M1, ge, rm1, rd, p1⟩ => ?_) (meth_eval ho hn hz hl)
  have rs1 := rs.mono ge
  have nm := c.nms _ _ hk
  cases hr : rcv C k d M1 with
  | none => rw [hr] at p1; exact False.elim p1
  | some r =>
    rw [hr] at p1
    cases d with
    | adr y =>
      simp only [rcv, Option.map_eq_some_iff] at hr
      obtain ⟨f, hf, rfl⟩ := hr
      rw [c.adr.adrC] at hf
      obtain ⟨h1, h2, h3, F⟩ := c.adr.mth k f hf
      rw [nm] at h1
      obtain ⟨a, dx, w, rfl, sl, rw1⟩ := rd.adr_inv
      cases (show u = Value.ref a from r1)
      refine SlX.getmethsl_ok I1 sl c.adr.cls ⟨h1, h2, h3⟩ ?_
      refine args_run ha hnil hn (.inl h3) I1 rm1 rs1 p1 fun vs us s2 H2 ρ2 ds M2 I2 rv g2 rm2 r2 p2 => ?_
      exact run_meth (ds := .adr y :: ds) (vs := .ref a :: vs) c tk I2 (.cons rfl rv) F rm2 (.cons (rd.mono g2) r2) p2
    | ref n =>
      simp only [rcv] at hr
      obtain ⟨a, rfl, ha1⟩ := rd.ref_inv
      cases (show u = Value.ref a from r1)
      cases hm : M1[n]? with
      | none => rw [hm] at hr; cases hr
      | some ob =>
        rw [hm] at hr
        obtain ⟨a', ha2, ro⟩ := rm1.obj n ob hm
        rw [ha1] at ha2
        cases ha2
        cases ob with
        | ins c' fs =>
          dsimp only at hr
          cases hfl : fs.lookup k with
          | some z => rw [hfl] at hr; cases hr
          | none =>
            rw [hfl] at hr
            dsimp only at hr
            split at hr
            · cases hr
            rename_i hne
            rw [c.adr.adrC] at hne
            simp only [Option.map_eq_some_iff] at hr
            obtain ⟨f, hf, rfl⟩ := hr
            obtain ⟨cl, me, F⟩ := c.mthI c' k f hf hne
            obtain ⟨dx, fs', e1, el, q⟩ := ro
            have qk := q k
            rw [hfl, nm] at qk
            rw [nm] at me
            refine getmeth_ok I1 e1 cl me qk ?_
            refine args_run ha hnil hn (.inl me.kp) I1 rm1 rs1 p1 fun vs us s2 H2 ρ2 ds M2 I2 rv g2 rm2 r2 p2 => ?_
            exact run_meth (ds := .ref n :: ds) (vs := .ref a :: vs) c tk I2 (.cons rfl rv) F rm2 (.cons (rd.mono g2) r2) p2
        | lst ys =>
          simp only [Option.map_eq_some_iff] at hr
          obtain ⟨b, hb, rfl⟩ := hr
          obtain ⟨id, sl, hty, mt⟩ := bmOf_spec c hb
          rw [nm] at sl
          obtain ⟨zs, e1, q⟩ := ro
          obtain ⟨t1, t2⟩ := tyV_is (T := "list") (x := .ref a) (v := .ref a) I1 rfl (.inl ⟨rfl, zs, SqL.of e1⟩)
          refine PySem.getMethod_builtin t1 PySem.F.plainAttrs_list sl hty t2 ?_
          refine args_run ha hnil hn (.inr ⟨id, rfl⟩) I1 rm1 rs1 p1 fun vs us s2 H2 ρ2 ds M2 I2 rv g2 rm2 r2 p2 => ?_
          exact mt pins s2 σ H2 (.ref a) vs (.ref a) us Q I2 rfl rv ⟨ρ2, .ref n, ds, M2, rm2, rd.mono g2, r2, Post.noex p2 fun _ _ => bmD_nexc⟩
        | _ => cases hr
    | _ => cases hr
end
end Pw
set_option Elab.async false
set_option linter.all false
set_option maxRecDepth 100000
set_option autoImplicit false
set_option maxHeartbeats 2000000
/-! Fields, new addresses, targets, what loops walk. -/
namespace Pw
open PySem PySem.Spec PyProof.Rows L2
section
variable {T : Tb} {G : Gd} {C : Cl} {lv : Nat} {X : Cx} {sc : Scope} {N : List Str} {W : WX} {xc : Option Xc}
theorem s_fld (c : CtxOk T G C lv X sc N) {o : Expr} {f : Str} {k : Nat} {x : Ex} {pos : Pos} (ho : notSuper o = true) (hk : ixS f T.nms 0 = some k) (he : PE X o (tE X.K G W (ev C xc x))) : PE X (.Attribute o f pos) (tE X.K G W (ev C xc (.fld k x))) := by
  refine ⟨fun pins s σ H Q I h => ?_⟩
  obtain ⟨ρ, σ1, M, rm, rs, p⟩ := h
  simp only [ev] at p
  refine attr_of (attr_base ho _ _ _) (thn (he.run pins s σ H _ I ⟨ρ, σ1, M, rm, rs, (Post.bind (R := rD X.K G) p).imp fun v H1 z => z⟩) fun u s1 ⟨v, H1, I1, r1, ρ1, d, M1, ge, rm1, rd, p1⟩ => ?_)
  have nm := c.nms _ _ hk
  cases d with
  | adr y =>
    obtain ⟨a, dx, w, rfl, sl, rw1⟩ := rd.adr_inv
    cases (show u = Value.ref a from r1)
    simp only [fldD] at p1
    split at p1
    · rename_i hs
      subst hs
      obtain ⟨q, sl1⟩ := c.adr.slot
      rw [c.adr.nSteps] at nm
      subst nm
      exact SlX.getslot_ok I1 sl c.adr.cls sl1 rfl fun u' s2 I2 ru => ⟨w, H1, I2, ru, Post.here (R := rD X.K G) p1 rm1 rw1⟩
    · exact False.elim p1
  | ref n =>
    obtain ⟨a, rfl, ha1⟩ := rd.ref_inv
    cases (show u = Value.ref a from r1)
    simp only [fldD] at p1
    cases hm : M1[n]? with
    | none => rw [hm] at p1; exact False.elim p1
    | some ob =>
      rw [hm] at p1
      obtain ⟨a', ha2, ro⟩ := rm1.obj n ob hm
      rw [ha1] at ha2
      cases ha2
      cases ob with
      | ins c' fs =>
        dsimp only at p1
        split at p1
        · rename_i hat
          obtain ⟨cl, na⟩ := c.attI c' k hat
          obtain ⟨dx, fs', e1, el, q⟩ := ro
          have qk := q k
          cases hfl : fs.lookup k with
          | none => rw [hfl] at p1; exact False.elim p1
          | some z =>
            rw [hfl] at p1 qk
            obtain ⟨w, e2, rw1⟩ := qk
            rw [nm] at e2 na
            exact getattr_ok I1 e1 cl na e2 fun u' s2 I2 ru => ⟨w, H1, I2, ru, Post.here (R := rD X.K G) p1 rm1 rw1⟩
        · exact False.elim p1
      | _ => exact False.elim p1
  | _ => exact False.elim p1
theorem s_neg {i : Int} {j : Nat} {p' pos : Pos} : PE X (.UnaryOp .USub (.Constant (.int i) j p') pos) (tE X.K G W (ev C xc (.cst (.int (-i))))) :=
  (pe_un un_neg pe_int).wk fun σ H Q ⟨ρ, σ1, M, rm, rs, p⟩ => by
    simp only [ev] at p
    exact ⟨i, rfl, Post.here (R := rD X.K G) p rm (.int _)⟩
/-- a new address stands -/
theorem new_adr {H : Hp} {ρ : List Addr} {M : Mem} {Q : VK} {E : XK} {d : D} {v : V} {x dx : Addr} (hx : H x = none) (hd : H dx = none) (hne : dx ≠ x) (rm : RM X.K G H ρ M) (r : Rp X.K G H ρ d v) (p : Post X.K G (rD X.K G) E ρ H (.ok (.adr d) M) Q) :
    Q (.ref x) (SlX.slH (upd (upd H dx (.own x)) x (.ins (G.cA G.adrC) dx [])) x (G.cA G.adrC) dx [some v]) := by
  have e : SlX.slH (upd (upd H dx (.own x)) x (.ins (G.cA G.adrC) dx [])) x (G.cA G.adrC) dx [some v] = upd (upd H dx (.xd [])) x (SlX.SlO x (G.cA G.adrC) dx [some v]) := by
    funext b
    unfold SlX.slH upd
    by_cases h1 : b = x
    · simp [h1]
    · by_cases h2 : b = dx
      · simp [h1, h2]
      · simp [h1, h2]
  rw [e]
  have h2 : (upd H dx (.xd [])) x = none := by rw [upd_ne (Ne.symm hne)]; exact hx
  have g : Ge X.K G ρ H ρ (upd (upd H dx (.xd [])) x (SlX.SlO x (G.cA G.adrC) dx [some v])) := (Ge.fresh hd).trans (Ge.fresh h2)
  refine p ρ _ _ g ((rm.fresh hd).fresh h2) (.adr (dx := dx) (.inr ⟨upd_same, ?_⟩) (r.mono g))
  rw [upd_ne hne]
  exact upd_same
theorem s_new (c : CtxOk T G C lv X sc N) {x : Str} {k : Nat} {es : List Expr} {xs : Exs} {p pos : Pos} (hg : isGl sc x = true) (hf : T.clss.lookup x = some k) (hk : k = T.adrC) (hl : es.length ≤ 1) (hn : es.all notStar = true) (ha : PA X es (tA X.K G W (evs C xc xs))) (hnil : es = [] → xs = .nil)
    (hlen : ∀ σ m ds m', evs C xc xs σ m = .ok ds m' → ds.length = es.length) : PE X (.Call (.Name x p) es [] pos) (tE X.K G W (ev C xc (.new k xs))) := by
  obtain ⟨g1, g2⟩ := isGl_spec c hg
  obtain ⟨fI, fd, ps, us0, kp, mk, F, b0, b1, v0, rv0, rt⟩ := c.mka
  have hmg := c.clss x k hf
  rw [hk, c.adrT] at hmg
  have hr : Room (lv + 1) X.A := c.adr.room.mono (by omega)
  have ek : k = C.adrC := by rw [hk, c.adrT, c.adr.adrC]
  cases es with
  | nil =>
    have hx := hnil rfl
    subst hx
    refine (pe_make0 (E := E0) mk F hr g1 hmg b1 (.cons rv0 .nil) pass0 g2).wk fun σ H Q ⟨ρ, σ1, M, rm, rs, q⟩ => ?_
    simp only [ev, evs, Res.bind_ok, ek, if_true] at q
    intro y dy hy hdy hne
    exact ⟨y, dy, v0, rfl, hne, upd_same, rfl, new_adr hy hdy hne rm (rt H ρ) q⟩
  | cons e r =>
    cases r with
    | cons _ _ => simp at hl
    | nil =>
      simp only [List.all_cons, Bool.and_eq_true] at hn
      refine (pe_make (E := E0) mk F hr g1 hmg b0 .nil pass0 ha g2 (star_cons hn.1 _) (star_none hn.2 _ _)).wk fun σ H Q q => ?_
      simp only [ev] at q
      have q1 : tA X.K G W (evs C xc xs) σ H fun vs H1 => ∃ ρ1 d v M1, vs = [v] ∧ RM X.K G H1 ρ1 M1 ∧ Rp X.K G H1 ρ1 d v ∧ Post X.K G (rD X.K G) (fun c d H' => W c d σ H') ρ1 H1 (.ok (.adr d) M1) Q := by
        obtain ⟨ρ, σ1, M, rm, rs, p⟩ := q
        dsimp only at p
        refine ⟨ρ, σ1, M, rm, rs, ?_⟩
        cases hh : evs C xc xs σ1 M with
        | ok ds m1 =>
          have h1 := hlen _ _ _ _ hh
          rw [hh] at p
          intro ρ' H' vs ge rm' rr
          match ds, h1, rr, p with
          | [d], _, .cons rd .nil, p =>
            simp only [Res.bind_ok, ek, if_true] at p
            exact ⟨ρ', d, _, m1, rfl, rm', rd, Post.ge p ge⟩
        | exc y m1 => rw [hh] at p; exact p
        | bad => rw [hh] at p; exact p
      obtain ⟨ρ, σ1, M, rm, rs, p⟩ := q1
      refine ⟨ρ, σ1, M, rm, rs, p.imp fun vs H1 ⟨ρ1, d, v, M1, e1, rm1, rd, p1⟩ => ?_⟩
      subst e1
      intro y dy hy hdy hne
      exact ⟨y, dy, v, rfl, hne, upd_same, rfl, new_adr hy hdy hne rm1 rd p1⟩
end
end Pw
set_option Elab.async false
set_option linter.all false
set_option maxRecDepth 100000
set_option autoImplicit false
set_option maxHeartbeats 2000000
/-! Targets, what loops walk. -/
namespace Pw
open PySem PySem.Spec PyProof.Rows L2
section
variable {T : Tb} {G : Gd} {C : Cl} {lv : Nat} {X : Cx} {sc : Scope} {N : List Str} {W : WX} {xc : Option Xc}
/-! ### targets -/
/-- only those slots were written -/
def Agr (is : List Nat) (σv σv' : VS) : Prop := ∀ vs : List Nat, (∀ i ∈ is, i ∈ vs) → L2.wipe σv' vs = L2.wipe σv vs
theorem Agr.refl {is : List Nat} {σv : VS} : Agr is σv σv := fun _ _ => rfl
theorem Agr.trans {is js : List Nat} {a b d : VS} (h : Agr is a b) (k : Agr js b d) : Agr (is ++ js) a d := fun vs hv => (k vs fun i hi => hv i (by simp [hi])).trans (h vs fun i hi => hv i (by simp [hi]))
theorem wipe_set {i : Nat} {v : Option V} : ∀ {vs : List Nat} {σv : VS}, i ∈ vs → L2.wipe (σv.set i v) vs = L2.wipe σv vs
  | j :: vs, σv, h => by
    unfold L2.wipe
    by_cases hv : i ∈ vs
    · rw [wipe_set hv]
    · have e : i = j := by
        rcases List.mem_cons.mp h with h | h
        · exact h
        · exact absurd h hv
      subst e
      have e2 : ∀ (us : List Nat), i ∉ us → L2.wipe (σv.set i v) us = (L2.wipe σv us).set i v := by
        intro us
        induction us with
        | nil => intro _; rfl
        | cons u us ih =>
          intro hu
          simp only [List.mem_cons, not_or] at hu
          unfold L2.wipe
          rw [ih hu.2, List.set_comm _ _ hu.1]
      rw [e2 vs hv, List.set_set]
theorem Agr.set {i : Nat} {v : Option V} {σv : VS} : Agr [i] σv (σv.set i v) := fun vs hv => wipe_set (hv i (by simp))
def tG (K : PySem.W.Frag) (G : Gd) (tg : Tg) : TG := fun v σv H Q => ∃ ρ σ d σ', Rs K G H ρ σ σv ∧ Rp K G H ρ d v ∧ asgT tg d σ = some σ' ∧ ∀ σv', Rs K G H ρ σ' σv' → Agr (Tg.slots tg) σv σv' → Q σv' H
def tGs (K : PySem.W.Frag) (G : Gd) (tg : Tgs) : TGs := fun vs σv H Q => ∃ ρ σ ds σ', Rs K G H ρ σ σv ∧ Rps K G H ρ ds vs ∧ asgTs tg ds σ = some σ' ∧ ∀ σv', Rs K G H ρ σ' σv' → Agr (Tgs.slots tg) σv σv' → Q σv' H
theorem cTgs_len {sc : Scope} {N : List Str} : ∀ (n : Nat) (es : List Expr) (ts : Tgs), cTgs sc N n es = some ts → ∀ ds σ σ', asgTs ts ds σ = some σ' → ds.length = es.length
  | 0, _, _, h, _, _, _, _ => by cases h
  | n + 1, [], ts, h, ds, σ, σ', q => by
    simp only [cTgs, Option.some.injEq] at h
    subst h
    cases ds with
    | nil => rfl
    | cons _ _ => cases q
  | n + 1, e :: r, ts, h, ds, σ, σ', q => by
    simp only [cTgs, Option.bind_eq_some_iff, Option.map_eq_some_iff] at h
    obtain ⟨t, h1, us, h2, rfl⟩ := h
    cases ds with
    | nil => cases q
    | cons d ds =>
      simp only [asgTs] at q
      split at q
      · rename_i σ2 _
        have := cTgs_len n r us h2 ds σ2 σ' q
        simp [this]
      · cases q
theorem cTgs_plain {sc : Scope} {N : List Str} : ∀ (n : Nat) (es : List Expr) (ts : Tgs) (env : Env), cTgs sc N n es = some ts → (assignEach es env).length = es.length ∧ (assignEach es env).findIdx? (·.1) = none
  | 0, _, _, _, h => by cases h
  | n + 1, [], ts, env, h => ⟨rfl, rfl⟩
  | n + 1, e :: r, ts, env, h => by
    simp only [cTgs, Option.bind_eq_some_iff, Option.map_eq_some_iff] at h
    obtain ⟨t, h1, us, h2, rfl⟩ := h
    obtain ⟨e1, e2⟩ := cTgs_plain n r us env h2
    have e3 : assignEach (e :: r) env = (false, assign e env) :: assignEach r env := by
      cases n with
      | zero => cases h1
      | succ n =>
        unfold cTg at h1
        split at h1 <;> first | rfl | cases h1
    rw [e3]
    refine ⟨by simp [e1], ?_⟩
    rw [List.findIdx?_cons]
    simp [e2]
section
variable {tsc : Scope} (hN : X.N = N) (nd : N.Nodup) (hc : X.calm = true) (ht : ∀ x k, tsc.names.lookup x = some k → (k = .local ∨ k = .cell) → X.env.scope.names.lookup x = some k ∧ (k = .cell → X.fn x = true))
include hN nd hc ht
mutual
theorem s_tg : ∀ (n : Nat) (e : Expr) (tg : Tg), cTg tsc N n e = some tg → PG X e (tG X.K G tg)
  | 0, _, _, h => by cases h
  | n + 1, e, tg, h => by
    unfold cTg at h
    split at h
    · rename_i x p
      have name : ∀ k, tsc.names.lookup x = some k → (k = .local ∨ k = .cell) → (ixS x N 0).map Tg.v = some tg → PG X (.Name x p) (tG X.K G tg) := fun k hk hk2 h => by
        simp only [Option.map_eq_some_iff] at h
        obtain ⟨i, hi, rfl⟩ := h
        have h1 := (ixS_get x N 0 i hi).2
        obtain ⟨h2, h3⟩ := ht x k hk hk2
        refine (pg_name (i := i) (by rw [hN]; exact nd) (by rw [hN]; simpa using h1) ?_ ?_).wk fun v σv H Q ⟨ρ, σ, d, σ', rs, r, ha, q⟩ => ?_
        · rcases hk2 with rfl | rfl
          · exact .inl h2
          · exact .inr h2
        · rcases hk2 with rfl | rfl
          · exact .inr h2
          · exact .inl (h3 rfl)
        · simp only [asgT, Option.some.injEq] at ha
          subst ha
          exact q _ (rs.set r i) Agr.set
      split at h
      · rename_i hk
        exact name .local hk (.inl rfl) h
      · rename_i hk
        exact name .cell hk (.inr rfl) h
      · cases h
    · rename_i es k p
      simp only [Option.map_eq_some_iff] at h
      obtain ⟨ts, h1, rfl⟩ := h
      obtain ⟨l1, l2⟩ := cTgs_plain n es ts X.env h1
      refine (pg_tup hc (s_tgs n es ts h1) l1 l2).wk fun v σv H Q ⟨ρ, σ, d, σ', rs, r, ha, q⟩ => ?_
      cases d with
      | tup ds =>
        obtain ⟨a, vs, rfl, sq, rr⟩ := r.tup_inv
        simp only [asgT] at ha
        exact ⟨a, vs, rfl, sq, by rw [← rr.length]; exact cTgs_len n es ts h1 ds σ σ' ha, ρ, σ, ds, σ', rs, rr, ha, q⟩
      | _ => cases ha
    · cases h
theorem s_tgs : ∀ (n : Nat) (es : List Expr) (ts : Tgs), cTgs tsc N n es = some ts → PGs X es (tGs X.K G ts)
  | 0, _, _, h => by cases h
  | n + 1, [], ts, h => by
    simp only [cTgs, Option.some.injEq] at h
    subst h
    refine ⟨fun pins s σ H vs us Q I r hq => pgs_nil.run pins s σ H vs us Q I r ?_⟩
    obtain ⟨ρ, σ1, ds, σ', rs, rr, ha, q⟩ := hq
    cases rr with
    | nil =>
      simp only [asgTs, Option.some.injEq] at ha
      subst ha
      exact ⟨rfl, q _ rs Agr.refl⟩
    | cons _ _ => cases ha
  | n + 1, e :: r, ts, h => by
    simp only [cTgs, Option.bind_eq_some_iff, Option.map_eq_some_iff] at h
    obtain ⟨t, h1, us, h2, rfl⟩ := h
    have e3 : assignEach (e :: r) X.env = (false, assign e X.env) :: assignEach r X.env := by
      cases n with
      | zero => cases h1
      | succ n =>
        unfold cTg at h1
        split at h1 <;> first | rfl | cases h1
    refine (pgs_cons (s_tg n e t h1) (s_tgs n r us h2) (by rw [e3]; rfl)).wk fun vs σv H Q ⟨ρ, σ, ds, σ', rs, rr, ha, q⟩ => ?_
    cases rr with
    | nil => cases ha
    | cons r1 r2 =>
      simp only [asgTs] at ha
      split at ha
      · rename_i σ2 h3
        exact ⟨_, _, rfl, ρ, σ, _, σ2, rs, r1, h3, fun σv' rs' ag => ⟨ρ, σ2, _, σ', rs', r2, ha, fun σv2 rs2 ag2 => q σv2 rs2 (ag.trans ag2)⟩⟩
      · cases ha
end
end
/-! ### walks -/
/-- the layer's walk follows ours -/
structure WOk (K : PySem.W.Frag) (G : Gd) (J : L2.It) (w : Walk) (ρ : List Addr) (H : Hp) : Prop where
  go : ∀ ρ' H' M' i d, Ge K G ρ H ρ' H' → RM K G H' ρ' M' → w.st M' = true → w.xs[i]? = some d → J.go i H' ∧ ∀ x H'', J.yld i H' x H'' → Ge K G ρ' H' ρ' H'' ∧ RM K G H'' ρ' M' ∧ Rp K G H'' ρ' d x
  stop : ∀ ρ' H' M', Ge K G ρ H ρ' H' → RM K G H' ρ' M' → w.st M' = true → J.stop w.xs.length H'
def rW (K : PySem.W.Frag) (G : Gd) : Rel Walk L2.It := fun H ρ w J => WOk K G J w ρ H
def tI (K : PySem.W.Frag) (G : Gd) (W : WX) (f : Sg → Mem → Res Walk) : TI := fun σv H Q => ∃ ρ σ M, RM K G H ρ M ∧ Rs K G H ρ σ σv ∧ Post K G (rW K G) (fun c d H' => W c d σv H') ρ H (f σ M) Q
mutual
theorem beq_eq : ∀ {x y : D}, D.beq x y = true → x = y
  | .non, y, h => by cases y <;> simp_all [D.beq]
  | .bl a, y, h => by cases y <;> simp_all [D.beq]
  | .int a, y, h => by cases y <;> simp_all [D.beq]
  | .str a, y, h => by cases y <;> simp_all [D.beq]
  | .ref a, y, h => by cases y <;> simp_all [D.beq]
  | .fn a, y, h => by cases y <;> simp_all [D.beq]
  | .adr a, y, h => by
    cases y with
    | adr b => simp only [D.beq] at h; rw [beq_eq h]
    | _ => simp [D.beq] at h
  | .tup a, y, h => by
    cases y with
    | tup b => simp only [D.beq] at h; rw [beqs_eq h]
    | _ => simp [D.beq] at h
  | .lst a, y, h => by
    cases y with
    | lst b => simp only [D.beq] at h; rw [beqs_eq h]
    | _ => simp [D.beq] at h
theorem beqs_eq : ∀ {x y : List D}, D.beqs x y = true → x = y
  | [], [], _ => rfl
  | [], _ :: _, h => by simp [D.beqs] at h
  | _ :: _, [], h => by simp [D.beqs] at h
  | a :: x, b :: y, h => by
    simp only [D.beqs, Bool.and_eq_true] at h
    rw [beq_eq h.1, beqs_eq h.2]
end
theorem still_eq {d : D} {xs : List D} {m : Mem} (h : still d xs m = true) : items m d = some xs := by
  unfold still at h
  split at h
  · rename_i ys e
    rw [e, beqs_eq h]
  · cases h
/-- a list of the store -/
theorem sql_at {K : PySem.W.Frag} {H : Hp} {ρ : List Addr} {M : Mem} {n : Nat} {a : Addr} {xs : List D} (rm : RM K G H ρ M) (ha : ρ[n]? = some a) (hi : items M (.ref n) = some xs) : ∃ vs, SqL K H a vs ∧ Rps K G H ρ xs vs := by
  simp only [items] at hi
  split at hi
  · rename_i ys hm
    cases hi
    obtain ⟨a', ha', ro⟩ := rm.obj n _ hm
    rw [ha] at ha'
    cases ha'
    obtain ⟨vs, e, q⟩ := ro
    exact ⟨vs, SqL.of e, q⟩
  · cases hi
theorem wok_tup {K : PySem.W.Frag} {H : Hp} {ρ : List Addr} {a : Addr} {xs : List D} {vs : List V} (hq : SqT K H a vs) (r : Rps K G H ρ xs vs) : WOk K G (Itt K a) ⟨xs, fun _ => true⟩ ρ H where
  go := fun ρ' H' M' i d ge rm _ hd => by
    obtain ⟨v, h1, h2⟩ := (r.mono ge).get hd
    refine ⟨⟨vs, v, ge.tup _ _ hq, h1⟩, fun x H'' ⟨e1, e2⟩ => ?_⟩
    subst e1
    have := e2 vs (ge.tup _ _ hq)
    rw [h1] at this
    cases this
    exact ⟨Ge.refl, rm, h2⟩
  stop := fun ρ' H' M' ge rm _ => ⟨vs, ge.tup _ _ hq, by rw [r.length]; exact Nat.le_refl _⟩
theorem wok_frl {K : PySem.W.Frag} {H : Hp} {ρ : List Addr} {a : Addr} {xs : List D} {vs : List V} (hq : FrL K H a vs) (r : Rps K G H ρ xs vs) : WOk K G (Itl K a) ⟨xs, fun _ => true⟩ ρ H where
  go := fun ρ' H' M' i d ge rm _ hd => by
    obtain ⟨v, h1, h2⟩ := (r.mono ge).get hd
    refine ⟨⟨vs, v, (ge.frl _ _ hq).sql, h1⟩, fun x H'' ⟨e1, e2⟩ => ?_⟩
    subst e1
    have := e2 vs (ge.frl _ _ hq).sql
    rw [h1] at this
    cases this
    exact ⟨Ge.refl, rm, h2⟩
  stop := fun ρ' H' M' ge rm _ => ⟨vs, (ge.frl _ _ hq).sql, by rw [r.length]; exact Nat.le_refl _⟩
theorem wok_lst {K : PySem.W.Frag} {H : Hp} {ρ : List Addr} {n : Nat} {a : Addr} {xs : List D} (ha : ρ[n]? = some a) : WOk K G (Itl K a) ⟨xs, still (.ref n) xs⟩ ρ H where
  go := fun ρ' H' M' i d ge rm hs hd => by
    obtain ⟨vs, hq, r⟩ := sql_at rm (ge.get ha) (still_eq hs)
    obtain ⟨v, h1, h2⟩ := r.get hd
    refine ⟨⟨vs, v, hq, h1⟩, fun x H'' ⟨e1, e2⟩ => ?_⟩
    subst e1
    have := e2 vs hq
    rw [h1] at this
    cases this
    exact ⟨Ge.refl, rm, h2⟩
  stop := fun ρ' H' M' ge rm hs => by
    obtain ⟨vs, hq, r⟩ := sql_at rm (ge.get ha) (still_eq hs)
    exact ⟨vs, hq, by rw [r.length]; exact Nat.le_refl _⟩
theorem s_walk {tg e : Expr} {x : Ex} (he : PE X e (tE X.K G W (ev C xc x))) : PI X tg e (tI X.K G W (evIt C xc (.e x))) := by
  refine ⟨fun pins s σ H R I h => ?_⟩
  obtain ⟨ρ, σ1, M, rm, rs, p⟩ := h
  simp only [evIt] at p
  refine thn (he.run pins s σ H _ I ⟨ρ, σ1, M, rm, rs, (Post.bind (R := rD X.K G) p).imp fun v H1 z => z⟩) fun v s1 ⟨x, H1, I1, r1, ρ1, d, M1, ge, rm1, rd, p1⟩ => ?_
  have seqL : ∀ {n : Nat} {a : Addr} {xs : List D}, x = .ref a → ρ1[n]? = some a → items M1 (.ref n) = some xs → WOk X.K G (Itl X.K a) ⟨xs, still (.ref n) xs⟩ ρ1 H1 → R (Itl X.K a) H1 → wpAny (model X.prog X.w) X.A (pyIter v) (PIE X pins σ tg R) X.xe s1 := by
    intro n a xs e1 ha hi _ q
    subst e1
    cases r1
    obtain ⟨vs, hq, _⟩ := sql_at rm1 ha hi
    obtain ⟨its, rv, p, hz⟩ := I1.list hq
    refine wpAny_pyIter_list p.isList ?_
    refine ⟨s1.heap.objs.size, [s1.heap.objs.size], _, _, H1, rfl, I1.kept (t' := s1.toks) fun b o e => Heap.get?_push_of_some _ e, turn_list a _, ⟨_, Heap.get?_push_size _ rfl, rfl, rfl⟩, fun b hb => ?_, q⟩
    have e : b = s1.heap.objs.size := by simpa using hb
    subst e
    exact I1.fpOk (Nat.le_refl _) (I1.hok.fresh (Nat.le_refl _))
  cases d with
  | tup xs =>
    obtain ⟨a, vs, rfl, hq, rr⟩ := rd.tup_inv
    cases r1
    obtain ⟨its, rv, pl, hz⟩ := I1.tuple hq
    refine wpAny_pyIter_tuple (show s1.heap.IsTuple a its.toArray from pl) ?_
    have q : R (Itt X.K a) H1 := p1 ρ1 H1 (Itt X.K a) Ge.refl rm1 (wok_tup hq rr)
    refine ⟨s1.heap.objs.size, [s1.heap.objs.size], _, _, H1, rfl, I1.kept (t' := s1.toks) fun b o e => Heap.get?_push_of_some _ e, turn_tuple a _, ⟨_, Heap.get?_push_size _ rfl, rfl, rfl⟩, fun b hb => ?_, q⟩
    have e : b = s1.heap.objs.size := by simpa using hb
    subst e
    exact I1.fpOk (Nat.le_refl _) (I1.hok.fresh (Nat.le_refl _))
  | lst xs =>
    obtain ⟨a, vs, rfl, hq, rr⟩ := rd.lst_inv
    cases r1
    have q : R (Itl X.K a) H1 := p1 ρ1 H1 (Itl X.K a) Ge.refl rm1 (wok_frl hq rr)
    obtain ⟨its, rv, pl, hz⟩ := I1.list hq.sql
    refine wpAny_pyIter_list pl.isList ?_
    refine ⟨s1.heap.objs.size, [s1.heap.objs.size], _, _, H1, rfl, I1.kept (t' := s1.toks) fun b o e => Heap.get?_push_of_some _ e, turn_list a _, ⟨_, Heap.get?_push_size _ rfl, rfl, rfl⟩, fun b hb => ?_, q⟩
    have e : b = s1.heap.objs.size := by simpa using hb
    subst e
    exact I1.fpOk (Nat.le_refl _) (I1.hok.fresh (Nat.le_refl _))
  | ref n =>
    obtain ⟨a, rfl, ha⟩ := rd.ref_inv
    simp only [walkOf] at p1
    cases hi : items M1 (.ref n) with
    | none => rw [hi] at p1; exact False.elim p1
    | some xs =>
      rw [hi] at p1
      exact seqL rfl ha hi (wok_lst ha) (p1 ρ1 H1 _ Ge.refl rm1 (wok_lst ha))
  | _ => exact False.elim p1
/-! ### ranges -/
theorem wok_range {K : PySem.W.Frag} {H : Hp} {ρ : List Addr} {lo hi : Int} : WOk K G (Itr lo (hi - lo).toNat) ⟨(List.range (hi - lo).toNat).map fun (i : Nat) => D.int (lo + (i : Int)), fun _ => true⟩ ρ H where
  go := fun ρ' H' M' i d ge rm _ hd => by
    rw [List.getElem?_map] at hd
    by_cases hi : i < (hi - lo).toNat
    · rw [List.getElem?_range hi] at hd
      simp at hd
      subst hd
      refine ⟨hi, fun x H'' ⟨e1, e2⟩ => ?_⟩
      subst e1 e2
      exact ⟨Ge.refl, rm, .int _⟩
    · rw [List.getElem?_eq_none (by simpa using hi)] at hd
      cases hd
  stop := fun ρ' H' M' ge rm _ => by simp [Itr]; omega
theorem rangeOf_ok {K : PySem.W.Frag} {H : Hp} {ρ : List Addr} {M : Mem} {lo hi : Int} {E : XK} {R : L2.It → Hp → Prop} (rm : RM K G H ρ M) (p : Post K G (rW K G) E ρ H (rangeOf lo hi M) R) : (-(2 ^ 62) ≤ lo ∧ lo < 2 ^ 62 ∧ -(2 ^ 62) ≤ hi ∧ hi < 2 ^ 62) ∧ R (Itr lo (hi - lo).toNat) H := by
  unfold rangeOf at p
  split at p
  · rename_i h
    exact ⟨by omega, p ρ H _ Ge.refl rm wok_range⟩
  · exact False.elim p
theorem range_glob (c : CtxOk T G C lv X sc N) {x : Str} (h : isBlt T sc x = true) (e : x = "range") : Gl X "range" ∧ X.mg "range" = none := by
  subst e
  obtain ⟨h1, _, h2, _⟩ := isBlt_spec c h
  exact ⟨h1, h2⟩
theorem s_rng1 (c : CtxOk T G C lv X sc N) {tg a : Expr} {x : Ex} {p pos : Pos} (hb : isBlt T sc "range" = true) (hn : notStar a = true) (ha : PE X a (tE X.K G W (ev C xc x))) : PI X tg (.Call (.Name "range" p) [a] [] pos) (tI X.K G W (evIt C xc (.rng1 x))) := by
  obtain ⟨h1, h2⟩ := range_glob c hb rfl
  refine (pi_range1 h1 h2 (s_cons hn ha s_nil) (star_cons hn _)).wk fun σ H R ⟨ρ, σ1, M, rm, rs, p⟩ => ?_
  simp only [evIt] at p
  refine ⟨ρ, σ1, M, rm, rs, ?_⟩
  simp only [evs]
  cases hh : ev C xc x σ1 M with
  | ok d m =>
    rw [hh] at p
    intro ρ' H' vs ge rm' rr
    cases rr with
    | cons r1 rn =>
      cases rn
      cases d <;> try exact False.elim p
      cases r1
      obtain ⟨hb, hr⟩ := rangeOf_ok rm' (Post.ge p ge)
      exact ⟨_, rfl, hb.2.2.1, hb.2.2.2, by simpa using hr⟩
  | exc y m => rw [hh] at p; exact p
  | bad => rw [hh] at p; exact p
theorem s_rng2 (c : CtxOk T G C lv X sc N) {tg a b : Expr} {x y : Ex} {p pos : Pos} (hb : isBlt T sc "range" = true) (hn : notStar a = true) (hn2 : notStar b = true) (ha : PE X a (tE X.K G W (ev C xc x))) (h2 : PE X b (tE X.K G W (ev C xc y))) :
    PI X tg (.Call (.Name "range" p) [a, b] [] pos) (tI X.K G W (evIt C xc (.rng2 x y))) := by
  obtain ⟨g1, g2⟩ := range_glob c hb rfl
  refine (pi_range2 g1 g2 (s_cons hn ha (s_cons hn2 h2 s_nil)) (by rw [star_cons hn, star_cons hn2]; rfl) (star_cons hn2 _)).wk fun σ H R ⟨ρ, σ1, M, rm, rs, p⟩ => ?_
  simp only [evIt] at p
  refine ⟨ρ, σ1, M, rm, rs, ?_⟩
  simp only [evs]
  cases hh : ev C xc x σ1 M with
  | ok d m =>
    rw [hh] at p
    simp only [Res.bind_ok] at p ⊢
    cases hh2 : ev C xc y σ1 m with
    | ok e m2 =>
      rw [hh2] at p
      intro ρ' H' vs ge rm' rr
      cases rr with
      | cons r1 rn =>
        cases rn with
        | cons r2 rn =>
          cases rn
          cases d <;> try exact False.elim p
          cases e <;> try exact False.elim p
          cases r1
          cases r2
          obtain ⟨hb, hr⟩ := rangeOf_ok rm' (Post.ge p ge)
          exact ⟨_, _, rfl, hb, hr⟩
    | exc y m => rw [hh2] at p; exact p
    | bad => rw [hh2] at p; exact p
  | exc y m => rw [hh] at p; exact p
  | bad => rw [hh] at p; exact p
end
end Pw
set_option Elab.async false
set_option linter.all false
set_option maxRecDepth 100000
set_option autoImplicit false
set_option maxHeartbeats 2000000
/-! List comprehensions. -/
namespace Pw
open PySem PySem.Spec PyProof.Rows L2
section
variable {T : Tb} {G : Gd} {C : Cl} {lv : Nat} {X : Cx} {sc : Scope} {N : List Str} {W : WX} {xc : Option Xc}
abbrev WF : WX := fun _ _ _ _ => False
theorem fin_putK {K : PySem.W.Frag} {H : Hp} {ρ : List Addr} {M : Mem} {n : Nat} {a : Addr} {vs ws : List V} {ds : List D} (rm : RM K G H ρ M) (ha : ρ[n]? = some a) (hH : H a = some (.lst vs)) (r : Rps K G H ρ ds ws) :
    Ge K G ρ H ρ (upd H a (.lst ws)) ∧ RM K G (upd H a (.lst ws)) ρ (M.set n (.lst ds)) :=
  ⟨Ge.write hH (.inl ⟨_, rfl⟩), rm.write ha hH (.inl ⟨_, rfl⟩) ⟨ws, upd_same, r.mono (Ge.write hH (.inl ⟨_, rfl⟩))⟩⟩
theorem lcL_nexc {n : Nat} {f : D → Mem → Res (Option D)} {st : Mem → Bool} {x : Xc} {m' : Mem} : ∀ (ds : List D) (m : Mem), lcL n f st ds m ≠ .exc x m'
  | [], m => by
    unfold lcL
    split <;> intro h <;> cases h
  | d :: ds, m => by
    unfold lcL
    split
    · split
      · exact lcL_nexc ds _
      · split
        · split
          · exact lcL_nexc ds _
          · intro h; cases h
        · intro h; cases h
      · intro h; cases h
    · intro h; cases h
/-- one turn's body -/
def lcF (C : Cl) (xc : Option Xc) (tg : Tg) (vs : List Nat) (c e : Ex) (σ : Sg) (d : D) (m : Mem) : Res (Option D) := match asgT tg d (wipeD σ vs) with
  | some σ' => (ev C xc c σ' m).bind fun b m => (match b with
    | .bl true => (ev C xc e σ' m).bind fun d m => .ok (some d) m
    | .bl false => .ok none m
    | _ => .bad)
  | none => .bad
theorem lc_turns {g : TG} {tt : TT} {te : TE} {K : PySem.W.Frag} {vs : List Nat} {σv : VS} {H1 : Hp} {ρ1 : List Addr} {M1 : Mem} {σ : Sg} {J : L2.It} {w : Walk} {tg : Tg} {c e : Ex} {E : XK} {Q : VK} {D : Addr}
    (hg : ∀ v σ H Q, tG K G tg v σ H Q → g v σ H Q) (hsl : ∀ i ∈ Tg.slots tg, i ∈ vs) (htt : ∀ σ H Q, tT K G WF (ev C xc c) σ H Q → tt σ H Q) (hte : ∀ σ H Q, tE K G WF (ev C xc e) σ H Q → te σ H Q)
    (rm : RM K G H1 ρ1 M1) (rs : Rs K G H1 ρ1 σ σv) (wk : WOk K G J w ρ1 H1) (hD : H1 D = none)
    (p : Post K G (rD K G) E ρ1 H1 (lcL M1.length (lcF C xc tg vs c e σ) w.st w.xs (M1 ++ [.lst []])) Q) :
    ∃ Wi : Nat → Nat → Hp → Prop, (∃ m, Wi 0 m (upd H1 D (.lst []))) ∧ ∀ i m H, Wi i m H →
      (J.stop i H ∧ Q (.ref D) H) ∨ (J.go i H ∧ ∃ Nx : Hp → Prop, (∀ H', Nx H' → ∃ m', m' < m ∧ Wi (i + 1) m' H') ∧ ∀ x H', J.yld i H x H' → g x (L2.wipe σv vs) H' fun σ2 H2 => L2.wipe σ2 vs = L2.wipe σv vs ∧ tt σ2 H2 fun b H3 =>
        if b = true then te σ2 H3 fun y H4 => ∃ acc, H4 D = some (.lst acc) ∧ acc.length < sizeLine ∧ Nx (upd H4 D (.lst (acc ++ [y]))) else Nx H3) := by
  refine ⟨fun i m H => m = w.xs.length - i ∧ i ≤ w.xs.length ∧ ∃ ρ M, Ge K G (ρ1 ++ [D]) (upd H1 D (.lst [])) ρ H ∧ RM K G H ρ M ∧ Post K G (rD K G) E ρ H (lcL M1.length (lcF C xc tg vs c e σ) w.st (w.xs.drop i) M) Q, ?_, ?_⟩
  · have g1 : Ge K G ρ1 H1 ρ1 (upd H1 D (.lst [])) := Ge.fresh hD
    have r1 : RM K G (upd H1 D (.lst [])) (ρ1 ++ [D]) (M1 ++ [.lst []]) := (rm.fresh hD).push (notin_of_none rm hD) ⟨[], upd_same, .nil⟩
    exact ⟨_, rfl, Nat.zero_le _, ρ1 ++ [D], _, Ge.refl, r1, by rw [List.drop_zero]; exact Post.ge p (g1.trans (Ge.push D))⟩
  · intro i m H ⟨em, hi, ρ, M, ge, rm2, p2⟩
    have ge0 : Ge K G ρ1 H1 ρ H := ((Ge.fresh hD).trans (Ge.push D)).trans ge
    have hDn : ρ[M1.length]? = some D := ge.get (by rw [← rm.len]; simp)
    have hst : w.st M = true := by
      cases hx : w.xs.drop i with
      | nil => rw [hx] at p2; unfold lcL at p2; split at p2; · assumption
               · exact False.elim p2
      | cons _ _ => rw [hx] at p2; unfold lcL at p2; split at p2; · assumption
                    · exact False.elim p2
    by_cases hl : i < w.xs.length
    · right
      obtain ⟨d, hd⟩ : ∃ d, w.xs[i]? = some d := ⟨w.xs[i], List.getElem?_eq_getElem hl⟩
      have hdr : w.xs.drop i = d :: w.xs.drop (i + 1) := by
        rw [List.drop_eq_getElem_cons hl]
        rw [List.getElem?_eq_getElem hl] at hd
        cases hd
        rfl
      rw [hdr] at p2
      unfold lcL at p2
      rw [if_pos hst] at p2
      obtain ⟨go, yld⟩ := wk.go ρ H M i d ge0 rm2 hst hd
      refine ⟨go, fun H' => ∃ ρ' M', Ge K G (ρ1 ++ [D]) (upd H1 D (.lst [])) ρ' H' ∧ RM K G H' ρ' M' ∧ Post K G (rD K G) E ρ' H' (lcL M1.length (lcF C xc tg vs c e σ) w.st (w.xs.drop (i + 1)) M') Q, fun H' ⟨ρ', M', a, b, z⟩ => ⟨w.xs.length - (i + 1), by omega, rfl, by omega, ρ', M', a, b, z⟩, fun x H' hy => ?_⟩
      obtain ⟨gy, rmy, rx⟩ := yld x H' hy
      have rs' : Rs K G H' ρ σ σv := (rs.mono ge0).mono gy
      refine hg _ _ _ _ ?_
      cases ha : asgT tg d (wipeD σ vs) with
      | none =>
        have eF : lcF C xc tg vs c e σ d M = .bad := by unfold lcF; rw [ha]
        rw [eF] at p2
        exact False.elim p2
      | some σ' =>
        have eF : lcF C xc tg vs c e σ d M = (ev C xc c σ' M).bind fun b m => (match b with
          | .bl true => (ev C xc e σ' m).bind fun d m => .ok (some d) m
          | .bl false => .ok none m
          | _ => .bad) := by unfold lcF; rw [ha]
        rw [eF] at p2
        refine ⟨ρ, wipeD σ vs, d, σ', rs'.wipe vs, rx, ha, fun σv' rs2 ag => ⟨?_, htt _ _ _ ⟨ρ, σ', M, rmy, rs2, ?_⟩⟩⟩
        · rw [ag vs hsl]
          have wi : ∀ (us : List Nat) (s : VS), L2.wipe (L2.wipe s us) us = L2.wipe s us := by
            intro us s
            have key : ∀ (u : Nat) (us : List Nat) (s : VS), L2.wipe (s.set u none) us = (L2.wipe s us).set u none := by
              intro u us
              induction us with
              | nil => intro s; rfl
              | cons v us ih =>
                intro s
                unfold L2.wipe
                rw [ih]
                by_cases h : u = v
                · subst h; rfl
                · rw [List.set_comm _ _ h]
            induction us generalizing s with
            | nil => rfl
            | cons u us ih =>
              show (L2.wipe ((L2.wipe s us).set u none) us).set u none = (L2.wipe s us).set u none
              rw [key, ih, List.set_set]
          exact wi vs σv
        · have p3 := p2
          cases hc : ev C xc c σ' M with
          | ok b m1 =>
            rw [hc] at p2
            cases b with
            | bl k =>
              simp only [Res.bind_ok, onlyB]
              intro ρ3 H3 b3 ge3 rm3 rb
              have hb : k = b3 := by
                have : Pw.D.bl k = Pw.D.bl b3 := rb
                cases this
                rfl
              subst hb
              have geD := ge.trans (gy.trans ge3)
              cases k with
              | false =>
                rw [if_neg Bool.false_ne_true]
                simp only [Res.bind_ok] at p2
                exact ⟨ρ3, m1, geD, rm3, Post.ge p2 (gy.trans ge3)⟩
              | true =>
                rw [if_pos rfl]
                simp only [Res.bind_ok] at p2
                refine hte _ _ _ ⟨ρ3, σ', m1, rm3, rs2.mono ge3, ?_⟩
                cases he : ev C xc e σ' m1 with
                | ok y m2 =>
                  rw [he] at p2
                  simp only [Res.bind_ok] at p2
                  intro ρ4 H4 v4 ge4 rm4 rv4
                  split at p2
                  · rename_i acc hacc
                    split at p2
                    · rename_i hlim
                      have hn4 : ρ4[M1.length]? = some D := (geD.trans ge4).get (by rw [← rm.len]; simp)
                      obtain ⟨a', ha', ro⟩ := rm4.obj _ _ hacc
                      rw [hn4] at ha'
                      cases ha'
                      obtain ⟨accV, eD, ra⟩ := ro
                      obtain ⟨g5, rm5⟩ := fin_putK rm4 hn4 eD (ra.append (.cons rv4 .nil))
                      exact ⟨accV, eD, by rw [← lim_eq, ← ra.length]; exact hlim, ρ4, _, (geD.trans ge4).trans g5, rm5, Post.ge p2 (((gy.trans ge3).trans ge4).trans g5)⟩
                    · exact False.elim p2
                  · exact False.elim p2
                | exc y m2 => rw [he] at p2; exact False.elim p2
                | bad => rw [he] at p2; exact False.elim p2
            | _ => exact False.elim p2
          | exc y m1 => rw [hc] at p2; exact False.elim p2
          | bad => rw [hc] at p2; exact False.elim p2
    · left
      have hl2 : i = w.xs.length := by omega
      subst hl2
      refine ⟨wk.stop ρ H M ge0 rm2 hst, ?_⟩
      rw [List.drop_length] at p2
      unfold lcL at p2
      rw [if_pos hst] at p2
      exact Post.here (R := rD K G) p2 rm2 (.ref hDn)
/-- the block's context -/
theorem CtxOk.blk (c : CtxOk T G C lv X sc N) (cs : Scope) (s : Shared) (H : Hp) (D : Addr) (cl : List (Str × Addr)) (fp : List Addr) : CtxOk T G C lv (X.blk s H cs (compEnvC cs cl D X.env) fp) (relS cs sc) N := by
  have e : (compEnvC cs cl D X.env).scope = relS cs sc := by
    rw [← c.scope]
    rfl
  exact { c with scope := e, names := c.names, nd := c.nd, calm := c.calm, adr := { c.adr with } }
theorem blk_tsc {cs : Scope} {s : Shared} {H : Hp} {D : Addr} {cl : List (Str × Addr)} {fp : List Addr} : ∀ x k, cs.names.lookup x = some k → (k = .local ∨ k = .cell) → (X.blk s H cs (compEnvC cs cl D X.env) fp).env.scope.names.lookup x = some k ∧ (k = .cell → (X.blk s H cs (compEnvC cs cl D X.env) fp).fn x = true) := by
  intro x k h hk
  refine ⟨lookup_relS_keep (sc := X.env.scope) (by rcases hk with rfl | rfl <;> simp) h, fun e => ?_⟩
  subst e
  show (cs.names.lookup x == some .cell) = true
  rw [h]
  rfl
theorem notSet_fold {e : Expr} (h : notSet e = true) (env : Env) : ∀ x, foldedSetIterable e env x = pure x := by
  intro x
  cases e <;> first | rfl | cases h
/-- [e for tg in it if c] -/
theorem lc_parts (c : CtxOk T G C lv X sc N) {elt tg iter : Expr} {ifs : List Expr} {cs : Scope} {own : List (Str × Nat)} {t : Tg} {n : Nat} {w : It} {z x : Ex} (htg : cTg cs N n tg = some t) (hsl : (Tg.slots t).all (fun i => (own.map Prod.snd).contains i) = true)
    (hif : (ifs = [] ∧ z = .cst (.bl true)) ∨ ∃ ce, ifs = [ce] ∧ ∀ X', CtxOk T G C lv X' (relS cs sc) N → PT X' ce (tT X'.K G WF (ev C xc z))) (hel : ∀ X', CtxOk T G C lv X' (relS cs sc) N → PE X' elt (tE X'.K G WF (ev C xc x))) :
    ∃ tt, (∀ (s : Shared) (H : Hp) (D : Addr) (cl : List (Str × Addr)) (fp : List Addr), PTs (X.blk s H cs (compEnvC cs cl D X.env) fp) ifs tt) ∧
      ∀ σ H Q, tE X.K G W (ev C xc (.lc t (own.map Prod.snd) w z x)) σ H Q → tLc (tI X.K G W (evIt C xc w)) (tG X.K G t) tt (tE X.K G WF (ev C xc x)) (own.map (·.2)) σ H Q := by
  have hsl' : ∀ i ∈ Tg.slots t, i ∈ own.map Prod.snd := fun i hi => by
    have := List.all_eq_true.mp hsl i hi
    simpa using this
  have main : ∀ tt, (∀ σ H Q, tT X.K G WF (ev C xc z) σ H Q → tt σ H Q) → ∀ σ H Q, tE X.K G W (ev C xc (.lc t (own.map Prod.snd) w z x)) σ H Q → tLc (tI X.K G W (evIt C xc w)) (tG X.K G t) tt (tE X.K G WF (ev C xc x)) (own.map (·.2)) σ H Q := by
    intro tt htt σ H Q ⟨ρ, σ1, M, rm, rs, p⟩
    simp only [ev] at p
    refine ⟨ρ, σ1, M, rm, rs, (Post.bind (R := rW X.K G) p).imp fun J H1 ⟨ρ1, w1, M1, ge, rm1, wk, p1⟩ => fun D hD => ?_⟩
    exact lc_turns (E := fun c d H' => W c d σ H') (fun _ _ _ _ h => h) hsl' htt (fun _ _ _ h => h) rm1 (rs.mono ge) wk hD p1
  rcases hif with ⟨rfl, rfl⟩ | ⟨ce, rfl, h⟩
  · refine ⟨tYes, fun _ _ _ _ _ => pts_nil, main tYes fun σ H Q ⟨ρ, σ1, M, rm, rs, p⟩ => ?_⟩
    simp only [ev, Res.bind_ok, onlyB] at p
    exact p ρ H true Ge.refl rm rfl
  · exact ⟨_, fun s H D cl fp => pts_one (h _ (c.blk cs s H D cl fp)), main _ fun _ _ _ h => h⟩
theorem s_lc (c : CtxOk T G C lv X sc N) {elt tg iter : Expr} {ifs : List Expr} {cs : Scope} {own : List (Str × Nat)} {pos : Pos} {t : Tg} {n : Nat} {w : It} {z x : Ex} (hb : blkC N sc cs own = true) (hs : notSet iter = true) (htg : cTg cs N n tg = some t) (hsl : (Tg.slots t).all (fun i => (own.map Prod.snd).contains i) = true)
    (hif : (ifs = [] ∧ z = .cst (.bl true)) ∨ ∃ ce, ifs = [ce] ∧ ∀ X', CtxOk T G C lv X' (relS cs sc) N → PT X' ce (tT X'.K G WF (ev C xc z))) (hel : ∀ X', CtxOk T G C lv X' (relS cs sc) N → PE X' elt (tE X'.K G WF (ev C xc x)))
    (hi : PI X tg iter (tI X.K G W (evIt C xc w))) : PE X (.ListComp elt [⟨tg, iter, ifs, 0⟩] cs pos) (tE X.K G W (ev C xc (.lc t (own.map Prod.snd) w z x))) := by
  obtain ⟨tt, h1, h2⟩ := lc_parts (W := W) (w := w) c htg hsl hif hel (iter := iter)
  refine (pe_lc c.calm (by rw [c.names]; exact c.nd) hi (blkOk_by (by rw [c.names, c.scope]; exact hb)) (fun s H D cl fp => s_tg (X := X.blk s H cs (compEnvC cs cl D X.env) fp) c.names c.nd c.calm blk_tsc n tg t htg) h1 (fun s H D cl fp => hel _ (c.blk cs s H D cl fp)) (notSet_fold hs _)).wk h2
end
end Pw
set_option Elab.async false
set_option linter.all false
set_option maxRecDepth 100000
set_option autoImplicit false
set_option maxHeartbeats 4000000
/-! The compile function of expressions is sound. -/
namespace Pw
open PySem PySem.Spec PyProof.Rows L2
def isB : Expr → Bool
  | .BoolOp .. => true
  | _ => false
section
variable {T : Tb} {G : Gd} {C : Cl} {lv : Nat} {X : Cx} {sc : Scope} {N : List Str} {W : WX} {xc : Option Xc}
abbrev Snd (X : Cx) (G : Gd) (C : Cl) (W : WX) (xc : Option Xc) (e : Expr) (x : Ex) : Prop := PE X e (tE X.K G W (ev C xc x)) ∧ PT X e (tT X.K G W (ev C xc x)) ∧ (isB e = true → PW X e (tT X.K G W (ev C xc x)))
theorem snd_val {e : Expr} {x : Ex} (h : PE X e (tE X.K G W (ev C xc x))) (hb : isB e = false) (he : ∀ whole, PySem.isTrue e X.env whole = (do let v ← whole; standAt e.pos; holding [v] (truthy v)) := by intro _; rfl) : Snd X G C W xc e x :=
  ⟨h, (pt_val h he).wk fun σ H Q q => tT_of q, fun z => by rw [hb] at z; cases z⟩
theorem snd_two {e : Expr} {x : Ex} (h : PE X e (tE X.K G W (ev C xc x)) ∧ PT X e (tT X.K G W (ev C xc x))) (hb : isB e = false) : Snd X G C W xc e x := ⟨h.1, h.2, fun z => by rw [hb] at z; cases z⟩
theorem appEs_nil : ∀ (n : Nat) {sc : Scope} {N : List Str} {es : List Expr} {xs : Exs}, cEs T n sc N es = some xs → es = [] → xs = .nil
  | 0, _, _, _, _, h, _ => by simp [cEs] at h
  | n + 1, _, _, es, xs, h, e => by
    subst e
    simp only [cEs, Option.some.injEq] at h
    exact h.symm
theorem cEs_len : ∀ (n : Nat) {sc : Scope} {N : List Str} {es : List Expr} {xs : Exs}, cEs T n sc N es = some xs → es.all notStar = true → ∀ σ m ds m', evs C xc xs σ m = .ok ds m' → ds.length = es.length
  | 0, _, _, _, _, h, _, _, _, _, _, _ => by simp [cEs] at h
  | n + 1, sc, N, [], xs, h, _, σ, m, ds, m', q => by
    simp only [cEs, Option.some.injEq] at h
    subst h
    simp only [evs] at q
    cases q
    rfl
  | n + 1, sc, N, e :: r, xs, h, hn, σ, m, ds, m', q => by
    simp only [List.all_cons, Bool.and_eq_true] at hn
    have h' : (cE T n sc N e).bind (fun x => (cEs T n sc N r).map fun xs => Exs.cons false x xs) = some xs := by
      cases e <;> first | exact h | cases hn.1
    simp only [Option.bind_eq_some_iff, Option.map_eq_some_iff] at h'
    obtain ⟨x, h1, ys, h2, rfl⟩ := h'
    simp only [evs] at q
    cases h3 : ev C xc x σ m with
    | ok d m1 =>
      rw [h3] at q
      simp only [Res.bind_ok] at q
      cases h4 : evs C xc ys σ m1 with
      | ok ds1 m2 =>
        rw [h4] at q
        simp only [Res.bind_ok] at q
        cases q
        have := cEs_len n h2 hn.2 σ m1 ds1 _ h4
        simp [this]
      | exc _ _ => rw [h4] at q; cases q
      | bad => rw [h4] at q; cases q
    | exc _ _ => rw [h3] at q; cases q
    | bad => rw [h3] at q; cases q
end
structure Sn (T : Tb) (G : Gd) (C : Cl) (lv : Nat) (N : List Str) (xc : Option Xc) (n : Nat) : Prop where
  e : ∀ (X : Cx) (sc : Scope) (W : WX), CtxOk T G C lv X sc N → Takes X W → ∀ e x, cE T n sc N e = some x → Snd X G C W xc e x
  es : ∀ (X : Cx) (sc : Scope) (W : WX), CtxOk T G C lv X sc N → Takes X W → ∀ es xs, cEs T n sc N es = some xs → PA X es (tA X.K G W (evs C xc xs))
  call : ∀ (X : Cx) (sc : Scope) (W : WX), CtxOk T G C lv X sc N → Takes X W → ∀ f es x p pos, cCall T n sc N f es = some x → PE X (.Call (.Name f p) es [] pos) (tE X.K G W (ev C xc x))
  it : ∀ (X : Cx) (sc : Scope) (W : WX), CtxOk T G C lv X sc N → Takes X W → ∀ tg e w, cIt T n sc N tg e = some w → PI X tg e (tI X.K G W (evIt C xc w))
section
variable {T : Tb} {G : Gd} {C : Cl} {lv : Nat} {N : List Str} {xc : Option Xc}
theorem sn_zero : Sn T G C lv N xc 0 where
  e := fun _ _ _ _ _ _ _ h => by simp [cE] at h
  es := fun _ _ _ _ _ _ _ h => by simp [cEs] at h
  call := fun _ _ _ _ _ _ _ _ _ _ h => by simp [cCall] at h
  it := fun _ _ _ _ _ _ _ _ h => by simp [cIt] at h
theorem sn_es {n : Nat} (ih : Sn T G C lv N xc n) (X : Cx) (sc : Scope) (W : WX) (c : CtxOk T G C lv X sc N) (tk : Takes X W) (es : List Expr) (xs : Exs) (h : cEs T (n + 1) sc N es = some xs) : PA X es (tA X.K G W (evs C xc xs)) := by
  cases es with
  | nil =>
    simp only [cEs, Option.some.injEq] at h
    subst h
    exact s_nil
  | cons e r =>
    by_cases hs : notStar e = true
    · have h' : (cE T n sc N e).bind (fun x => (cEs T n sc N r).map fun xs => Exs.cons false x xs) = some xs := by
        cases e <;> first | exact h | cases hs
      simp only [Option.bind_eq_some_iff, Option.map_eq_some_iff] at h'
      obtain ⟨x, h1, ys, h2, rfl⟩ := h'
      exact s_cons hs (ih.e X sc W c tk e x h1).1 (ih.es X sc W c tk r ys h2)
    · cases e with
      | Starred e' p =>
        simp only [cEs, Option.bind_eq_some_iff, Option.map_eq_some_iff] at h
        obtain ⟨x, h1, ys, h2, rfl⟩ := h
        exact s_star (ih.e X sc W c tk e' x h1).1 (ih.es X sc W c tk r ys h2)
      | _ => exact absurd rfl hs
theorem sn_call {n : Nat} (ih : Sn T G C lv N xc n) (X : Cx) (sc : Scope) (W : WX) (c : CtxOk T G C lv X sc N) (tk : Takes X W) (f : Str) (es : List Expr) (x : Ex) (p pos : Pos) (h : cCall T (n + 1) sc N f es = some x) : PE X (.Call (.Name f p) es [] pos) (tE X.K G W (ev C xc x)) := by
  unfold cCall at h
  split at h
  · rename_i hn
    split at h
    · rename_i hb
      simp only [Option.bind_eq_some_iff] at h
      obtain ⟨b, h1, h2⟩ := h
      split at h2
      · rename_i hl
        simp only [Option.map_eq_some_iff] at h2
        obtain ⟨xs, h3, rfl⟩ := h2
        exact s_blt c hb h1 hl hn (ih.es X sc W c tk es xs h3)
      · cases h2
    · split at h
      · rename_i hg
        split at h
        · rename_i g hf
          split at h
          · rename_i a ds ha hd
            split at h
            · rename_i hc
              simp only [Option.map_eq_some_iff] at h
              obtain ⟨xs, h3, rfl⟩ := h
              exact s_call c tk hg hf ha hd hc.2.1 hc.2.2 hn (ih.es X sc W c tk es xs h3)
            · cases h
          · cases h
        · split at h
          · rename_i k hk
            split at h
            · rename_i hc
              simp only [Option.map_eq_some_iff] at h
              obtain ⟨xs, h3, rfl⟩ := h
              exact s_new c hg hk hc.1 hc.2 hn (ih.es X sc W c tk es xs h3) (appEs_nil n h3) (cEs_len n h3 hn)
            · cases h
          · cases h
      · cases h
  · cases h
theorem sn_it {n : Nat} (ih : Sn T G C lv N xc n) (X : Cx) (sc : Scope) (W : WX) (c : CtxOk T G C lv X sc N) (tk : Takes X W) (tg e : Expr) (w : It) (h : cIt T (n + 1) sc N tg e = some w) : PI X tg e (tI X.K G W (evIt C xc w)) := by
  have plain : (cE T n sc N e).map It.e = some w → PI X tg e (tI X.K G W (evIt C xc w)) := fun h => by
    simp only [Option.map_eq_some_iff] at h
    obtain ⟨x, h1, rfl⟩ := h
    exact s_walk (ih.e X sc W c tk e x h1).1
  unfold cIt at h
  split at h
  · split at h
    · rename_i hc
      obtain ⟨rfl, hb, hn⟩ := hc
      simp only [Option.map_eq_some_iff] at h
      obtain ⟨x, h1, rfl⟩ := h
      exact s_rng1 c hb hn (ih.e X sc W c tk _ x h1).1
    · exact plain h
  · split at h
    · rename_i hc
      obtain ⟨rfl, hb, hn, hn2⟩ := hc
      simp only [Option.bind_eq_some_iff, Option.map_eq_some_iff] at h
      obtain ⟨x, h1, y, h2, rfl⟩ := h
      exact s_rng2 c hb hn hn2 (ih.e X sc W c tk _ x h1).1 (ih.e X sc W c tk _ y h2).1
    · exact plain h
  · exact plain h
theorem sn_e {n : Nat} (ih : Sn T G C lv N xc n) (X : Cx) (sc : Scope) (W : WX) (c : CtxOk T G C lv X sc N) (tk : Takes X W) (e : Expr) (x : Ex) (h : cE T (n + 1) sc N e = some x) : Snd X G C W xc e x := by
  have E := fun e x h => ih.e X sc W c tk e x h
  unfold cE at h
  split at h
  · cases h; exact snd_val (s_cst pe_non fun _ _ => .non) rfl
  · cases h; exact snd_val (s_cst pe_bl fun _ _ => .bl _) rfl
  · cases h; exact snd_val (s_cst pe_int fun _ _ => .int _) rfl
  · split at h
    · rename_i hs
      cases h
      exact snd_val (s_cst pe_str fun _ _ => .str _ hs) rfl
    · cases h
  · split at h
    · rename_i i hi
      cases h
      exact snd_val (s_var c hi) rfl
    · split at h
      · rename_i hg
        simp only [Option.map_eq_some_iff] at h
        obtain ⟨g, h1, rfl⟩ := h
        exact snd_val (s_glo c hg h1) rfl
      · cases h
  · simp only [Option.bind_eq_some_iff, Option.map_eq_some_iff] at h
    obtain ⟨o, h0, x, h1, y, h2, rfl⟩ := h
    exact snd_val (s_bin c h0 (E _ _ h1).1 (E _ _ h2).1) rfl
  · simp only [Option.map_eq_some_iff] at h
    obtain ⟨x, h1, rfl⟩ := h
    exact snd_two (s_not (E _ _ h1).1 (E _ _ h1).2.1) rfl
  · cases h
    exact snd_val s_neg rfl
  · simp only [Option.map_eq_some_iff] at h
    obtain ⟨x, h1, rfl⟩ := h
    exact snd_two (s_isn (E _ _ h1).1).1 rfl
  · simp only [Option.map_eq_some_iff] at h
    obtain ⟨x, h1, rfl⟩ := h
    exact snd_two (s_isn (E _ _ h1).1).2 rfl
  · simp only [Option.bind_eq_some_iff, Option.map_eq_some_iff] at h
    obtain ⟨o, h0, x, h1, y, h2, rfl⟩ := h
    exact snd_two (s_cmp c h0 (E _ _ h1).1 (E _ _ h2).1) rfl
  · split at h
    · rename_i hn
      simp only [Option.bind_eq_some_iff, Option.map_eq_some_iff] at h
      obtain ⟨o, h0, o', h0', x, h1, y, h2, z, h3, rfl⟩ := h
      exact snd_two (s_chn c h0 h0' (E _ _ h1).1 (E _ _ h2).1 (E _ _ h3).1 hn) rfl
    · cases h
  · rename_i op a pos
    have q := E _ _ h
    refine ⟨pe_one q.1, ?_⟩
    cases op with
    | And => exact ⟨(pw_and1 q.2.1).pt, fun _ => pw_and1 q.2.1⟩
    | Or => exact ⟨(pw_or1 q.2.1).pt, fun _ => pw_or1 q.2.1⟩
  · simp only [Option.bind_eq_some_iff, Option.map_eq_some_iff] at h
    obtain ⟨x, h1, y, h2, rfl⟩ := h
    have q := s_and (E _ _ h1).1 (E _ _ h1).2.1 (E _ _ h2).1 ((E _ _ h2).2.2 rfl)
    exact ⟨q.1, q.2.pt, fun _ => q.2⟩
  · simp only [Option.bind_eq_some_iff, Option.map_eq_some_iff] at h
    obtain ⟨x, h1, y, h2, rfl⟩ := h
    have q := s_or (E _ _ h1).1 (E _ _ h1).2.1 (E _ _ h2).1 ((E _ _ h2).2.2 rfl)
    exact ⟨q.1, q.2.pt, fun _ => q.2⟩
  · simp only [Option.bind_eq_some_iff, Option.map_eq_some_iff] at h
    obtain ⟨z, h0, x, h1, y, h2, rfl⟩ := h
    exact snd_two (s_ite (E _ _ h0).2.1 (E _ _ h1).1 (E _ _ h2).1 (E _ _ h1).2.1 (E _ _ h2).2.1) rfl
  · simp only [Option.map_eq_some_iff] at h
    obtain ⟨xs, h1, rfl⟩ := h
    exact snd_val (s_tup (ih.es X sc W c tk _ xs h1)) rfl
  · simp only [Option.map_eq_some_iff] at h
    obtain ⟨xs, h1, rfl⟩ := h
    exact snd_val (s_lst (ih.es X sc W c tk _ xs h1)) rfl
  · simp only [Option.bind_eq_some_iff, Option.map_eq_some_iff] at h
    obtain ⟨x, h1, y, h2, rfl⟩ := h
    exact snd_val (s_slL (E _ _ h1).1 (E _ _ h2).1) rfl
  · simp only [Option.bind_eq_some_iff, Option.map_eq_some_iff] at h
    obtain ⟨x, h1, y, h2, rfl⟩ := h
    exact snd_val (s_slR (E _ _ h1).1 (E _ _ h2).1) rfl
  · simp only [Option.bind_eq_some_iff, Option.map_eq_some_iff] at h
    obtain ⟨x, h1, y, h2, z, h3, rfl⟩ := h
    exact snd_val (s_slB (E _ _ h1).1 (E _ _ h2).1 (E _ _ h3).1) rfl
  · split at h
    · rename_i hs
      simp only [Option.bind_eq_some_iff, Option.map_eq_some_iff] at h
      obtain ⟨x, h1, y, h2, rfl⟩ := h
      exact snd_val (s_sub hs (E _ _ h1).1 (E _ _ h2).1) rfl
    · cases h
  · split at h
    · rename_i hc
      obtain ⟨rfl, hb⟩ := hc
      split at h
      · split at h
        · rename_i hn
          simp only [Option.bind_eq_some_iff] at h
          obtain ⟨y, h1, t, h2, h3⟩ := h
          split at h3
          · rename_i hz
            cases h3
            exact snd_val (s_isiN c hb hn (E _ _ h1).1 h2 hz) rfl
          · cases h3
        · cases h
      · split at h
        · rename_i hn
          simp only [Option.bind_eq_some_iff, Option.map_eq_some_iff] at h
          obtain ⟨y, h1, t, h2, rfl⟩ := h
          exact snd_val (s_isi1 c hb hn (E _ _ h1).1 h2) rfl
        · cases h
      · cases h
    · exact snd_val (ih.call X sc W c tk _ _ _ _ _ h) rfl
  · split at h
    · rename_i hc
      simp only [Bool.and_eq_true, decide_eq_true_eq] at hc
      simp only [Option.bind_eq_some_iff, Option.map_eq_some_iff] at h
      obtain ⟨k, h0, x, h1, xs, h2, rfl⟩ := h
      exact snd_val (s_met c tk hc.1.1.1 hc.1.1.2 hc.1.2 hc.2 h0 (E _ _ h1).1 (ih.es X sc W c tk _ xs h2) (appEs_nil n h2)) rfl
    · cases h
  · split at h
    · rename_i hc
      simp only [Option.bind_eq_some_iff, Option.map_eq_some_iff] at h
      obtain ⟨k, h0, x, h1, rfl⟩ := h
      exact snd_val (s_fld c hc h0 (E _ _ h1).1) rfl
    · cases h
  · simp only [Option.bind_eq_some_iff] at h
    obtain ⟨own, h0, h⟩ := h
    split at h
    · rename_i hc
      simp only [Bool.and_eq_true] at hc
      simp only [Option.bind_eq_some_iff] at h
      obtain ⟨t, h1, h⟩ := h
      split at h
      · rename_i hsl
        simp only [Option.bind_eq_some_iff, Option.map_eq_some_iff] at h
        obtain ⟨w, h2, z, h3, x, h4, rfl⟩ := h
        refine snd_val (s_lc c hc.1 hc.2 h1 hsl ?_ (fun X' c' => (ih.e X' _ WF c' takes0 _ x h4).1) (ih.it X sc W c tk _ _ w h2)) rfl
        split at h3
        · cases h3; exact .inl ⟨rfl, rfl⟩
        · exact .inr ⟨_, rfl, fun X' c' => (ih.e X' _ WF c' takes0 _ z h3).2.1⟩
        · cases h3
      · cases h
    · cases h
  · cases h
theorem sn_all : ∀ n, Sn T G C lv N xc n
  | 0 => sn_zero
  | n + 1 => ⟨sn_e (sn_all n), sn_es (sn_all n), sn_call (sn_all n), sn_it (sn_all n)⟩
end
end Pw
set_option Elab.async false
set_option linter.all false
set_option maxRecDepth 100000
set_option autoImplicit false
set_option maxHeartbeats 2000000
/-! From the model's statements to the interpreter's. -/
namespace Pw
open PySem PySem.Spec PyProof.Rows L2
def compSc : Expr → Option Scope
  | .ListComp _ _ s _ => some s
  | .SetComp _ _ s _ => some s
  | .DictComp _ _ _ s _ => some s
  | _ => none
/-- whether a comprehension's value changes places with a name -/
def swB (sc : Scope) (tg e : Expr) : Bool := match compSc e with
  | none => false
  | some cs => (match tg with
    | .Name t pos => sc.kind == .function && sc.names.lookup t == some .local && pos.line == e.pos.line && !(cs.names.any fun (n, k) => n == t && (k == .local || k == .cell))
    | _ => false)
/-- which names are stored the other way round: none where it is not told -/
def spC (sc : Scope) (ts vs : List Expr) : Option (Option (List Str)) :=
  if !(ts.length == 2 || ts.length == 3) || vs.length != ts.length || sc.kind != .function then some none
  else if vs.any (fun | .Starred .. => true | _ => false) then some none
  else if (ts.filterMap fun
    | .Name id pos => if sc.names.lookup id == some .local && pos.line == (ts.head?.map (·.pos.line)).getD 0 then some id else none
    | _ => none).length != ts.length || (ts.filterMap fun
    | .Name id pos => if sc.names.lookup id == some .local && pos.line == (ts.head?.map (·.pos.line)).getD 0 then some id else none
    | _ => none).eraseDups.length != (ts.filterMap fun
    | .Name id pos => if sc.names.lookup id == some .local && pos.line == (ts.head?.map (·.pos.line)).getD 0 then some id else none
    | _ => none).length then some none
  else if vs.all (foldedForSure 8) then some none
  else if vs.all (constantsAlone 8) then none
  else some (some (ts.filterMap fun
    | .Name id pos => if sc.names.lookup id == some .local && pos.line == (ts.head?.map (·.pos.line)).getD 0 then some id else none
    | _ => none))
def spB (sc : Scope) (tg e : Expr) : Option (Option (List Str)) := match tg, e with
  | .Tuple ts _ _, .Tuple vs _ _ => spC sc ts vs
  | .List _ _, _ => none
  | _, _ => some none
theorem sw_eq {sc : Scope} {env : Env} (hs : env.scope = sc) (hk : sc.kind = .function) (tg e : Expr) (l : Nat) : swapsWith e (some tg) l env = pure (swB sc tg e) := by
  have hb : env.blockKind = .function := by unfold Env.blockKind; rw [hs, hk]; rfl
  unfold swapsWith swB
  cases e <;> try rfl
  all_goals
    cases tg <;> try rfl
    simp only [compSc, hb, Env.kindOf, hs, hk]
theorem sw_none {env : Env} {e : Expr} (h : (compSc e).isNone = true) (l : Nat) : swapsWith e none l env = pure false := by
  unfold swapsWith
  cases e <;> first | rfl | cases h
theorem sp_eq {sc : Scope} {env : Env} (hs : env.scope = sc) (hk : sc.kind = .function) {tg e : Expr} {r : Option (List Str)} (h : spB sc tg e = some r) : swappedStores [tg] e env = pure r := by
  have hb : env.blockKind = .function := by unfold Env.blockKind; rw [hs, hk]; rfl
  unfold spB at h
  split at h
  · unfold swappedStores
    simp only [hb, Env.kindOf, hs]
    unfold spC at h
    rw [hk] at h
    split at h
    · rename_i h1
      cases h
      exact if_pos h1
    rename_i h1
    refine Eq.trans (if_neg h1) ?_
    split at h
    · rename_i h2
      cases h
      exact if_pos h2
    rename_i h2
    refine Eq.trans (if_neg h2) ?_
    split at h
    · rename_i h3
      cases h
      exact if_pos h3
    rename_i h3
    refine Eq.trans (if_neg h3) ?_
    split at h
    · rename_i h4
      cases h
      exact if_pos h4
    rename_i h4
    refine Eq.trans (if_neg h4) ?_
    split at h
    · cases h
    rename_i h5
    cases h
    exact if_neg h5
  · cases h
  · cases h
    unfold swappedStores
    split
    · rename_i hq
      exfalso
      split at hq
      · rename_i hl hr q1 q2
        cases hq
        cases q1
        exact q2 _ _ _ _ _ _ rfl rfl
      · rename_i hl hr q1 q2
        cases hq
        cases q1
        simp_all
      · cases hq
    · rfl
/-! ### the suite behind an except: a small language of its own -/
def cHa (T : Tb) (sc : Scope) (err : Str) : Expr → Option Ex
  | .Constant .none _ _ => some (.cst .non)
  | .Constant (.bool b) _ _ => some (.cst (.bl b))
  | .Constant (.int i) _ _ => some (.cst (.int i))
  | .Constant (.str s) _ _ => if s.cps.all (· < 0x110000) then some (.cst (.str s)) else none
  | .Attribute (.Name x _) f _ => if x = err then (ixS f T.nms 0).map .xfl else none
  | .Attribute (.Attribute (.Name x _) f _) g _ => if x = err ∧ ixS g T.nms 0 = some nSteps then (ixS f T.nms 0).map fun k => .fld nSteps (.xfl k) else none
  | .Call (.Name y _) [.Name x _, .Name c _] [] _ => if y = "isinstance" ∧ x = err ∧ isBlt T sc y = true ∧ isGl sc c = true then (T.xcs.lookup c).map .xis else none
  | _ => none
mutual
def cHe (T : Tb) (sc : Scope) (err : Str) : Nat → Expr → Option Ex
  | 0, _ => none
  | n + 1, e => match e with
    | .Tuple es _ _ => (cHs T sc err n es).map .tup
    | .List es _ => (cHs T sc err n es).map .lst
    | .IfExp c a b _ => (match c with
      | .Call (.Name _ _) [.Name _ _, .Name _ _] [] _ => (cHa T sc err c).bind fun z => (cHe T sc err n a).bind fun x => (cHe T sc err n b).map fun y => .ite z x y
      | _ => none)
    | e => cHa T sc err e
def cHs (T : Tb) (sc : Scope) (err : Str) : Nat → List Expr → Option Exs
  | 0, _ => none
  | _ + 1, [] => some .nil
  | n + 1, e :: r => if notStar e then (cHe T sc err n e).bind fun x => (cHs T sc err n r).map fun xs => .cons false x xs else none
end
/-- the suite: one assignment to a name, or one return -/
def cHb (T : Tb) (n : Nat) (sc : Scope) (N : List Str) (err : Str) : List Stmt → Option Sms
  | [.Assign [.Name y _] e _] => if (compSc e).isNone then (match sc.names.lookup y with
    | some .local => (ixS y N 0).bind fun i => (cHe T sc err n e).map fun x => .cons (.asg (.v i) x) .nil
    | some .cell => (ixS y N 0).bind fun i => (cHe T sc err n e).map fun x => .cons (.asg (.v i) x) .nil
    | _ => none) else none
  | [.Return (some e) _] => (cHe T sc err n e).map fun x => .cons (.ret x) .nil
  | _ => none
mutual
def cS (T : Tb) : Nat → Scope → List Str → Stmt → Option Sm
  | 0, _, _, _ => none
  | n + 1, sc, N, st => match st with
    | .Assign [.Subscript o i _] e _ => if notSlice i && (compSc e).isNone then (cE T n sc N e).bind fun x => (cE T n sc N o).bind fun y => (cE T n sc N i).map fun z => .sts y z x else none
    | .Assign [tg] e _ => (cTg sc N n tg).bind fun t => if decide (swB sc tg e = false) && decide (spB sc tg e = some none) then (cE T n sc N e).map fun x => .asg t x else
      (match tg, e with
        | .Tuple [.Name x _, .Name y _] _ _, .Tuple [a, b] _ _ => if spB sc tg e = some (some [x, y]) ∧ sc.names.lookup x = some .local ∧ sc.names.lookup y = some .local ∧ x ≠ y ∧ [a, b].all notStar = true then (cEs T n sc N [a, b]).map fun xs => .asg t (.tup xs) else none
        | .Name y py, .ListComp _ _ cs pos => if sc.names.lookup y = some .local ∧ (py.line == pos.line) = true ∧ (cs.names.any fun (n, k) => n == y && (k == .local || k == .cell)) = false then (cE T n sc N e).map fun x => .asg t x else none
        | _, _ => none)
    | .AugAssign (.Name x _) op e _ => if sc.names.lookup x = some .local ∨ sc.names.lookup x = some .cell then (ixS x N 0).bind fun i => (match op with
        | .Add => (cE T n sc N e).map fun y => .aug .add i y
        | .Sub => (cE T n sc N e).map fun y => .aug .sub i y
        | _ => none) else none
    | .If c a b _ => (cE T n sc N c).bind fun z => (cSs T n sc N a).bind fun x => (cSs T n sc N b).map fun y => .iff z x y
    | .While c b [] _ => (cE T n sc N c).bind fun z => (cSs T n sc N b).map fun x => .whl z x
    | .For tg it b [] _ => if notSet it then (cTg sc N n tg).bind fun t => (cIt T n sc N tg it).bind fun w => (cSs T n sc N b).map fun x => .loop t w x .nil else none
    | .Return (some e) _ => (cE T n sc N e).map .ret
    | .Return none _ => some (.ret (.cst .non))
    | .Expr (.Constant (.str _) _ _) _ => some .pass
    | .Expr e _ => if (compSc e).isNone then (cE T n sc N e).map .exp else none
    | .Raise (some (.Call (.Name x _) (e :: es) [] _)) none _ => if isGl sc x && (e :: es).all notStar then (T.xcs.lookup x).bind fun c => if (T.xfn c).any (fun l => !l.isEmpty) then (cEs T n sc N (e :: es)).map fun xs => .raise c xs else none else none
    | .Try body [.ExceptHandler (some (.Name x _)) (some nm) [h] _] [] [] _ => if isGl sc x = true ∧ sc.names.lookup nm = some .local ∧ okName nm = true then (ixS nm N 0).bind fun i => (T.xcs.lookup x).bind fun c => (cSs T n sc N body).bind fun b => (cHb T n sc N nm [h]).map fun s => .try_ b (.cons c (some i) s .nil) else none
    | .Pass _ => some .pass
    | .Break _ => some .brk
    | .Continue _ => some .cnt
    | _ => none
def cSs (T : Tb) : Nat → Scope → List Str → List Stmt → Option Sms
  | 0, _, _, _ => none
  | _ + 1, _, _, [] => some .nil
  | n + 1, sc, N, s :: r => (cS T n sc N s).bind fun x => (cSs T n sc N r).map fun y => .cons x y
end
end Pw
set_option Elab.async false
set_option linter.all false
set_option maxRecDepth 100000
set_option autoImplicit false
set_option maxHeartbeats 4000000
/-! Statements: readings, rules. -/
namespace Pw
open PySem PySem.Spec PyProof.Rows L2
/-- what is wanted of a statement's end -/
def PostS (K : PySem.W.Frag) (G : Gd) (D : Ends) (W : WX) (ρ : List Addr) (H : Hp) (r : SR) : Prop := match r with
  | .nx σ M => ∀ ρ' H' σv, Ge K G ρ H ρ' H' → RM K G H' ρ' M → Rs K G H' ρ' σ σv → D.nx σv H'
  | .brk σ M => ∀ ρ' H' σv, Ge K G ρ H ρ' H' → RM K G H' ρ' M → Rs K G H' ρ' σ σv → D.bk σv H'
  | .cnt σ M => ∀ ρ' H' σv, Ge K G ρ H ρ' H' → RM K G H' ρ' M → Rs K G H' ρ' σ σv → D.ct σv H'
  | .ret d M => ∀ ρ' H' v, Ge K G ρ H ρ' H' → RM K G H' ρ' M → Rp K G H' ρ' d v → D.rt v H'
  | .exc x σ M => ∀ ρ' H' σv cls dd, Ge K G ρ H ρ' H' → RM K G H' ρ' M → Rs K G H' ρ' σ σv → RX K G H' ρ' x cls dd → W cls dd σv H'
  | .bad => False
def tS (K : PySem.W.Frag) (G : Gd) (W : WX) (f : Sg → Mem → SR) : TS := fun D σv H => ∃ ρ σ M, RM K G H ρ M ∧ Rs K G H ρ σ σv ∧ PostS K G D W ρ H (f σ M)
section
variable {K : PySem.W.Frag} {G : Gd} {D D' : Ends} {W W' : WX} {ρ ρ1 : List Addr} {H H1 : Hp} {r : SR} {M : Mem} {σ : Sg} {σv : VS}
theorem PostS.ge (h : PostS K G D W ρ H r) (g : Ge K G ρ H ρ1 H1) : PostS K G D W ρ1 H1 r := by
  cases r with
  | nx σ M => exact fun ρ' H' v a b c => h ρ' H' v (g.trans a) b c
  | brk σ M => exact fun ρ' H' v a b c => h ρ' H' v (g.trans a) b c
  | cnt σ M => exact fun ρ' H' v a b c => h ρ' H' v (g.trans a) b c
  | ret d M => exact fun ρ' H' v a b c => h ρ' H' v (g.trans a) b c
  | exc x σ M => exact fun ρ' H' v cls dd a b c => h ρ' H' v cls dd (g.trans a) b c
  | bad => exact h
/-- an expression ahead -/
theorem of_expr {α β : Type} {R : Rel α β} {e : Res α} {f : α → Mem → SR} (rs : Rs K G H ρ σ σv) (h : PostS K G D W ρ H (SR.of e σ f)) :
    Post K G R (fun c d H' => W c d σv H') ρ H e fun v H1 => ∃ ρ1 d M1, Ge K G ρ H ρ1 H1 ∧ RM K G H1 ρ1 M1 ∧ R H1 ρ1 d v ∧ PostS K G D W ρ1 H1 (f d M1) := by
  cases e with
  | ok d m => exact fun ρ' H' v a b c => ⟨ρ', d, m, a, b, c, PostS.ge h a⟩
  | exc x m => exact fun ρ' H' cls dd a b c => h ρ' H' σv cls dd a b (rs.mono a) c
  | bad => exact h
end
/-- how an exception of the text is raised -/
def tRz (C0 : Addr) (names : List Str) (ta : TA) : VS → Hp → XK → Prop := fun σ H Q => ta σ H fun vs H1 => vs.length = names.length ∧ vs.length ≤ 900 ∧
  ∀ d fs', H1 d = none → (∀ f v, (names.zip vs).lookup f = some v → fs'.lookup f = some v) → Q (.ref C0) (some d) (upd H1 d (.xd fs'))
def RzP (prog : Program) (w : World) (K : PySem.W.Frag) (mg : Str → Option Value) (base : Heap) (lv : Nat) (x : Str) (C0 : Addr) (names : List Str) : Prop :=
  ∀ (X : Cx), X.prog = prog → X.w = w → X.K = K → X.mg = mg → X.base = base → Room (lv + 2) X.A → Gl X x → (x == ("__debug__" : Str)) = false → ∀ e es ta p pos, notStar e = true → es.all notStar = true → PA X (e :: es) ta → PMk X (.Call (.Name x p) (e :: es) [] pos) (tRz C0 names ta)
structure StOk (T : Tb) (G : Gd) (C : Cl) (lv : Nat) (X : Cx) (sc : Scope) (N : List Str) : Prop where
  cx : CtxOk T G C lv X sc N
  fnc : ∀ x, sc.names.lookup x = some .cell → X.fn x = true
  kind : sc.kind = .function
  stk : X.stack = X.env :: X.outer
  frm : X.env.frame = some X.env.locals
  pas : PassesOwn (model X.prog X.w) X.A X.env X.xe
  xg : ∀ x c, T.xcs.lookup x = some c → X.mg x = some (.ref (G.cA c))
  rz : ∀ x c, T.xcs.lookup x = some c → C.xfs c ≠ [] → RzP X.prog X.w X.K X.mg X.base lv x (G.cA c) ((C.xfs c).map G.nm)
  xf : ∀ c l, T.xfn c = some l → C.xfs c = l
  xin : ∀ c, ∀ a ∈ C.xfs c, ∀ b ∈ C.xfs c, G.nm a = G.nm b → a = b
  xis : ∀ x c k, T.xcs.lookup x = some c → C.isX k = true → PySem.W.exmOne X.K (.ref (G.cA k)) (.ref (G.cA c)) = some (C.isA k c) ∧ PySem.W.kitOne X.K (.ref (G.cA k)) (.ref (G.cA c)) = some (C.isA k c)
  xfc : ∀ k, C.isX k = true → XfC X.K (G.cA k) ∧ ExcC X.K (G.cA k)
  xno : ∀ k f, C.isX k = true → f ∈ C.xfs k → PySem.W.findIn X.K (.ref (G.cA k)) (G.nm f) = some none
section
variable {T : Tb} {G : Gd} {C : Cl} {lv : Nat} {X : Cx} {sc : Scope} {N : List Str} {W : WX} {xc : Option Xc}
theorem StOk.tr (c : StOk T G C lv X sc N) (pn : List (Addr × Obj)) (xe : Value → Shared → Prop) (p : PassesOwn (model X.prog X.w) X.A X.env xe) : StOk T G C lv (X.tr pn xe) sc N :=
  { c with cx := { c.cx with adr := { c.cx.adr with } }, pas := p }
theorem tsc_own (c : StOk T G C lv X sc N) : ∀ x k, sc.names.lookup x = some k → (k = .local ∨ k = .cell) → X.env.scope.names.lookup x = some k ∧ (k = .cell → X.fn x = true) := fun x k h _ =>
  ⟨by rw [c.cx.scope]; exact h, fun e => c.fnc x (by rw [h, e])⟩
/-- target = expression -/
theorem t_asg (c : StOk T G C lv X sc N) {tg e : Expr} {t : Tg} {n : Nat} {x : Ex} {pos : Pos} (htg : cTg sc N n tg = some t) (hsw : swB sc tg e = false) (hsp : spB sc tg e = some none) (he : PE X e (tE X.K G W (ev C xc x))) :
    PS X (.Assign [tg] e pos) (tS X.K G W (exm C xc (.asg t x))) := by
  have h1 : (assignEach [tg] X.env).map (·.2) = [assign tg X.env] := by
    cases n with
    | zero => cases htg
    | succ n =>
      unfold cTg at htg
      split at htg <;> first | rfl | cases htg
  refine (ps_asg he (s_tg (G := G) c.cx.names c.cx.nd c.cx.calm (tsc_own c) n tg t htg) (by show swapsWith e (some tg) pos.line X.env = _; rw [sw_eq c.cx.scope c.kind, hsw]) (sp_eq c.cx.scope c.kind hsp) h1).wk fun D σv H ⟨ρ, σ, M, rm, rs, p⟩ => ?_
  simp only [exm] at p
  refine ⟨ρ, σ, M, rm, rs, (of_expr (R := rD X.K G) rs p).imp fun v H1 ⟨ρ1, d, M1, ge, rm1, r1, p1⟩ => ?_⟩
  cases ha : asgT t d σ with
  | none => rw [ha] at p1; exact False.elim p1
  | some σ' =>
    rw [ha] at p1
    exact ⟨ρ1, σ, d, σ', rs.mono ge, r1, ha, fun σv' rs' _ => p1 ρ1 H1 σv' Ge.refl rm1 rs'⟩
theorem t_if {z : Ex} {a b : List Stmt} {x y : Sms} {e : Expr} {pos : Pos} (hz : PT X e (tT X.K G W (ev C xc z))) (ha : PSs X a (tS X.K G W (exms C xc x))) (hb : PSs X b (tS X.K G W (exms C xc y))) : PS X (.If e a b pos) (tS X.K G W (exm C xc (.iff z x y))) := by
  refine (ps_if hz ha hb).wk fun D σv H ⟨ρ, σ, M, rm, rs, p⟩ => ?_
  simp only [exm] at p
  refine ⟨ρ, σ, M, rm, rs, ?_⟩
  cases hh : ev C xc z σ M with
  | ok d m =>
    rw [hh] at p
    cases d with
    | bl k =>
      intro ρ' H' b ge rm' rb
      have hb : k = b := by
        have : Pw.D.bl k = Pw.D.bl b := rb
        cases this
        rfl
      subst hb
      cases k with
      | true => rw [if_pos rfl]; exact ⟨ρ', σ, m, rm', rs.mono ge, PostS.ge p ge⟩
      | false => rw [if_neg Bool.false_ne_true]; exact ⟨ρ', σ, m, rm', rs.mono ge, PostS.ge p ge⟩
    | _ => exact False.elim p
  | exc x m => rw [hh] at p; exact fun ρ' H' cls dd a b c => p ρ' H' σv cls dd a b (rs.mono a) c
  | bad => rw [hh] at p; exact p
theorem t_ret {e : Expr} {x : Ex} {pos : Pos} (he : PE X e (tE X.K G W (ev C xc x))) : PS X (.Return (some e) pos) (tS X.K G W (exm C xc (.ret x))) := by
  refine (ps_ret he).wk fun D σv H ⟨ρ, σ, M, rm, rs, p⟩ => ?_
  simp only [exm] at p
  exact ⟨ρ, σ, M, rm, rs, (of_expr (R := rD X.K G) rs p).imp fun v H1 ⟨ρ1, d, M1, ge, rm1, r1, p1⟩ => p1 ρ1 H1 v Ge.refl rm1 r1⟩
theorem t_retN {pos : Pos} : PS X (.Return none pos) (tS X.K G W (exm C xc (.ret (.cst .non)))) := by
  refine ps_retN.wk fun D σv H ⟨ρ, σ, M, rm, rs, p⟩ => ?_
  simp only [exm, ev, SR.of_ok] at p
  exact p ρ H .non Ge.refl rm .non
theorem t_exp {e : Expr} {x : Ex} {pos : Pos} (hc : (compSc e).isNone = true) (he : PE X e (tE X.K G W (ev C xc x))) : PS X (.Expr e pos) (tS X.K G W (exm C xc (.exp x))) := by
  refine (ps_expr he (sw_none hc _)).wk fun D σv H ⟨ρ, σ, M, rm, rs, p⟩ => ?_
  simp only [exm] at p
  exact ⟨ρ, σ, M, rm, rs, (of_expr (R := rD X.K G) rs p).imp fun v H1 ⟨ρ1, d, M1, ge, rm1, r1, p1⟩ => p1 ρ1 H1 σv Ge.refl rm1 (rs.mono ge)⟩
theorem t_pass {st : Stmt} (h : PS X st tNext) : PS X st (tS X.K G W (exm C xc .pass)) := h.wk fun D σv H ⟨ρ, σ, M, rm, rs, p⟩ => by
  simp only [exm] at p
  exact p ρ H σv Ge.refl rm rs
theorem t_brk {pos : Pos} : PS X (.Break pos) (tS X.K G W (exm C xc .brk)) := ps_break.wk fun D σv H ⟨ρ, σ, M, rm, rs, p⟩ => by
  simp only [exm] at p
  exact p ρ H σv Ge.refl rm rs
theorem t_cnt {pos : Pos} : PS X (.Continue pos) (tS X.K G W (exm C xc .cnt)) := ps_continue.wk fun D σv H ⟨ρ, σ, M, rm, rs, p⟩ => by
  simp only [exm] at p
  exact p ρ H σv Ge.refl rm rs
theorem ts_nil : PSs X [] (tS X.K G W (exms C xc .nil)) := pss_nil.wk fun D σv H ⟨ρ, σ, M, rm, rs, p⟩ => by
  simp only [exms] at p
  exact p ρ H σv Ge.refl rm rs
theorem ts_cons {s : Stmt} {r : List Stmt} {x : Sm} {y : Sms} (h1 : PS X s (tS X.K G W (exm C xc x))) (h2 : PSs X r (tS X.K G W (exms C xc y))) : PSs X (s :: r) (tS X.K G W (exms C xc (.cons x y))) := by
  refine (pss_cons h1 h2).wk fun D σv H ⟨ρ, σ, M, rm, rs, p⟩ => ?_
  simp only [exms] at p
  refine ⟨ρ, σ, M, rm, rs, ?_⟩
  cases hh : exm C xc x σ M with
  | nx σ' M' => rw [hh] at p; exact fun ρ' H' σv' a b c => ⟨ρ', σ', M', b, c, PostS.ge p a⟩
  | brk σ' M' => rw [hh] at p; exact p
  | cnt σ' M' => rw [hh] at p; exact p
  | ret d M' => rw [hh] at p; exact p
  | exc x σ' M' => rw [hh] at p; exact p
  | bad => rw [hh] at p; exact p
end
end Pw
set_option Elab.async false
set_option linter.all false
set_option maxRecDepth 100000
set_option autoImplicit false
set_option maxHeartbeats 4000000
/-! Items stored, pairs, comprehensions stored, loops, raise. -/
namespace Pw
open PySem PySem.Spec PyProof.Rows L2
section
variable {T : Tb} {G : Gd} {C : Cl} {lv : Nat} {X : Cx} {sc : Scope} {N : List Str} {W : WX} {xc : Option Xc}
theorem t_sts (c : StOk T G C lv X sc N) {o i e : Expr} {y z x : Ex} {p1 pos : Pos} (hi : notSlice i = true) (hc : (compSc e).isNone = true) (he : PE X e (tE X.K G W (ev C xc x))) (ho : PE X o (tE X.K G W (ev C xc y))) (hz : PE X i (tE X.K G W (ev C xc z))) :
    PS X (.Assign [.Subscript o i p1] e pos) (tS X.K G W (exm C xc (.sts y z x))) := by
  have hsw : swapsWithSole [.Subscript o i p1] e pos.line X.env = pure false := by
    show swapsWith e (some (.Subscript o i p1)) pos.line X.env = pure false
    rw [sw_eq c.cx.scope c.kind]
    unfold swB
    cases hh : compSc e with
    | none => rfl
    | some s => first | rfl | (rw [hh] at hc; cases hc)
  refine (ps_asg he (pg_sub ho hz set_list (fun v => by cases i <;> first | rfl | cases hi)) hsw (by unfold swappedStores; rfl) rfl).wk fun D σv H ⟨ρ, σ, M, rm, rs, p⟩ => ?_
  simp only [exm] at p
  refine ⟨ρ, σ, M, rm, rs, (of_expr (R := rD X.K G) rs p).imp fun v H1 ⟨ρ1, d, M1, ge, rm1, r1, p1⟩ => ?_⟩
  have rs1 := rs.mono ge
  refine ⟨ρ1, σ, M1, rm1, rs1, (of_expr (R := rD X.K G) rs1 p1).imp fun u H2 ⟨ρ2, a, M2, ge2, rm2, r2, p2⟩ => ?_⟩
  have rs2 := rs1.mono ge2
  refine ⟨ρ2, σ, M2, rm2, rs2, (of_expr (R := rD X.K G) rs2 p2).imp fun w H3 ⟨ρ3, k, M3, ge3, rm3, r3, p3⟩ => ?_⟩
  have rs3 := rs2.mono ge3
  cases a with
  | ref n =>
    cases k with
    | int j =>
      cases r3
      simp only at p3
      cases hm : M3[n]? with
      | none => rw [hm] at p3; exact False.elim p3
      | some ob =>
        rw [hm] at p3
        cases ob with
        | lst xs =>
          simp only at p3
          cases hj : ixOf xs.length j with
          | none => rw [hj] at p3; exact False.elim p3
          | some q =>
            rw [hj] at p3
            obtain ⟨b, vs, rfl, hb, e1, rr⟩ := lst_at rm3 (r2.mono ge3) hm
            obtain ⟨g4, rm4⟩ := fin_putK rm3 hb e1 (Rps.set (r1.mono (ge2.trans ge3)) q rr)
            exact ⟨b, vs, j, q, rfl, rfl, e1, by rw [← rr.length, ← ixOf_eq]; exact hj, p3 ρ3 _ σv g4 rm4 (rs3.mono g4)⟩
        | _ => exact False.elim p3
    | _ => exact False.elim p3
  | _ => exact False.elim p3
theorem t_par (c : StOk T G C lv X sc N) {x y : Str} {a b : Expr} {px py pt pt2 pos : Pos} {kt k2 : Nat} {n m : Nat} {t : Tg} {xs : Exs} (htg : cTg sc N n (.Tuple [.Name x px, .Name y py] kt pt) = some t) (hx : sc.names.lookup x = some .local) (hy : sc.names.lookup y = some .local) (hxy : x ≠ y)
    (hsp : spB sc (.Tuple [.Name x px, .Name y py] kt pt) (.Tuple [a, b] k2 pt2) = some (some [x, y])) (hxs : cEs T m sc N [a, b] = some xs) (hn : [a, b].all notStar = true) (ha : PA X [a, b] (tA X.K G W (evs C xc xs))) :
    PS X (.Assign [.Tuple [.Name x px, .Name y py] kt pt] (.Tuple [a, b] k2 pt2) pos) (tS X.K G W (exm C xc (.asg t (.tup xs)))) := by
  have ⟨i, j, hi, hj, et⟩ : ∃ i j, ixS x N 0 = some i ∧ ixS y N 0 = some j ∧ t = .t (.cons (.v i) (.cons (.v j) .nil)) := by
    match n, htg with
    | n + 1, htg =>
      simp only [cTg, Option.map_eq_some_iff] at htg
      obtain ⟨ts, h1, rfl⟩ := htg
      match n, h1 with
      | n + 1, h1 =>
        simp only [cTgs, Option.bind_eq_some_iff, Option.map_eq_some_iff] at h1
        obtain ⟨t1, h2, us, h3, rfl⟩ := h1
        match n, h2, h3 with
        | n + 1, h2, h3 =>
          simp only [cTgs, Option.bind_eq_some_iff, Option.map_eq_some_iff] at h3
          obtain ⟨t2, h4, us2, h5, rfl⟩ := h3
          match n, h4, h5 with
          | n + 1, h4, h5 =>
            simp only [cTgs, Option.some.injEq] at h5
            subst h5
            simp only [cTg, hx, hy, Option.map_eq_some_iff] at h2 h4
            obtain ⟨i, hi, rfl⟩ := h2
            obtain ⟨j, hj, rfl⟩ := h4
            exact ⟨i, j, hi, hj, rfl⟩
  subst et
  have i1 := (ixS_get x N 0 i hi).2
  have j1 := (ixS_get y N 0 j hj).2
  simp only [Nat.sub_zero] at i1 j1
  have hij : i ≠ j := fun e => by
    subst e
    rw [i1] at j1
    exact hxy (Option.some.inj j1)
  refine (ps_par c.cx.calm (by rw [c.cx.names]; exact c.cx.nd) (by rw [c.cx.names]; exact i1) (by rw [c.cx.names]; exact j1) hij (by rw [c.cx.scope]; exact hx) (by rw [c.cx.scope]; exact hy) ha (sp_eq c.cx.scope c.kind hsp)
    (by show swapsWith (.Tuple [a, b] k2 pt2) (some (.Tuple [.Name x px, .Name y py] kt pt)) pos.line X.env = pure false; rw [sw_eq c.cx.scope c.kind]; rfl)).wk fun D σv H ⟨ρ, σ, M, rm, rs, p⟩ => ?_
  simp only [exm, ev] at p
  refine ⟨ρ, σ, M, rm, rs, ?_⟩
  cases hh : evs C xc xs σ M with
  | ok ds m =>
    rw [hh] at p
    have hlen := cEs_len _ hxs hn _ _ _ _ hh
    intro ρ' H' vs ge rm' rr
    match ds, hlen, rr, p with
    | [d1, d2], _, .cons r1 (.cons r2 .nil), p =>
      have e2 : tupR [d1, d2] m = .ok (.tup [d1, d2]) m := by unfold tupR; rw [if_pos (by show 2 ≤ LIM; decide)]
      simp only [Res.bind_ok, e2, SR.of_ok, asgT, asgTs] at p
      exact ⟨_, _, rfl, p ρ' H' _ ge rm' (((rs.mono ge).set r1 i).set r2 j)⟩
  | exc x m => rw [hh] at p; exact fun ρ' H' cls dd a b c => p ρ' H' σv cls dd a b (rs.mono a) c
  | bad => rw [hh] at p; exact p
/-- name = [e for ..] on one line -/
theorem t_lc (c : StOk T G C lv X sc N) (tk : Takes X W) {y : Str} {elt : Expr} {gs : List Comprehension} {cs : Scope} {py pos spos : Pos} {n m : Nat} {t : Tg} {x : Ex} (htg : cTg sc N n (.Name y py) = some t) (hy : sc.names.lookup y = some .local) (hl : (py.line == pos.line) = true)
    (ha : (cs.names.any fun (n, k) => n == y && (k == .local || k == .cell)) = false) (hx : cE T m sc N (.ListComp elt gs cs pos) = some x) : PS X (.Assign [.Name y py] (.ListComp elt gs cs pos) spos) (tS X.K G W (exm C xc (.asg t x))) := by
  cases m with
  | zero => simp [cE] at hx
  | succ m =>
  have ih := sn_all (T := T) (G := G) (C := C) (lv := lv) (N := N) (xc := xc) m
  cases n with
  | zero => simp [cTg] at htg
  | succ n =>
  simp only [cTg, hy, Option.map_eq_some_iff] at htg
  obtain ⟨i, hi, rfl⟩ := htg
  have i1 := (ixS_get y N 0 i hi).2
  simp only [Nat.sub_zero] at i1
  unfold cE at hx
  split at hx <;> rename_i he <;> try (cases he; done)
  · rename_i elt' tg it ifs cs' pos'
    cases he
    simp only [Option.bind_eq_some_iff] at hx
    obtain ⟨own, h0, h⟩ := hx
    split at h
    · rename_i hc
      simp only [Bool.and_eq_true] at hc
      simp only [Option.bind_eq_some_iff] at h
      obtain ⟨t, h1, h⟩ := h
      split at h
      · rename_i hsl
        simp only [Option.bind_eq_some_iff, Option.map_eq_some_iff] at h
        obtain ⟨w, h2, z, h3, x', h4, rfl⟩ := h
        obtain ⟨tt, a1, a2⟩ := lc_parts (W := W) (w := w) (xc := xc) (x := x') (z := z) (ifs := ifs) (elt := elt) (tg := tg) (iter := it) c.cx h1 hsl (by
          split at h3
          · cases h3; exact .inl ⟨rfl, rfl⟩
          · exact .inr ⟨_, rfl, fun X' c' => (ih.e X' _ WF c' takes0 _ z h3).2.1⟩
          · cases h3) (fun X' c' => (ih.e X' _ WF c' takes0 _ x' h4).1)
        refine (ps_setLc (te := tE X.K G WF (ev C xc x')) (g := tG X.K G t) c.cx.calm (by rw [c.cx.names]; exact c.cx.nd) (by rw [c.cx.names]; exact i1) (by rw [c.cx.scope]; exact hy) (sw_true (by rw [c.cx.scope]; exact c.kind) (by rw [c.cx.scope]; exact hy) hl ha) (ih.it X sc W c.cx tk _ _ w h2)
          (blkOk_by (by rw [c.cx.names, c.cx.scope]; exact hc.1)) (fun s H D cl fp => s_tg (G := G) (X := X.blk s H cs (compEnvC cs cl D X.env) fp) c.cx.names c.cx.nd c.cx.calm blk_tsc m _ t h1) a1 (fun s H D cl fp => (ih.e _ _ WF (c.cx.blk cs s H D cl fp) takes0 _ x' h4).1) (notSet_fold hc.2 _)).wk fun D σv H ⟨ρ, σ, M, rm, rs, p⟩ => ?_
        simp only [exm] at p
        refine a2 _ _ _ ⟨ρ, σ, M, rm, rs, (of_expr (R := rD X.K G) rs p).imp fun v H1 ⟨ρ1, d, M1, ge, rm1, r1, p1⟩ => ?_⟩
        simp only [asgT] at p1
        exact p1 ρ1 H1 _ Ge.refl rm1 ((rs.mono ge).set r1 i)
      · cases h
    · cases h
  · cases hx
theorem t_aug (c : StOk T G C lv X sc N) {x : Str} {e : Expr} {y : Ex} {i : Nat} {o : BOp} {op : Operator} {px pos : Pos} (hx : sc.names.lookup x = some .local ∨ sc.names.lookup x = some .cell) (hi : ixS x N 0 = some i) (ho : (op = .Add ∧ o = .add) ∨ (op = .Sub ∧ o = .sub))
    (he : PE X e (tE X.K G W (ev C xc y))) : PS X (.AugAssign (.Name x px) op e pos) (tS X.K G W (exm C xc (.aug o i y))) := by
  have i1 := (ixS_get x N 0 i hi).2
  simp only [Nat.sub_zero] at i1
  have hloc : Loc X.env.scope x := by rw [c.cx.scope]; exact hx
  have hf : X.fn x = true ∨ X.env.scope.names.lookup x = some .local := by
    rcases hx with h | h
    · exact .inr (by rw [c.cx.scope]; exact h)
    · exact .inl (c.fnc x h)
  have main : ∀ (ti : TIp), PIp X op ti → (∀ (ρ1 : List Addr) (H1 : Hp) (M1 : Mem) (d a : Pw.D) (v w : V) (D : Ends) (σ : Sg) (σv : VS), RM X.K G H1 ρ1 M1 → Rs X.K G H1 ρ1 σ σv → Rp X.K G H1 ρ1 d v → Rp X.K G H1 ρ1 a w →
      PostS X.K G D W ρ1 H1 (SR.of (augD o d a M1) σ fun r m => .nx (σ.set i (some r)) m) → ti v w H1 fun z H2 => D.nx (σv.set i (some z)) H2) → PS X (.AugAssign (.Name x px) op e pos) (tS X.K G W (exm C xc (.aug o i y))) := by
    intro ti hti hop
    refine (ps_aug (by rw [c.cx.names]; exact c.cx.nd) (by rw [c.cx.names]; exact i1) hloc he hti hf).wk fun D σv H ⟨ρ, σ, M, rm, rs, p⟩ => ?_
    simp only [exm] at p
    cases hs : (σ[i]?).join with
    | none => rw [hs] at p; exact False.elim p
    | some d =>
      rw [hs] at p
      simp only [orBad, SR.of_ok] at p
      have hs' : σ[i]? = some (some d) := by
        cases hq : σ[i]? with
        | none => rw [hq] at hs; cases hs
        | some q => rw [hq] at hs; simp only [Option.join] at hs; rw [← hs]; simp
      obtain ⟨v, e1, r0⟩ := rs.2 i d hs'
      refine ⟨v, e1, ρ, σ, M, rm, rs, (of_expr (R := rD X.K G) rs p).imp fun w H1 ⟨ρ1, a, M1, ge, rm1, r1, p1⟩ => ?_⟩
      exact hop ρ1 H1 M1 d a v w D σ σv rm1 (rs.mono ge) (r0.mono ge) r1 p1
  rcases ho with ⟨rfl, rfl⟩ | ⟨rfl, rfl⟩
  · refine main _ ip_add fun ρ1 H1 M1 d a v w D σ σv rm rs r0 r1 p => ?_
    cases d <;> cases a <;> try exact False.elim p
    cases r0
    cases r1
    exact ⟨_, _, rfl, rfl, p ρ1 H1 _ Ge.refl rm (rs.set (.int _) i)⟩
  · refine main _ ip_sub fun ρ1 H1 M1 d a v w D σ σv rm rs r0 r1 p => ?_
    cases d <;> cases a <;> try exact False.elim p
    cases r0
    cases r1
    exact ⟨_, _, rfl, rfl, p ρ1 H1 _ Ge.refl rm (rs.set (.int _) i)⟩
end
end Pw
set_option Elab.async false
set_option linter.all false
set_option maxRecDepth 100000
set_option autoImplicit false
set_option maxHeartbeats 4000000
/-! Loops, raise. -/
namespace Pw
open PySem PySem.Spec PyProof.Rows L2
section
variable {T : Tb} {G : Gd} {C : Cl} {lv : Nat} {X : Cx} {sc : Scope} {N : List Str} {W : WX} {xc : Option Xc}
theorem t_whl (c : StOk T G C lv X sc N) {e : Expr} {z : Ex} {b : List Stmt} {x : Sms} {pos : Pos} (hz : PT X e (tT X.K G W (ev C xc z))) (hb : PSs X b (tS X.K G W (exms C xc x))) : PS X (.While e b [] pos) (tS X.K G W (exm C xc (.whl z x))) := by
  refine (ps_while c.pas hz hb).wk fun D σv H ⟨ρ, σ, M, rm, rs, p⟩ => ?_
  simp only [exm] at p
  refine ⟨fun n σv' H' => ∃ ρ' σ' M', RM X.K G H' ρ' M' ∧ Rs X.K G H' ρ' σ' σv' ∧ PostS X.K G D W ρ' H' (whlL (ev C xc z) (exms C xc x) n σ' M'), ⟨C.fuel, ρ, σ, M, rm, rs, p⟩, ?_⟩
  intro n σv1 H1 ⟨ρ1, σ1, M1, rm1, rs1, p1⟩
  cases n with
  | zero => exact False.elim p1
  | succ n =>
    simp only [whlL] at p1
    refine ⟨ρ1, σ1, M1, rm1, rs1, ?_⟩
    cases hh : ev C xc z σ1 M1 with
    | ok d m =>
      rw [hh] at p1
      cases d with
      | bl k =>
        intro ρ' H' b ge rm' rb
        have hb : k = b := by
          have : Pw.D.bl k = Pw.D.bl b := rb
          cases this
          rfl
        subst hb
        cases k with
        | true =>
          rw [if_pos rfl]
          refine ⟨fun σv' H' => ∃ ρ' σ' M', RM X.K G H' ρ' M' ∧ Rs X.K G H' ρ' σ' σv' ∧ PostS X.K G D W ρ' H' (whlL (ev C xc z) (exms C xc x) n σ' M'), fun σv' H' q => ⟨n, Nat.lt_succ_self n, q⟩, ρ', σ1, m, rm', rs1.mono ge, ?_⟩
          have p2 := PostS.ge p1 ge
          dsimp only at p2
          cases hs : exms C xc x σ1 m with
          | nx σ2 M2 => rw [hs] at p2; exact fun ρ2 H2 σv2 a b c => ⟨ρ2, σ2, M2, b, c, PostS.ge p2 a⟩
          | cnt σ2 M2 => rw [hs] at p2; exact fun ρ2 H2 σv2 a b c => ⟨ρ2, σ2, M2, b, c, PostS.ge p2 a⟩
          | brk σ2 M2 => rw [hs] at p2; exact p2
          | ret d M2 => rw [hs] at p2; exact p2
          | exc y σ2 M2 => rw [hs] at p2; exact p2
          | bad => rw [hs] at p2; exact p2
        | false =>
          rw [if_neg Bool.false_ne_true]
          exact p1 ρ' H' σv1 ge rm' (rs1.mono ge)
      | _ => exact False.elim p1
    | exc y m => rw [hh] at p1; exact fun ρ' H' cls dd a b c => p1 ρ' H' σv1 cls dd a b (rs1.mono a) c
    | bad => rw [hh] at p1; exact False.elim p1
theorem t_for (c : StOk T G C lv X sc N) {tg it : Expr} {t : Tg} {n : Nat} {w : It} {b : List Stmt} {x : Sms} {pos : Pos} (hs : notSet it = true) (htg : cTg sc N n tg = some t) (hi : PI X tg it (tI X.K G W (evIt C xc w))) (hb : PSs X b (tS X.K G W (exms C xc x))) :
    PS X (.For tg it b [] pos) (tS X.K G W (exm C xc (.loop t w x .nil))) := by
  refine (ps_for c.pas c.cx.calm hi (s_tg (G := G) c.cx.names c.cx.nd c.cx.calm (tsc_own c) n tg t htg) hb (notSet_fold hs _)).wk fun D σv H ⟨ρ, σ, M, rm, rs, p⟩ => ?_
  simp only [exm] at p
  refine ⟨ρ, σ, M, rm, rs, (of_expr (R := rW X.K G) rs p).imp fun J H1 ⟨ρ1, w1, M1, ge, rm1, wk, p1⟩ => ?_⟩
  refine ⟨fun i m σv' H' => m = w1.xs.length - i ∧ i ≤ w1.xs.length ∧ ∃ ρ' σ' M', Ge X.K G ρ1 H1 ρ' H' ∧ RM X.K G H' ρ' M' ∧ Rs X.K G H' ρ' σ' σv' ∧ PostS X.K G D W ρ' H' (forL (fun d σ m => match asgT t d σ with
        | some σ' => exms C xc x σ' m
        | none => .bad) w1.st (w1.xs.drop i) σ' M'), ⟨_, rfl, Nat.zero_le _, ρ1, σ, M1, Ge.refl, rm1, rs.mono ge, by rw [List.drop_zero]; exact p1⟩, ?_⟩
  intro i m σv2 H2 ⟨em, hi2, ρ2, σ2, M2, ge2, rm2, rs2, p2⟩
  have hst : w1.st M2 = true := by
    cases hx : w1.xs.drop i with
    | nil => rw [hx] at p2; unfold forL at p2; split at p2; · assumption
             · exact False.elim p2
    | cons _ _ => rw [hx] at p2; unfold forL at p2; split at p2; · assumption
                  · exact False.elim p2
  by_cases hl : i < w1.xs.length
  · right
    obtain ⟨d, hd⟩ : ∃ d, w1.xs[i]? = some d := ⟨w1.xs[i], List.getElem?_eq_getElem hl⟩
    have hdr : w1.xs.drop i = d :: w1.xs.drop (i + 1) := by
      rw [List.drop_eq_getElem_cons hl]
      rw [List.getElem?_eq_getElem hl] at hd
      cases hd
      rfl
    rw [hdr] at p2
    unfold forL at p2
    rw [if_pos hst] at p2
    obtain ⟨go, yld⟩ := wk.go ρ2 H2 M2 i d ge2 rm2 hst hd
    refine ⟨go, fun σv' H' => ∃ ρ' σ' M', Ge X.K G ρ1 H1 ρ' H' ∧ RM X.K G H' ρ' M' ∧ Rs X.K G H' ρ' σ' σv' ∧ PostS X.K G D W ρ' H' (forL (fun d σ m => match asgT t d σ with
        | some σ' => exms C xc x σ' m
        | none => .bad) w1.st (w1.xs.drop (i + 1)) σ' M'), fun σv' H' ⟨ρ', σ', M', a, b, c, z⟩ => ⟨w1.xs.length - (i + 1), by omega, rfl, by omega, ρ', σ', M', a, b, c, z⟩, fun v H' hy => ?_⟩
    obtain ⟨gy, rmy, rx⟩ := yld v H' hy
    cases ha : asgT t d σ2 with
    | none => simp only [ha] at p2; exact False.elim p2
    | some σ3 =>
      simp only [ha] at p2
      refine ⟨ρ2, σ2, d, σ3, rs2.mono gy, rx, ha, fun σv3 rs3 _ => ⟨ρ2, σ3, M2, rmy, rs3, ?_⟩⟩
      have p3 := PostS.ge p2 gy
      cases hh : exms C xc x σ3 M2 with
      | nx σ4 M4 => rw [hh] at p3; exact fun ρ4 H4 σv4 a b c => ⟨ρ4, σ4, M4, (ge2.trans gy).trans a, b, c, PostS.ge p3 a⟩
      | cnt σ4 M4 => rw [hh] at p3; exact fun ρ4 H4 σv4 a b c => ⟨ρ4, σ4, M4, (ge2.trans gy).trans a, b, c, PostS.ge p3 a⟩
      | brk σ4 M4 => rw [hh] at p3; exact p3
      | ret d M4 => rw [hh] at p3; exact p3
      | exc y σ4 M4 => rw [hh] at p3; exact p3
      | bad => rw [hh] at p3; exact p3
  · left
    have hl2 : i = w1.xs.length := by omega
    subst hl2
    refine ⟨wk.stop ρ2 H2 M2 ge2 rm2 hst, ?_⟩
    rw [List.drop_length] at p2
    unfold forL at p2
    rw [if_pos hst] at p2
    exact p2 ρ2 H2 σv2 Ge.refl rm2 rs2
/-- the fields of an exception, by their names -/
theorem zip_fs {K : PySem.W.Frag} {H : Hp} {ρ : List Addr} (nm : Nat → Str) : ∀ (ks : List Nat) (ds : List D) (vs : List V), (∀ a ∈ ks, ∀ b ∈ ks, nm a = nm b → a = b) → Rps K G H ρ ds vs →
    ∀ f d, (ks.zip ds).lookup f = some d → ∃ v, ((ks.map nm).zip vs).lookup (nm f) = some v ∧ Rp K G H ρ d v
  | [], _, _, _, _, f, d, h => by simp at h
  | k :: ks, [], _, _, _, f, d, h => by simp at h
  | k :: ks, e :: ds, _, hi, .cons r1 r2, f, d, h => by
    simp only [List.zip_cons_cons, List.lookup_cons, List.map_cons] at h ⊢
    by_cases e1 : f = k
    · subst e1
      simp only [beq_self_eq_true] at h ⊢
      cases h
      exact ⟨_, rfl, r1⟩
    · have e2 : (f == k) = false := by simpa using e1
      rw [e2] at h
      obtain ⟨v, h1, h2⟩ := zip_fs nm ks ds _ (fun a ha b hb => hi a (by simp [ha]) b (by simp [hb])) r2 f d h
      have e3 : (nm f == nm k) = false := by
        refine Bool.eq_false_iff.mpr fun q => e1 ?_
        have hf : f ∈ ks := by
          have : ∀ (ks : List Nat) (ds : List D), (ks.zip ds).lookup f = some d → f ∈ ks := by
            intro ks
            induction ks with
            | nil => intro ds h; simp at h
            | cons k ks ih =>
              intro ds h
              cases ds with
              | nil => simp at h
              | cons x ds =>
                simp only [List.zip_cons_cons, List.lookup_cons] at h
                by_cases q : f = k
                · simp [q]
                · have q2 : (f == k) = false := by simpa using q
                  rw [q2] at h
                  exact List.mem_cons_of_mem _ (ih ds h)
          exact this ks ds h
        exact hi f (by simp [hf]) k (by simp) (by simpa using q)
      rw [e3]
      exact ⟨v, h1, h2⟩
theorem t_raise (c : StOk T G C lv X sc N) (tk : Takes X W) {x : Str} {k : Nat} {e : Expr} {es : List Expr} {xs : Exs} {p1 p2 pos : Pos} (hg : isGl sc x = true) (hx : T.xcs.lookup x = some k) (hf : C.xfs k ≠ []) (hn : (e :: es).all notStar = true) (ha : PA X (e :: es) (tA X.K G W (evs C xc xs))) :
    PS X (.Raise (some (.Call (.Name x p1) (e :: es) [] p2)) none pos) (tS X.K G W (exm C xc (.raise k xs))) := by
  simp only [List.all_cons, Bool.and_eq_true] at hn
  obtain ⟨g1, g2⟩ := isGl_spec c.cx hg
  refine (ps_raise c.cx.calm tk (c.rz x k hx hf X rfl rfl rfl rfl rfl c.cx.adr.room g1 g2 e es _ p1 p2 hn.1 hn.2 ha)).wk fun D σv H ⟨ρ, σ, M, rm, rs, p⟩ => ?_
  simp only [exm] at p
  refine ⟨ρ, σ, M, rm, rs, (of_expr (R := rL X.K G) rs p).imp fun vs H1 ⟨ρ1, ds, M1, ge, rm1, rr, p1⟩ => ?_⟩
  split at p1
  · rename_i hl
    refine ⟨by rw [← rr.length, hl.1, List.length_map], by rw [← rr.length]; exact hl.2, fun d fs' hd hfs => ?_⟩
    have g : Ge X.K G ρ1 H1 ρ1 (upd H1 d (.xd fs')) := Ge.fresh hd
    refine p1 ρ1 _ σv _ _ g (rm1.fresh hd) ((rs.mono ge).mono g) ⟨rfl, .inr ⟨d, fs', rfl, upd_same, fun f dv h => ?_⟩⟩
    obtain ⟨v, h1, h2⟩ := zip_fs G.nm (C.xfs k) ds vs (c.xin k) rr f dv h
    exact ⟨v, hfs _ _ h1, h2.mono g⟩
  · exact False.elim p1
end
end Pw
set_option Elab.async false
set_option linter.all false
set_option maxRecDepth 100000
set_option autoImplicit false
set_option maxHeartbeats 4000000
/-! try .. except .. as ..; the suite's own small language. -/
namespace Pw
open PySem PySem.Spec PyProof.Rows L2
theorem RX.mono {K : PySem.W.Frag} {G : Gd} {H H1 : Hp} {ρ ρ1 : List Addr} {x : Xc} {cls : Value} {dd : Option Addr} (r : RX K G H ρ x cls dd) (g : Ge K G ρ H ρ1 H1) : RX K G H1 ρ1 x cls dd := by
  obtain ⟨h1, h2⟩ := r
  refine ⟨h1, ?_⟩
  rcases h2 with h2 | ⟨d, fs', e1, e2, q⟩
  · exact .inl h2
  · refine .inr ⟨d, fs', e1, g.xd _ _ e2, fun f dv h => ?_⟩
    obtain ⟨v, a, b⟩ := q f dv h
    exact ⟨v, a, b.mono g⟩
/-- in the suite: the exception is at a, its class cls, its dict dd; slot i has it -/
structure InH (K : PySem.W.Frag) (G : Gd) (a : Addr) (cls : Value) (dd : Option Addr) (i : Nat) (xe : Xc) (ρ : List Addr) (H : Hp) (σ : Sg) (σv : VS) (M : Mem) : Prop where
  at_ : σv[i]? = some (some (.ref a))
  rm : RM K G H ρ M
  rs : Rs K G H ρ σ σv
  rx : RX K G H ρ xe cls dd
theorem InH.ge {K : PySem.W.Frag} {G : Gd} {a : Addr} {cls : Value} {dd : Option Addr} {i : Nat} {xe : Xc} {ρ ρ1 : List Addr} {H H1 : Hp} {σ : Sg} {σv : VS} {M M1 : Mem} (h : InH K G a cls dd i xe ρ H σ σv M) (g : Ge K G ρ H ρ1 H1) (rm : RM K G H1 ρ1 M1) : InH K G a cls dd i xe ρ1 H1 σ σv M1 :=
  ⟨h.at_, rm, h.rs.mono g, h.rx.mono g⟩
def hE (K : PySem.W.Frag) (G : Gd) (C : Cl) (a : Addr) (cls : Value) (dd : Option Addr) (i : Nat) (f : Option Xc → Sg → Mem → Res D) : TE := fun σv H Q => ∃ xe ρ σ M, C.isX xe.c = true ∧ InH K G a cls dd i xe ρ H σ σv M ∧ Post K G (rD K G) XF ρ H (f (some xe) σ M) Q
def hA (K : PySem.W.Frag) (G : Gd) (C : Cl) (a : Addr) (cls : Value) (dd : Option Addr) (i : Nat) (f : Option Xc → Sg → Mem → Res (List D)) : TA := fun σv H Q => ∃ xe ρ σ M, C.isX xe.c = true ∧ InH K G a cls dd i xe ρ H σ σv M ∧ Post K G (rL K G) XF ρ H (f (some xe) σ M) Q
def hT (K : PySem.W.Frag) (G : Gd) (C : Cl) (a : Addr) (cls : Value) (dd : Option Addr) (i : Nat) (f : Option Xc → Sg → Mem → Res D) : TT := fun σv H Q => ∃ xe ρ σ M, C.isX xe.c = true ∧ InH K G a cls dd i xe ρ H σ σv M ∧ Post K G rB XF ρ H ((f (some xe) σ M).bind onlyB) Q
section
variable {T : Tb} {G : Gd} {C : Cl} {lv : Nat} {X : Cx} {sc : Scope} {N : List Str} {W : WX}
section
variable {a : Addr} {oe : Obj} {cls : Value} {dd : Option Addr} {pn : List (Addr × Obj)} {i : Nat} {err : Str}
abbrev PH (X : Cx) (G : Gd) (C : Cl) (a : Addr) (oe : Obj) (cls : Value) (dd : Option Addr) (pn : List (Addr × Obj)) (i : Nat) (e : Expr) (x : Ex) : Prop := PE (X.suite a ((a, oe) :: pn)) e (hE X.K G C a cls dd i fun xc => ev C xc x)
theorem h_cst {e : Expr} {d : D} {v : V} (h : PE (X.suite a ((a, oe) :: pn)) e (tC v)) (r : ∀ H ρ, Rp X.K G H ρ d v) : PH X G C a oe cls dd pn i e (.cst d) :=
  h.wk fun σ H Q ⟨xe, ρ, σ1, M, hx, ih, p⟩ => by
    simp only [ev] at p
    exact Post.here (R := rD X.K G) p ih.rm (r H ρ)
theorem h_var (c : StOk T G C lv X sc N) (he : N[i]? = some err) (hl : sc.names.lookup err = some .local) (hd : (err == ("__debug__" : Str)) = false) (hd2 : (err == ("__classdict__" : Str)) = false) {p : Pos} : PE (X.suite a ((a, oe) :: pn)) (.Name err p) (tVar i) :=
  pe_var (X := X.suite a ((a, oe) :: pn)) (by show X.N[i]? = _; rw [c.cx.names]; exact he) (by show Vis X.env.scope err; rw [c.cx.scope]; exact .inl hl) hd hd2
structure ErrN (sc : Scope) (N : List Str) (err : Str) (i : Nat) : Prop where
  at_ : N[i]? = some err
  loc : sc.names.lookup err = some .local
  d1 : (err == ("__debug__" : Str)) = false
  d2 : (err == ("__classdict__" : Str)) = false
theorem h_xfl (c : StOk T G C lv X sc N) (hz : Zc cls dd oe) (hf : ∃ vs, oe.data = .fields vs) (en : ErrN sc N err i) {f : Str} {k : Nat} {p pos : Pos} (hk : ixS f T.nms 0 = some k) : PH X G C a oe cls dd pn i (.Attribute (.Name err p) f pos) (.xfl k) := by
  have nm := c.cx.nms _ _ hk
  refine ⟨fun pins s σv H Q I hh => ?_⟩
  obtain ⟨xe, ρ, σ, M, hx, ih, q⟩ := hh
  simp only [ev] at q
  split at q
  · rename_i hin
    refine (pe_xf (C := G.cA xe.c) (c.xfc xe.c hx).1 (by have := c.xno xe.c k hx (by simpa using hin); rw [nm] at this; exact this) hz hf (h_var c en.at_ en.loc en.d1 en.d2)).run pins s σv H Q I ?_
    refine ⟨_, ih.at_, rfl, ih.rx.1, ?_⟩
    cases hlk : xe.fs.lookup k with
    | none => rw [hlk] at q; exact False.elim q
    | some d =>
      rw [hlk] at q
      rcases ih.rx.2 with ⟨h0, _⟩ | ⟨d', fs', h1, h2, h3⟩
      · rw [h0] at hlk; cases hlk
      · obtain ⟨v, h4, h5⟩ := h3 k d hlk
        rw [nm] at h4
        exact ⟨d', fs', v, h1, h2, h4, Post.here (R := rD X.K G) q ih.rm h5⟩
  · exact False.elim q
theorem h_fld (c : StOk T G C lv X sc N) {e : Expr} {x : Ex} {g : Str} {pos : Pos} (hg : ixS g T.nms 0 = some nSteps) (hs : notSuper e = true) (he : PH X G C a oe cls dd pn i e x) : PH X G C a oe cls dd pn i (.Attribute e g pos) (.fld nSteps x) := by
  refine ⟨fun pins s σ H Q I h => ?_⟩
  obtain ⟨xe, ρ, σ1, M, hx, ih, p⟩ := h
  simp only [ev] at p
  refine attr_of (attr_base hs _ _ _) (thn (he.run pins s σ H _ I ⟨xe, ρ, σ1, M, hx, ih, (Post.bind (R := rD X.K G) p).imp fun v H1 z => z⟩) fun u s1 ⟨v, H1, I1, r1, ρ1, d, M1, ge, rm1, rd, p1⟩ => ?_)
  have nm := c.cx.nms _ _ hg
  rw [c.cx.adr.nSteps] at nm
  subst nm
  cases d with
  | adr y =>
    obtain ⟨b, dx, w, rfl, sl, rw1⟩ := rd.adr_inv
    cases (show u = Value.ref b from r1)
    simp only [fldD, if_true] at p1
    obtain ⟨q, sl1⟩ := c.cx.adr.slot
    exact SlX.getslot_ok I1 sl c.cx.adr.cls sl1 rfl fun u' s2 I2 ru => ⟨w, H1, I2, ru, Post.here (R := rD X.K G) p1 rm1 rw1⟩
  | ref n =>
    simp only [fldD] at p1
    cases hm : M1[n]? with
    | none => rw [hm] at p1; exact False.elim p1
    | some ob =>
      rw [hm] at p1
      cases ob with
      | ins c' fs =>
        dsimp only at p1
        obtain ⟨a', rfl, ha1⟩ := rd.ref_inv
        cases (show u = Value.ref a' from r1)
        obtain ⟨a2, ha2, ro⟩ := rm1.obj n _ hm
        rw [ha1] at ha2
        cases ha2
        split at p1
        · rename_i hat
          obtain ⟨cl, na⟩ := c.cx.attI c' nSteps hat
          obtain ⟨dx, fs', e1, el, q⟩ := ro
          have qk := q nSteps
          cases hfl : fs.lookup nSteps with
          | none => rw [hfl] at p1; exact False.elim p1
          | some z =>
            rw [hfl] at p1 qk
            obtain ⟨w, e2, rw1⟩ := qk
            rw [c.cx.adr.nSteps] at e2 na
            exact getattr_ok I1 e1 cl na e2 fun u' s2 I2 ru => ⟨w, H1, I2, ru, Post.here (R := rD X.K G) p1 rm1 rw1⟩
        · exact False.elim p1
      | _ => exact False.elim p1
  | _ => exact False.elim p1
/-- isinstance(error, C) -/
theorem h_xis (c : StOk T G C lv X sc N) (hz : Zc cls dd oe) (hf : ∃ vs, oe.data = .fields vs) (en : ErrN sc N err i) {x : Str} {k : Nat} {p p1 p2 pos : Pos} (hb : isBlt T sc "isinstance" = true) (hg : isGl sc x = true) (hx : T.xcs.lookup x = some k) :
    PH X G C a oe cls dd pn i (.Call (.Name "isinstance" p) [.Name err p1, .Name x p2] [] pos) (.xis k) := by
  obtain ⟨b1, b2, b3, b4⟩ := isBlt_spec c.cx hb
  obtain ⟨g1, g2⟩ := isGl_spec c.cx hg
  have hm := c.xg x k hx
  have hcall : CallR (X.suite a ((a, oe) :: pn)) (.builtin "isinstance") (fun xs H Q => ∃ xe ρ M, xs = [.ref a, .ref (G.cA k)] ∧ C.isX xe.c = true ∧ RM X.K G H ρ M ∧ RX X.K G H ρ xe cls dd ∧ Q (.bl (C.isA xe.c k)) H) := by
    intro pins s σ H xs us Q I r h
    obtain ⟨xe, ρ, M, rfl, hxe, rm, rx, q⟩ := h
    obtain ⟨u1, u2, rfl, r1, r2⟩ := r.two
    cases (show u1 = Value.ref a from r1)
    cases (show u2 = Value.ref (G.cA k) from r2)
    obtain ⟨hget, _⟩ := I.pin (a, oe) (List.mem_append.mpr (.inl List.mem_cons_self))
    obtain ⟨vs, hv⟩ := hf
    have E := (c.xfc xe.c hxe).2
    have kit := (c.xis x k xe.c hx hxe).2
    have hcl : (PySem.W.clsIn X.K (G.cA xe.c)).isSome = true := by
      have hd := E.hd
      unfold PySem.W.hasDictIn at hd
      cases hh : PySem.W.clsIn X.K (G.cA xe.c) with
      | none => rw [hh] at hd; cases hd
      | some _ => rfl
    have ⟨od, J⟩ : ∃ od, PySem.W.InstAt s.heap a oe (G.cA xe.c) od := by
      obtain ⟨oc, od, oda, osl⟩ := oe
      obtain ⟨h1, h2⟩ := hz
      rw [rx.1] at h1
      dsimp only at h1 h2 hv
      subst h1 h2 hv
      rcases rx.2 with ⟨_, h0⟩ | ⟨d, fs', e1, e2, _⟩
      · subst h0
        exact ⟨none, hget, rfl, rfl, trivial⟩
      · subst e1
        obtain ⟨mA, hns, hr⟩ := (show ObjOk X.prog X.w H s.heap d (.xd fs') from I.hok d _ e2)
        obtain ⟨o, ho, _⟩ := lookIn_ns hns
        exact ⟨some o, hget, rfl, rfl, ho⟩
    exact PySem.W.kia_one (PySem.W.kitx_exc hcl E.hg E.hk E.hs E.ha E.hn E.ht E.hm) I.kIn J kit (fun z => nomatch z) fun tk => ⟨.bl _, H, I.kept (t' := tk) fun _ _ z => z, rfl, q⟩
  refine (pe_callB (X := X.suite a ((a, oe) :: pn)) hcall b1 b3 rfl (pa_cons (h_var c en.at_ en.loc en.d1 en.d2) (pa_cons (pe_glob (X := X.suite a ((a, oe) :: pn)) g1 hm (show RelV (V.ref (G.cA k)) _ from rfl) g2) pa_nil rfl) rfl) (by decide) (by decide)).wk fun σv H Q ⟨xe, ρ, σ, M, hxe, ih, p⟩ => ?_
  simp only [ev, hxe, if_true] at p
  refine ⟨_, ih.at_, xe, ρ, M, rfl, hxe, ih.rm, ih.rx, Post.here (R := rD X.K G) p ih.rm (.bl _)⟩
theorem h_nil : PA (X.suite a ((a, oe) :: pn)) [] (hA X.K G C a cls dd i fun xc => evs C xc .nil) := pa_nil.wk fun σ H Q ⟨xe, ρ, σ1, M, hx, ih, p⟩ => by
  simp only [evs] at p
  exact Post.here (R := rL X.K G) p ih.rm .nil
theorem h_cons {e : Expr} {es : List Expr} {x : Ex} {xs : Exs} (hn : notStar e = true) (he : PH X G C a oe cls dd pn i e x) (hs : PA (X.suite a ((a, oe) :: pn)) es (hA X.K G C a cls dd i fun xc => evs C xc xs)) : PA (X.suite a ((a, oe) :: pn)) (e :: es) (hA X.K G C a cls dd i fun xc => evs C xc (.cons false x xs)) := by
  refine (pa_cons he hs (star_cons hn _)).wk fun σv H Q ⟨xe, ρ, σ, M, hx, ih, p⟩ => ?_
  simp only [evs] at p
  refine ⟨xe, ρ, σ, M, hx, ih, (Post.bind (R := rD X.K G) p).imp fun v H1 ⟨ρ1, d, M1, ge, rm1, r1, p1⟩ => ?_⟩
  refine ⟨xe, ρ1, σ, M1, hx, ih.ge ge rm1, (Post.bind (R := rL X.K G) p1).imp fun vs H2 ⟨ρ2, ds, M2, ge2, rm2, r2, p2⟩ => ?_⟩
  exact Post.here (R := rL X.K G) p2 rm2 (.cons (r1.mono ge2) r2)
theorem h_tup {es : List Expr} {xs : Exs} {k : Nat} {pos : Pos} (h : PA (X.suite a ((a, oe) :: pn)) es (hA X.K G C a cls dd i fun xc => evs C xc xs)) : PH X G C a oe cls dd pn i (.Tuple es k pos) (.tup xs) := by
  refine (pe_tup h).wk fun σv H Q ⟨xe, ρ, σ, M, hx, ih, p⟩ => ?_
  simp only [ev] at p
  refine ⟨xe, ρ, σ, M, hx, ih, (Post.bind (R := rL X.K G) p).imp fun vs H1 ⟨ρ1, ds, M1, ge, rm1, r, p1⟩ => ?_⟩
  obtain ⟨hl, p1⟩ := tupR_ok p1
  exact ⟨by rw [← lim_eq, ← r.length]; exact hl, fun a ha => fin_tup (X := X) rm1 r p1 ha⟩
theorem h_lst {es : List Expr} {xs : Exs} {pos : Pos} (h : PA (X.suite a ((a, oe) :: pn)) es (hA X.K G C a cls dd i fun xc => evs C xc xs)) : PH X G C a oe cls dd pn i (.List es pos) (.lst xs) := by
  refine (pe_lst h).wk fun σv H Q ⟨xe, ρ, σ, M, hx, ih, p⟩ => ?_
  simp only [ev] at p
  refine ⟨xe, ρ, σ, M, hx, ih, (Post.bind (R := rL X.K G) p).imp fun vs H1 ⟨ρ1, ds, M1, ge, rm1, r, p1⟩ => ?_⟩
  obtain ⟨hl, p1⟩ := new1_ok p1
  exact ⟨by rw [← lim_eq, ← r.length]; exact hl, fun a ha => fin_lst (X := X) rm1 r p1 ha⟩
theorem h_ite {z a' b' : Expr} {w x y : Ex} {pos : Pos} (hz : PH X G C a oe cls dd pn i z w) (hzt : ∀ whole, PySem.isTrue z (X.suite a ((a, oe) :: pn)).env whole = (do let v ← whole; standAt z.pos; holding [v] (truthy v))) (ha : PH X G C a oe cls dd pn i a' x) (hb : PH X G C a oe cls dd pn i b' y) :
    PH X G C a oe cls dd pn i (.IfExp z a' b' pos) (.ite w x y) := by
  refine (pe_ifExp (pt_val hz hzt) ha hb).wk fun σv H Q ⟨xe, ρ, σ, M, hx, ih, p⟩ => ?_
  simp only [ev] at p
  refine ⟨xe, ρ, σ, M, hx, ih, (Post.bind (R := rD X.K G) p).imp fun v H1 ⟨ρ1, d, M1, ge, rm1, rd, p1⟩ => ?_⟩
  cases rd with
  | bl k =>
    refine ⟨k, rfl, ?_⟩
    cases k with
    | true => rw [if_pos rfl]; exact ⟨xe, ρ1, σ, M1, hx, ih.ge ge rm1, p1⟩
    | false => rw [if_neg Bool.false_ne_true]; exact ⟨xe, ρ1, σ, M1, hx, ih.ge ge rm1, p1⟩
  | _ => exact False.elim p1
theorem cHa_ok (c : StOk T G C lv X sc N) (hz : Zc cls dd oe) (hf : ∃ vs, oe.data = .fields vs) (en : ErrN sc N err i) {e : Expr} {x : Ex} (h : cHa T sc err e = some x) : PH X G C a oe cls dd pn i e x := by
  unfold cHa at h
  split at h
  · cases h; exact h_cst pe_non fun _ _ => .non
  · cases h; exact h_cst pe_bl fun _ _ => .bl _
  · cases h; exact h_cst pe_int fun _ _ => .int _
  · split at h
    · rename_i hs
      cases h
      exact h_cst pe_str fun _ _ => .str _ hs
    · cases h
  · split at h
    · rename_i he
      subst he
      simp only [Option.map_eq_some_iff] at h
      obtain ⟨k, h1, rfl⟩ := h
      exact h_xfl c hz hf en h1
    · cases h
  · split at h
    · rename_i he
      obtain ⟨rfl, he2⟩ := he
      simp only [Option.map_eq_some_iff] at h
      obtain ⟨k, h1, rfl⟩ := h
      exact h_fld c he2 rfl (h_xfl c hz hf en h1)
    · cases h
  · split at h
    · rename_i he
      obtain ⟨rfl, rfl, h1, h2⟩ := he
      simp only [Option.map_eq_some_iff] at h
      obtain ⟨k, h3, rfl⟩ := h
      exact h_xis c hz hf en h1 h2 h3
    · cases h
  · cases h
mutual
theorem cHe_ok (c : StOk T G C lv X sc N) (hz : Zc cls dd oe) (hf : ∃ vs, oe.data = .fields vs) (en : ErrN sc N err i) : ∀ (n : Nat) (e : Expr) (x : Ex), cHe T sc err n e = some x → PH X G C a oe cls dd pn i e x
  | 0, _, _, h => by simp [cHe] at h
  | n + 1, e, x, h => by
    unfold cHe at h
    split at h
    · simp only [Option.map_eq_some_iff] at h
      obtain ⟨xs, h1, rfl⟩ := h
      exact h_tup (cHs_ok c hz hf en n _ _ h1)
    · simp only [Option.map_eq_some_iff] at h
      obtain ⟨xs, h1, rfl⟩ := h
      exact h_lst (cHs_ok c hz hf en n _ _ h1)
    · split at h
      · simp only [Option.bind_eq_some_iff, Option.map_eq_some_iff] at h
        obtain ⟨z, h1, x, h2, y, h3, rfl⟩ := h
        exact h_ite (cHa_ok c hz hf en h1) (fun _ => rfl) (cHe_ok c hz hf en n _ _ h2) (cHe_ok c hz hf en n _ _ h3)
      · cases h
    · exact cHa_ok c hz hf en h
theorem cHs_ok (c : StOk T G C lv X sc N) (hz : Zc cls dd oe) (hf : ∃ vs, oe.data = .fields vs) (en : ErrN sc N err i) : ∀ (n : Nat) (es : List Expr) (xs : Exs), cHs T sc err n es = some xs → PA (X.suite a ((a, oe) :: pn)) es (hA X.K G C a cls dd i fun xc => evs C xc xs)
  | 0, _, _, h => by simp [cHs] at h
  | n + 1, [], xs, h => by
    simp only [cHs, Option.some.injEq] at h
    subst h
    exact h_nil
  | n + 1, e :: r, xs, h => by
    simp only [cHs] at h
    split at h
    · rename_i hn
      simp only [Option.bind_eq_some_iff, Option.map_eq_some_iff] at h
      obtain ⟨x, h1, ys, h2, rfl⟩ := h
      exact h_cons hn (cHe_ok c hz hf en n e x h1) (cHs_ok c hz hf en n r ys h2)
    · cases h
end
end
end
end Pw
set_option Elab.async false
set_option linter.all false
set_option maxRecDepth 100000
set_option autoImplicit false
set_option maxHeartbeats 4000000
/-! try; the compile function of statements is sound. -/
namespace Pw
open PySem PySem.Spec PyProof.Rows L2
def hS (K : PySem.W.Frag) (G : Gd) (C : Cl) (a : Addr) (cls : Value) (dd : Option Addr) (i : Nat) (f : Option Xc → Sg → Mem → SR) : TS := fun D σv H => ∃ xe ρ σ M, C.isX xe.c = true ∧ InH K G a cls dd i xe ρ H σ σv M ∧ PostS K G D WF ρ H (f (some xe) σ M)
section
variable {T : Tb} {G : Gd} {C : Cl} {lv : Nat} {X : Cx} {sc : Scope} {N : List Str} {W : WX} {xc : Option Xc}
section
variable {a : Addr} {oe : Obj} {cls : Value} {dd : Option Addr} {pn : List (Addr × Obj)} {i : Nat} {err : Str}
theorem hsr_of {D : Ends} {ρ : List Addr} {H : Hp} {e : Res Pw.D} {σ : Sg} {f : Pw.D → Mem → SR} (p : PostS X.K G D WF ρ H (SR.of e σ f)) {Q : VK} (i : ∀ v H1 ρ1 d M1, Ge X.K G ρ H ρ1 H1 → RM X.K G H1 ρ1 M1 → Rp X.K G H1 ρ1 d v → PostS X.K G D WF ρ1 H1 (f d M1) → Q v H1) (rs : ∃ σv, Rs X.K G H ρ σ σv) : Post X.K G (rD X.K G) XF ρ H e Q := by
  obtain ⟨σv, rs⟩ := rs
  cases e with
  | ok d m => exact fun ρ' H' v a b c => i v H' ρ' d m a b c (PostS.ge p a)
  | exc x m => exact fun ρ' H' cls dd a b c => p ρ' H' σv cls dd a b (rs.mono a) c
  | bad => exact p
theorem cHb_ok (c : StOk T G C lv X sc N) (hz : Zc cls dd oe) (hf : ∃ vs, oe.data = .fields vs) (en : ErrN sc N err i) {n : Nat} {b : List Stmt} {x : Sms} (h : cHb T n sc N err b = some x) : PSs (X.suite a ((a, oe) :: pn)) b (hS X.K G C a cls dd i fun xc => exms C xc x) := by
  unfold cHb at h
  split at h
  · rename_i y py e pos
    split at h
    · rename_i hcs
      have key : (sc.names.lookup y = some .local ∨ sc.names.lookup y = some .cell) → ((ixS y N 0).bind fun i => (cHe T sc err n e).map fun x => Sms.cons (.asg (.v i) x) .nil) = some x → PSs (X.suite a ((a, oe) :: pn)) [.Assign [.Name y py] e pos] (hS X.K G C a cls dd i fun xc => exms C xc x) := by
        intro hy h
        simp only [Option.bind_eq_some_iff, Option.map_eq_some_iff] at h
        obtain ⟨j, h1, z, h2, rfl⟩ := h
        have j1 := (ixS_get y N 0 j h1).2
        simp only [Nat.sub_zero] at j1
        refine (pss_one (ps_set (X := X.suite a ((a, oe) :: pn)) (by show X.N.Nodup; rw [c.cx.names]; exact c.cx.nd) (by show X.N[j]? = some y; rw [c.cx.names]; exact j1) (by show Loc X.env.scope y; rw [c.cx.scope]; exact hy) (cHe_ok c hz hf en n e z h2)
          (by rw [sw_eq (sc := sc) c.cx.scope c.kind]; unfold swB; cases hh : compSc e with | none => rfl | some s => rw [hh] at hcs; cases hcs)
          (by rcases hy with hy | hy
              · exact .inr (by show X.env.scope.names.lookup y = _; rw [c.cx.scope]; exact hy)
              · exact .inl (c.fnc y hy)))).wk fun D σv H ⟨xe, ρ, σ, M, hx, ih, p⟩ => ?_
        simp only [exms, exm] at p
        have p' : PostS X.K G D WF ρ H (SR.of (ev C (some xe) z σ M) σ fun d m => .nx (σ.set j (some d)) m) := by
          cases hh : ev C (some xe) z σ M with
          | ok d m => rw [hh] at p; exact p
          | exc y m => rw [hh] at p; exact p
          | bad => rw [hh] at p; exact p
        refine ⟨xe, ρ, σ, M, hx, ih, hsr_of p' (fun v H1 ρ1 d M1 ge rm1 r1 p1 => ?_) ⟨σv, ih.rs⟩⟩
        exact p1 ρ1 H1 _ Ge.refl rm1 ((ih.rs.mono ge).set r1 j)
      split at h
      · rename_i hy
        exact key (.inl hy) h
      · rename_i hy
        exact key (.inr hy) h
      · cases h
    · cases h
  · simp only [Option.map_eq_some_iff] at h
    obtain ⟨z, h2, rfl⟩ := h
    refine (pss_one (ps_ret (X := X.suite a ((a, oe) :: pn)) (cHe_ok c hz hf en n _ z h2))).wk fun D σv H ⟨xe, ρ, σ, M, hx, ih, p⟩ => ?_
    simp only [exms, exm] at p
    have p' : PostS X.K G D WF ρ H (SR.of (ev C (some xe) z σ M) σ fun d m => .ret d m) := by
      cases hh : ev C (some xe) z σ M with
      | ok d m => rw [hh] at p; exact p
      | exc y m => rw [hh] at p; exact p
      | bad => rw [hh] at p; exact p
    exact ⟨xe, ρ, σ, M, hx, ih, hsr_of p' (fun v H1 ρ1 d M1 ge rm1 r1 p1 => p1 ρ1 H1 _ Ge.refl rm1 r1) ⟨σv, ih.rs⟩⟩
  · cases h
end
theorem Rs.unset_l {K : PySem.W.Frag} {H : Hp} {ρ : List Addr} {σ : Sg} {σv : VS} (r : Rs K G H ρ σ σv) (i : Nat) (v : Option V) : Rs K G H ρ (σ.set i none) (σv.set i v) := ⟨by simp [r.1], fun j e h => by
  by_cases hj : i = j
  · subst hj
    by_cases hl : i < σ.length
    · rw [List.getElem?_set_self hl] at h
      cases h
    · rw [List.getElem?_eq_none (by simpa using hl)] at h
      cases h
  · rw [List.getElem?_set_ne hj] at h
    obtain ⟨w, e1, e2⟩ := r.2 j e h
    exact ⟨w, by rw [List.getElem?_set_ne hj]; exact e1, e2⟩⟩
theorem t_try (c : StOk T G C lv X sc N) (tk : Takes X W) {x nm : Str} {k i n : Nat} {body : List Stmt} {b s : Sms} {h0 : Stmt} {np pos pos' : Pos} (hg : isGl sc x = true) (hl : sc.names.lookup nm = some .local) (ho : okName nm = true) (hi : ixS nm N 0 = some i) (hx : T.xcs.lookup x = some k)
    (hlen : True)
    (hb : ∀ (W : WX) (pn : List (Addr × Obj)) (xe : Value → Shared → Prop), Takes (X.tr pn xe) W → PassesOwn (model X.prog X.w) X.A X.env xe → PSs (X.tr pn xe) body (tS X.K G W (exms C xc b))) (hh : cHb T n sc N nm [h0] = some s) :
    PS X (.Try body [.ExceptHandler (some (.Name x np)) (some nm) [h0] pos'] [] [] pos) (tS X.K G W (exm C xc (.try_ b (.cons k (some i) s .nil)))) := by
  obtain ⟨g1, g2⟩ := isGl_spec c.cx hg
  have i1 := (ixS_get nm N 0 i hi).2
  simp only [Nat.sub_zero] at i1
  obtain ⟨d1, d2⟩ := okName_spec ho
  have en : ErrN sc N nm i := ⟨i1, hl, d1, d2⟩
  refine (ps_try_as (tb := fun W => tS X.K G W (exms C xc b)) (ts := fun a cls d => hS X.K G C a cls d i fun xc => exms C xc s) c.stk c.frm (by rw [c.cx.names]; exact c.cx.nd) (by rw [c.cx.names]; exact i1) (by show X.env.scope.names.lookup nm = _; rw [c.cx.scope]; exact hl) ⟨g1, g2, .inl (c.xg x k hx)⟩ tk hb
    (fun a oe cls d pn hz hf => cHb_ok c hz hf en hh)).wk fun D σv H ⟨ρ, σ, M, rm, rs, p⟩ => ?_
  simp only [exm] at p
  refine ⟨ρ, σ, M, rm, rs, ?_⟩
  cases hr : exms C xc b σ M with
  | nx σ' M' => rw [hr] at p; exact p
  | brk σ' M' => rw [hr] at p; exact p
  | cnt σ' M' => rw [hr] at p; exact p
  | ret d M' => rw [hr] at p; exact p
  | bad => rw [hr] at p; exact p
  | exc xe σ' M' =>
    rw [hr] at p
    intro ρ1 H1 σv1 cls dd ge rm1 rs1 rx
    simp only [exh] at p
    split at p
    · rename_i hX
      have q := PostS.ge p ge
      have e1 : cls = .ref (G.cA xe.c) := rx.1
      refine ⟨C.isA xe.c k, by rw [e1]; exact (c.xis x k xe.c hx hX).1, fun hA a ha => ?_, fun hA => ?_⟩
      · rw [if_pos hA] at q
        split at q
        case isFalse => exact False.elim q
        rename_i hok
        have hlt : i < σv1.length := by rw [← rs1.1]; simpa [okI] using hok
        refine ⟨xe, ρ1, σ'.set i none, M', hX, ⟨?_, rm1, rs1.unset_l i _, rx⟩, ?_⟩
        · rw [List.getElem?_set_self hlt]
        · simp only [unsetO] at q
          show PostS X.K G _ WF ρ1 H1 (exms C (some xe) s (σ'.set i none) M')
          cases hs : exms C (some xe) s (σ'.set i none) M' with
          | nx σ2 M2 => rw [hs] at q; exact fun ρ' H' σv' a b c => q ρ' H' _ a b (c.unset i)
          | brk σ2 M2 => rw [hs] at q; exact fun ρ' H' σv' a b c => q ρ' H' _ a b (c.unset i)
          | cnt σ2 M2 => rw [hs] at q; exact fun ρ' H' σv' a b c => q ρ' H' _ a b (c.unset i)
          | ret d M2 => rw [hs] at q; exact q
          | exc y σ2 M2 => rw [hs] at q; exact False.elim q
          | bad => rw [hs] at q; exact False.elim q
      · rw [if_neg (by rw [hA]; simp)] at q
        exact q ρ1 H1 σv1 cls dd Ge.refl rm1 rs1 rx
    · exact False.elim p
end
structure Ss (T : Tb) (G : Gd) (C : Cl) (lv : Nat) (N : List Str) (xc : Option Xc) (n : Nat) : Prop where
  s : ∀ (X : Cx) (sc : Scope) (W : WX), StOk T G C lv X sc N → Takes X W → ∀ s x, cS T n sc N s = some x → PS X s (tS X.K G W (exm C xc x))
  ss : ∀ (X : Cx) (sc : Scope) (W : WX), StOk T G C lv X sc N → Takes X W → ∀ s x, cSs T n sc N s = some x → PSs X s (tS X.K G W (exms C xc x))
section
variable {T : Tb} {G : Gd} {C : Cl} {lv : Nat} {N : List Str} {xc : Option Xc}
theorem ss_s (hxf : ∀ x k, T.xcs.lookup x = some k → T.xcs.lookup x = some k) {n : Nat} (ih : Ss T G C lv N xc n) (X : Cx) (sc : Scope) (W : WX) (c : StOk T G C lv X sc N) (tk : Takes X W) (st : Stmt) (x : Sm) (h : cS T (n + 1) sc N st = some x) : PS X st (tS X.K G W (exm C xc x)) := by
  have sn := sn_all (T := T) (G := G) (C := C) (lv := lv) (N := N) (xc := xc) n
  have E := fun e x h => sn.e X sc W c.cx tk e x h
  have B := fun s x h => ih.ss X sc W c tk s x h
  unfold cS at h
  split at h
  · split at h
    · rename_i hc
      simp only [Bool.and_eq_true] at hc
      simp only [Option.bind_eq_some_iff, Option.map_eq_some_iff] at h
      obtain ⟨x, h1, y, h2, z, h3, rfl⟩ := h
      exact t_sts c hc.1 hc.2 (E _ _ h1).1 (E _ _ h2).1 (E _ _ h3).1
    · cases h
  · simp only [Option.bind_eq_some_iff] at h
    obtain ⟨t, h0, h⟩ := h
    split at h
    · rename_i hc
      simp only [Bool.and_eq_true, decide_eq_true_eq] at hc
      simp only [Option.map_eq_some_iff] at h
      obtain ⟨x, h1, rfl⟩ := h
      exact t_asg c h0 hc.1 hc.2 (E _ _ h1).1
    · split at h
      · split at h
        · rename_i hc
          simp only [Option.map_eq_some_iff] at h
          obtain ⟨xs, h1, rfl⟩ := h
          exact t_par c h0 hc.2.1 hc.2.2.1 hc.2.2.2.1 hc.1 h1 hc.2.2.2.2 (sn.es X sc W c.cx tk _ _ h1)
        · cases h
      · split at h
        · rename_i hc
          simp only [Option.map_eq_some_iff] at h
          obtain ⟨x, h1, rfl⟩ := h
          exact t_lc c tk h0 hc.1 hc.2.1 hc.2.2 h1
        · cases h
      · cases h
  · split at h
    · rename_i hx
      simp only [Option.bind_eq_some_iff] at h
      obtain ⟨i, h1, h⟩ := h
      split at h
      · simp only [Option.map_eq_some_iff] at h
        obtain ⟨y, h2, rfl⟩ := h
        exact t_aug c hx h1 (.inl ⟨rfl, rfl⟩) (E _ _ h2).1
      · simp only [Option.map_eq_some_iff] at h
        obtain ⟨y, h2, rfl⟩ := h
        exact t_aug c hx h1 (.inr ⟨rfl, rfl⟩) (E _ _ h2).1
      · cases h
    · cases h
  · simp only [Option.bind_eq_some_iff, Option.map_eq_some_iff] at h
    obtain ⟨z, h0, x, h1, y, h2, rfl⟩ := h
    exact t_if (E _ _ h0).2.1 (B _ _ h1) (B _ _ h2)
  · simp only [Option.bind_eq_some_iff, Option.map_eq_some_iff] at h
    obtain ⟨z, h0, x, h1, rfl⟩ := h
    exact t_whl c (E _ _ h0).2.1 (B _ _ h1)
  · split at h
    · rename_i hs
      simp only [Option.bind_eq_some_iff, Option.map_eq_some_iff] at h
      obtain ⟨t, h0, w, h1, x, h2, rfl⟩ := h
      exact t_for c hs h0 (sn.it X sc W c.cx tk _ _ w h1) (B _ _ h2)
    · cases h
  · simp only [Option.map_eq_some_iff] at h
    obtain ⟨x, h1, rfl⟩ := h
    exact t_ret (E _ _ h1).1
  · cases h
    exact t_retN
  · cases h
    exact t_pass ps_doc
  · split at h
    · rename_i hc
      simp only [Option.map_eq_some_iff] at h
      obtain ⟨x, h1, rfl⟩ := h
      exact t_exp hc (E _ _ h1).1
    · cases h
  · split at h
    · rename_i hc
      simp only [Bool.and_eq_true] at hc
      simp only [Option.bind_eq_some_iff] at h
      obtain ⟨k, h0, h⟩ := h
      split at h
      · rename_i hl
        simp only [Option.map_eq_some_iff] at h
        obtain ⟨xs, h1, rfl⟩ := h
        refine t_raise c tk hc.1 h0 (fun z => ?_) hc.2 (sn.es X sc W c.cx tk _ _ h1)
        cases hq : T.xfn k with
        | none => rw [hq] at hl; cases hl
        | some l =>
          rw [hq] at hl
          rw [c.xf k l hq] at z
          subst z
          cases hl
      · cases h
    · cases h
  · split at h
    · rename_i hc
      simp only [Option.bind_eq_some_iff, Option.map_eq_some_iff] at h
      obtain ⟨i, h0, k, h1, b, h2, s, h3, rfl⟩ := h
      exact t_try c tk hc.1 hc.2.1 hc.2.2 h0 h1 trivial (fun W' pn xe tk' pa => ih.ss (X.tr pn xe) sc W' (c.tr pn xe pa) tk' _ b h2) h3
    · cases h
  · cases h
    exact t_pass ps_pass
  · cases h
    exact t_brk
  · cases h
    exact t_cnt
  · cases h
theorem ss_ss {n : Nat} (ih : Ss T G C lv N xc n) (X : Cx) (sc : Scope) (W : WX) (c : StOk T G C lv X sc N) (tk : Takes X W) (st : List Stmt) (x : Sms) (h : cSs T (n + 1) sc N st = some x) : PSs X st (tS X.K G W (exms C xc x)) := by
  cases st with
  | nil =>
    simp only [cSs, Option.some.injEq] at h
    subst h
    exact ts_nil
  | cons s r =>
    simp only [cSs, Option.bind_eq_some_iff, Option.map_eq_some_iff] at h
    obtain ⟨x, h1, y, h2, rfl⟩ := h
    exact ts_cons (ih.s X sc W c tk s x h1) (ih.ss X sc W c tk r y h2)
theorem ss_all : ∀ n, Ss T G C lv N xc n
  | 0 => ⟨fun _ _ _ _ _ _ _ h => by simp [cS] at h, fun _ _ _ _ _ _ _ h => by simp [cSs] at h⟩
  | n + 1 => ⟨ss_s (fun _ _ h => h) (ss_all n), ss_ss (ss_all n)⟩
end
end Pw
set_option Elab.async false
set_option linter.all false
set_option maxRecDepth 100000
set_option autoImplicit false
set_option maxHeartbeats 4000000
/-! Defs: every def of the text runs as the interpreter says, by the level of calls. -/
namespace Pw
open PySem PySem.Spec PyProof.Rows L2
/-- a def as the interpreter has it: how many parameters, how many slots, the body -/
structure Fi where
  ar : Nat
  n : Nat
  body : Sms
def resOf : SR → Res D
  | .nx _ m => .ok .non m
  | .ret d m => .ok d m
  | .exc x _ m => .exc x m
  | _ => .bad
def startD (n : Nat) (ds : List D) : Sg := ds.map some ++ List.replicate (n - ds.length) none
def runF (C : Cl) (fi : Fi) (ds : List D) (m : Mem) : Res D := if ds.length = fi.ar then resOf (exms C none fi.body (startD fi.n ds) m) else .bad
/-- calls, at most k deep -/
def callK (C : Cl) (fis : Nat → Option Fi) : Nat → Nat → List D → Mem → Res D
  | 0, _, _, _ => .bad
  | k + 1, f, ds, m => match fis f with
    | some fi => runF { C with call := callK C fis k } fi ds m
    | none => .bad
def clK (C : Cl) (fis : Nat → Option Fi) (k : Nat) : Cl := { C with call := callK C fis k }
/-- a def of the text -/
structure Fd where
  name : Str
  qual : Str
  params : Arguments
  body : List Stmt
  scope : Scope
  ps : List Str
  N : List Str
/-- what the written part (K, and the names of the module) says: all that rules ask of it -/
structure Glob (T : Tb) (G : Gd) (C : Cl) (K : PySem.W.Frag) (mg : Str → Option Value) : Prop where
  aC : C.adrC = G.adrC
  adrT : T.adrC = G.adrC
  cls : SlX.SCls K (G.cA G.adrC)
  mth : ∀ c k f, C.mth c k = some f → PySem.W.findIn K (.ref (G.cA c)) (G.nm k) = some (some (.ref (G.fA f))) ∧ PySem.W.isFn K (.ref (G.fA f)) = true ∧ PySem.W.keepIn K (.ref (G.fA f)) = true
  mthC : ∀ c k f, C.mth c k = some f → c ≠ G.adrC → Cls K (G.cA c)
  nEq : G.nm nEq = "__eq__"
  nLt : G.nm nLt = "__lt__"
  nLe : G.nm nLe = "__le__"
  nGt : G.nm nGt = "__gt__"
  nGe : G.nm nGe = "__ge__"
  nAdd : G.nm nAdd = "__add__"
  nRadd : G.nm nRadd = "__radd__"
  nLen : G.nm nLen = "__len__"
  nSteps : G.nm nSteps = "steps"
  nAppend : G.nm nAppend = "append"
  nExtend : G.nm nExtend = "extend"
  nPop : G.nm nPop = "pop"
  nReverse : G.nm nReverse = "reverse"
  first : PySem.W.notFirst K (G.cA G.adrC) (.ref (G.cA G.adrC)) = true
  firstT : PySem.W.notFirst K (G.cA G.adrC) (.type "tuple") = true
  sf : PySem.W.selfFirst K (G.cA G.adrC) = true
  hne : PySem.W.findIn K (.ref (G.cA G.adrC)) "__ne__" = some (some (.builtin "object.__ne__"))
  hob : PySem.W.subIn K (.ref (G.cA G.adrC)) (.type "object") = some true
  t1 : PySem.W.findIn K (.type "tuple") "__add__" = some (some (.builtin "tuple.__add__"))
  t2 : PySem.W.findIn K (.type "tuple") "__radd__" = some none
  t3 : PySem.W.subIn K (.type "tuple") (.ref (G.cA G.adrC)) = some false
  radd : ∃ rc, PySem.W.findIn K (.ref (G.cA G.adrC)) "__radd__" = some rc ∧ (rc = none ∨ ∃ g : Addr, rc = some (.ref g))
  slot : ∃ p, SlX.Slot1 K (G.cA G.adrC) "steps" p 0
  add0 : ∃ f, C.mth G.adrC Pw.nAdd = some f
  nms : ∀ x k, ixS x T.nms 0 = some k → G.nm k = x
  cons : ∀ x g, T.cons.lookup x = some g → ∃ u v, mg x = some u ∧ RelV v u ∧ ∀ H ρ, Rp K G H ρ (C.con g) v
  blts : ∀ x, T.blts.contains x = true → mg x = none
  fns : ∀ x f, T.fns.lookup x = some f → mg x = some (.ref (G.fA f))
  clss : ∀ x c, T.clss.lookup x = some c → mg x = some (.ref (G.cA c))
  kitB : ∀ (t : String) (x : Str) (c : Nat), t ∈ ["NoneType", "bool", "int", "str", "list", "tuple", "dict"] → T.clss.lookup x = some c → PySem.W.kitOne K (.type t) (.ref (G.cA c)) = some false
  kitA : ∀ (t : String), t ∈ ["bool", "int", "str", "list", "tuple", "dict"] → PySem.W.kitOne K (.ref (G.cA G.adrC)) (.type t) = some false
  kitC : ∀ (x : Str) (c : Nat), T.clss.lookup x = some c → PySem.W.kitOne K (.ref (G.cA G.adrC)) (.ref (G.cA c)) = some (C.isA G.adrC c)
  attI : ∀ c f, C.att c f = true → Cls K (G.cA c) ∧ NoAttr K (G.cA c) (G.nm f)
  sisi : SlX.SIsi K (G.cA G.adrC)
  kpA : PySem.W.keepIn K (.ref (G.cA G.adrC)) = true
  xg : ∀ x c, T.xcs.lookup x = some c → mg x = some (.ref (G.cA c))
  xf : ∀ c l, T.xfn c = some l → C.xfs c = l
  xin : ∀ c, ∀ a ∈ C.xfs c, ∀ b ∈ C.xfs c, G.nm a = G.nm b → a = b
  xis : ∀ x c k, T.xcs.lookup x = some c → C.isX k = true → PySem.W.exmOne K (.ref (G.cA k)) (.ref (G.cA c)) = some (C.isA k c) ∧ PySem.W.kitOne K (.ref (G.cA k)) (.ref (G.cA c)) = some (C.isA k c)
  xfc : ∀ k, C.isX k = true → XfC K (G.cA k) ∧ ExcC K (G.cA k)
  xno : ∀ k f, C.isX k = true → f ∈ C.xfs k → PySem.W.findIn K (.ref (G.cA k)) (G.nm f) = some none
/-- the defs' own facts -/
structure FnsOk (T : Tb) (G : Gd) (K : PySem.W.Frag) (fds : Nat → Option Fd) (fis : Nat → Option Fi) (fd : Nat → FuncData) : Prop where
  len : ∀ f, (fds f).isSome = (fis f).isSome
  all : ∀ (f : Nat) (d : Fd) (fi : Fi), fds f = some d → fis f = some fi → (∃ dvs, FunD K d.name d.qual d.params d.body d.scope dvs [] (G.fA f) (fd f)) ∧ FnScope d.N d.ps d.scope ∧ fi.ar = d.ps.length ∧ fi.n = d.N.length ∧
    (∃ n, cSs T n d.scope d.N d.body = some fi.body) ∧ Binds K (fd f) d.ps []
  dfl : ∀ f a ds, T.ar f = some a → T.dfl f = some ds → ∃ d, fds f = some d ∧ d.ps.length = a ∧ PySem.W.keepIn K (.ref (G.fA f)) = true ∧
    ∀ k, k ≤ ds.length → ∃ dv us, Vals dv us ∧ Binds K (fd f) d.ps us ∧ ∀ H ρ, Rps K G H ρ (ds.drop (ds.length - k)) dv
  mth : ∀ (C : Cl) c k f, C.mth c k = some f → True
section
variable {T : Tb} {G : Gd} {C : Cl} {K : PySem.W.Frag} {mg : Str → Option Value} {P : Program} {w : World} {base : Heap} {fds : Nat → Option Fd} {fis : Nat → Option Fi} {fd : Nat → FuncData}
/-- making addresses and raising errors, for every context -/
structure MkOk (T : Tb) (G : Gd) (C : Cl) (K : PySem.W.Frag) (mg : Str → Option Value) (P : Program) (w : World) (base : Heap) : Prop where
  mka : ∃ fI fd ps us, Mk K (G.cA G.adrC) fI ∧ FnOk P w K mg base CX0 1 fI fd ps (spMk (G.cA G.adrC)) ∧ Binds K fd ps [] ∧ Binds K fd ps [us] ∧ ∃ v, RelV v us ∧ ∀ H ρ, Rp K G H ρ (.tup []) v
  rz : ∀ x c, T.xcs.lookup x = some c → C.xfs c ≠ [] → RzP P w K mg base 1 x (G.cA c) ((C.xfs c).map G.nm)
theorem RzP.mono {lv lv' : Nat} {x : Str} {C0 : Addr} {names : List Str} (h : RzP P w K mg base lv x C0 names) (hl : lv ≤ lv') : RzP P w K mg base lv' x C0 names :=
  fun X e1 e2 e3 e4 e5 hr => h X e1 e2 e3 e4 e5 (hr.mono (by omega))
theorem rs_start {H : Hp} {ρ : List Addr} {ds : List D} {vs : List V} {n : Nat} {N : List Str} (hn : n = N.length) (r : Rps K G H ρ ds vs) : Rs K G H ρ (startD n ds) (L2.start N vs) := by
  refine ⟨by have := r.length; simp [startD, L2.start, hn, this], fun i d h => ?_⟩
  unfold startD at h
  by_cases hl : i < ds.length
  · rw [List.getElem?_append_left (by simpa using hl), List.getElem?_map] at h
    cases hd : ds[i]? with
    | none => rw [hd] at h; cases h
    | some d' =>
      rw [hd] at h
      simp at h
      subst h
      obtain ⟨v, h1, h2⟩ := r.get hd
      refine ⟨v, ?_, h2⟩
      unfold L2.start
      have hl2 : i < (vs.map some).length := by rw [List.length_map, ← r.length]; exact hl
      rw [List.getElem?_append_left hl2, List.getElem?_map, h1]
      rfl
  · rw [List.getElem?_append_right (by simpa using Nat.le_of_not_lt hl)] at h
    rw [List.getElem?_replicate] at h
    split at h <;> cases h
abbrev lvK (k : Nat) : Nat := 3 * k + 1
theorem level (g : Glob T G C K mg) (mk : MkOk T G C K mg P w base) (fo : FnsOk T G K fds fis fd) : ∀ (k f : Nat) (d : Fd), fds f = some d → FnOk P w K mg base (L2.CX P w) (lvK k) (G.fA f) (fd f) d.ps (spN K G (callK C fis k) f)
  | 0, f, d, hd => ⟨fun vs H Q E ⟨ρ, ds, M, rm, rs, p⟩ => False.elim p, fun A outer s H args us vs Q E _ _ _ _ ⟨ρ, ds, M, rm, rs, p⟩ => False.elim p⟩
  | k + 1, f, d, hd => by
    have ih := level g mk fo k
    obtain ⟨fi, hfi⟩ : ∃ fi, fis f = some fi := Option.isSome_iff_exists.mp (by rw [← fo.len, hd]; rfl)
    obtain ⟨⟨dvs, FD⟩, S, har, hn, ⟨n, hc⟩, hb⟩ := fo.all f d fi hd hfi
    have raw : ∀ f' d', fds f' = some d' → FnR P w K mg base (L2.CX P w) (lvK k) (G.fA f') (spN K G (callK C fis k) f') := fun f' d' h' => by
      obtain ⟨fi', hfi'⟩ : ∃ fi, fis f' = some fi := Option.isSome_iff_exists.mp (by rw [← fo.len, h']; rfl)
      obtain ⟨_, _, _, _, _, hb'⟩ := fo.all f' d' fi' h' hfi'
      exact ((ih f' d' h').raw hb' .nil).imp fun vs H Q E h => by rw [List.append_nil]; exact h
    have rawM : ∀ c k' f', C.mth c k' = some f' → FnR P w K mg base (L2.CX P w) (lvK k) (G.fA f') (spN K G (callK C fis k) f') := by
      intro c k' f' _
      cases hf' : fds f' with
      | some d' => exact raw f' d' hf'
      | none =>
        -- no such def: its calls are bad
        have hz : fis f' = none := by
          have h1 := fo.len f'
          rw [hf'] at h1
          cases hq : fis f' with
          | none => rfl
          | some _ => rw [hq] at h1; cases h1
        intro A outer s H us vs Q E _ _ _ ⟨ρ, ds, M, rm, rs, p⟩
        cases k with
        | zero => exact False.elim p
        | succ k => simp only [callK, hz] at p; exact False.elim p
    have call_eq : ∀ ds M, callK C fis (k + 1) f ds M = runF (clK C fis k) fi ds M := fun ds M => by simp only [callK, hfi, clK]
    refine FD.ok (k := 3 * k + 3) S (fun vs H Q E ⟨ρ, ds, M, rm, rs, p⟩ => ?_) (fun cdv A outer s H vs Q E hr ⟨ρ, ds, M, rm, rs, p⟩ => ?_)
    · rw [call_eq] at p
      unfold runF at p
      split at p
      · rename_i hl
        rw [← rs.length, hl, har]
      · exact False.elim p
    · rw [call_eq] at p
      unfold runF at p
      split at p
      case isFalse => exact False.elim p
      rename_i hl
      obtain ⟨fI, fdI, psI, usI, mkI, FI, b0, b1, v0, rv0, rt⟩ := mk.mka
      have adr : AdrOk (cxOf (L2.CX P w) P w K mg base d.N d.qual d.scope (G.fA f) cdv A outer s H E) G (clK C fis k) (lvK k) :=
        { adrC := g.aC, room := hr, cls := g.cls, mth := fun k' f' h' => ⟨(g.mth _ _ _ h').1, (g.mth _ _ _ h').2.1, (g.mth _ _ _ h').2.2, rawM _ k' f' h'⟩, nEq := g.nEq, nLt := g.nLt, nLe := g.nLe, nGt := g.nGt, nGe := g.nGe, nAdd := g.nAdd, nRadd := g.nRadd, nLen := g.nLen, nSteps := g.nSteps,
          first := g.first, firstT := g.firstT, sf := g.sf, hne := g.hne, hob := g.hob, t1 := g.t1, t2 := g.t2, t3 := g.t3, radd := g.radd, slot := g.slot }
      have st : StOk T G (clK C fis k) (lvK k) (cxOf (L2.CX P w) P w K mg base d.N d.qual d.scope (G.fA f) cdv A outer s H E) d.scope d.N :=
        { cx :=
            { scope := rfl, names := rfl, nd := S.nd, calm := rfl, adr := adr, adrT := g.adrT, add0 := g.add0, nms := g.nms, cons := g.cons, blts := g.blts, fns := g.fns, clss := g.clss,
              fni := fun f' a ds' h1 h2 => by
                obtain ⟨d', hd', hp, kp, hbs⟩ := fo.dfl f' a ds' h1 h2
                exact ⟨fd f', d'.ps, hp, ih f' d' hd', kp, hbs⟩
              kitB := g.kitB, kitA := g.kitA, kitC := g.kitC, mthI := fun c k' f' h' hne => ⟨g.mthC c k' f' h' hne, ⟨(g.mth _ _ _ h').1, (g.mth _ _ _ h').2.1, (g.mth _ _ _ h').2.2⟩, rawM c k' f' h'⟩,
              attI := g.attI, nAppend := g.nAppend, nExtend := g.nExtend, nPop := g.nPop, nReverse := g.nReverse, sisi := g.sisi,
              mka := ⟨fI, fdI, psI, usI, g.kpA, mkI, FI.mono (by unfold lvK; omega), b0, b1, v0, rv0, rt⟩ }
          fnc := fun _ _ => rfl, kind := S.kind, stk := rfl, frm := rfl, pas := passes_of rfl, xg := g.xg, rz := fun x c h1 h2 => (mk.rz x c h1 h2).mono (by unfold lvK; omega), xf := g.xf, xin := g.xin, xis := g.xis, xfc := g.xfc, xno := g.xno }
      have tk : Takes (cxOf (L2.CX P w) P w K mg base d.N d.qual d.scope (G.fA f) cdv A outer s H E) (fun cls dd _ H => E cls dd H) := takes_of rfl rfl rfl rfl
      refine ⟨_, (ss_all (xc := none) n).ss _ d.scope _ st tk d.body fi.body hc, ρ, startD fi.n ds, M, rm, rs_start hn rs, ?_⟩
      show PostS K G _ _ ρ H (exms (clK C fis k) none fi.body (startD fi.n ds) M)
      cases hh : exms (clK C fis k) none fi.body (startD fi.n ds) M with
      | nx σ' M' => rw [hh] at p; exact fun ρ' H' σv' a b _ => p ρ' H' .non a b .non
      | ret v M' => rw [hh] at p; exact p
      | brk σ' M' => rw [hh] at p; exact False.elim p
      | cnt σ' M' => rw [hh] at p; exact False.elim p
      | exc x σ' M' => rw [hh] at p; exact fun ρ' H' σv' cls dd a b _ rx => p ρ' H' cls dd a b rx
      | bad => rw [hh] at p; exact False.elim p
end
end Pw
set_option Elab.async false
set_option linter.all false
set_option maxRecDepth 100000
set_option autoImplicit false
set_option maxHeartbeats 4000000
/-! Making an address: its __init__. -/
namespace Pw
open PySem PySem.Spec PyProof.Rows L2
section
variable {K : PySem.W.Frag} {mg : Str → Option Value} {P : Program} {w : World} {base : Heap} {C0 p fI : Addr} {fd : FuncData}
theorem mka_ok {sc : Scope} {dvs : List V} {params : Arguments} {q1 q2 q3 q4 : Pos} {nm ql : Str} (F : FunD K nm ql params [.Assign [.Attribute (.Name "self" q1) "steps" q2] (.Name "steps" q3) q4] sc dvs [] fI fd) (S : FnScope ["self", "steps"] ["self", "steps"] sc)
    (c : SlX.SCls K C0) (t : SlX.Slot1 K C0 "steps" p 0) : FnOk P w K mg base CX0 1 fI fd ["self", "steps"] (spMk C0) := by
  refine F.ok (k := 0) S (fun vs H Q E ⟨x, dx, v, e, _⟩ => by rw [e]; rfl) (fun cdv A outer s H vs Q E hr h => ?_)
  have v0 : Vis sc "self" := by
    rcases S.par "self" (by decide) with h | h
    · exact .inl h
    · exact .inr (.inl h)
  have v1 : Vis sc "steps" := by
    rcases S.par "steps" (by decide) with h | h
    · exact .inl h
    · exact .inr (.inl h)
  refine ⟨_, PSs.nox (pss_one (SlX.ps_sl (pe_var (i := 0) rfl v0) (pe_var (i := 1) rfl v1))), ?_⟩
  obtain ⟨x, dx, v, rfl, hne, hx, q⟩ := h
  refine ⟨v, rfl, .ref x, rfl, x, C0, dx, p, [], 0, rfl, .inl ⟨hx, rfl⟩, c, t, ?_⟩
  have e : SlX.putS 0 v [] = [some v] := rfl
  rw [e]
  exact q
end
end Pw
set_option Elab.async false
set_option linter.all false
set_option maxRecDepth 100000
set_option autoImplicit false
set_option maxHeartbeats 4000000
/-! The tables of a text; a Hook whose check gives all facts that the rules ask. -/
namespace Pw
open PySem PySem.Spec PyProof.Rows L2
structure Fn where
  ix : Nat
  d : He.DefD
  ps : List Str
  N : List Str
  body : Sms
/-- an own error with an __init__: its class's number, its __init__ -/
structure XD where
  c : Nat
  d : He.DefD
  sf : Str
  flds : List (Str × Str)
structure Tx where
  nm : List Str
  cls : List (Nat × Str)
  adr : Nat
  fns : List Fn
  mths : List (Nat × Nat × Nat)
  atts : List (Nat × Nat)
  isas : List (Nat × Nat)
  xcs : List Nat
  xfs : List (Nat × List Nat)
  blts : List Str
  fuel : Nat
  xds : List XD
  ini : He.DefD
  file : Str
def Tx.find (t : Tx) (f : Nat) : Option Fn := t.fns.find? fun p => p.ix == f
def Tx.cn (t : Tx) (c : Nat) : Str := (t.cls.lookup c).getD ""
def ixNames : List Fn → List (Str × Nat)
  | [] => []
  | p :: r => (match p.d.at_ with
    | (x, none) => [(x, p.ix)]
    | _ => []) ++ ixNames r
def Tx.G (t : Tx) (K : PySem.W.Frag) : Gd := ⟨fun f => match t.find f with
  | some p => He.fAd K p.d.at_
  | none => 0, fun c => He.ga K (t.cn c), t.adr, fun k => t.nm.getD k ""⟩
def Tx.C (t : Tx) : Cl where
  call := fun _ _ _ => .bad
  mth := fun c k => (t.mths.find? fun p => p.1 == c && p.2.1 == k).map (·.2.2)
  prp := fun _ _ => none
  att := fun c f => t.atts.contains (c, f)
  isA := fun a b => t.isas.contains (a, b)
  xfs := fun c => (t.xfs.lookup c).getD []
  isX := fun k => t.xcs.contains k
  adrC := t.adr
  con := fun _ => .non
  fuel := t.fuel
def Tx.T (t : Tx) : Tb where
  nms := t.nm
  fns := ixNames t.fns
  clss := t.cls.map fun p => (p.2, p.1)
  cons := []
  blts := t.blts
  ar := fun f => (t.find f).map fun p => p.ps.length
  dfl := fun f => (t.find f).map fun _ => []
  adrC := t.adr
  xcs := (t.cls.map fun p => (p.2, p.1)).filter fun p => t.xcs.contains p.2
  xfn := fun c => t.xfs.lookup c
theorem look_mem {α β : Type} [BEq α] [LawfulBEq α] : ∀ {l : List (α × β)} {x : α} {y : β}, l.lookup x = some y → (x, y) ∈ l
  | [], _, _, h => by simp at h
  | (z, w) :: r, x, y, h => by
    rw [List.lookup_cons] at h
    split at h
    · rename_i e
      cases h
      have e' : x = z := by simpa using e
      subst e'
      exact List.mem_cons_self
    · exact List.mem_cons_of_mem _ (look_mem h)
theorem ixS_all : ∀ (l : List Str) (i k : Nat) (x : Str), ixS x l i = some k → i ≤ k ∧ l.getD (k - i) "" = x
  | [], _, _, _, h => by cases h
  | y :: r, i, k, x, h => by
    unfold ixS at h
    split at h
    · rename_i e
      cases h
      subst e
      exact ⟨Nat.le_refl _, by simp⟩
    · obtain ⟨h1, h2⟩ := ixS_all r (i + 1) k x h
      refine ⟨by omega, ?_⟩
      have e : k - i = (k - (i + 1)) + 1 := by omega
      rw [e]
      simpa using h2
theorem ixNames_mem : ∀ {l : List Fn} {x : Str} {f : Nat}, (x, f) ∈ ixNames l → ∃ p ∈ l, p.ix = f ∧ p.d.at_ = (x, none)
  | [], _, _, h => by simp [ixNames] at h
  | p :: r, x, f, h => by
    simp only [ixNames, List.mem_append] at h
    rcases h with h | h
    · split at h
      · rename_i y e
        simp only [List.mem_singleton, Prod.mk.injEq] at h
        obtain ⟨rfl, rfl⟩ := h
        exact ⟨p, List.mem_cons_self, rfl, e⟩
      · simp at h
    · obtain ⟨q, h1, h2⟩ := ixNames_mem h
      exact ⟨q, List.mem_cons_of_mem _ h1, h2⟩
theorem find_of {t : Tx} (hn : (t.fns.map (·.ix)).Nodup) {p : Fn} (h : p ∈ t.fns) : t.find p.ix = some p := by
  unfold Tx.find
  generalize t.fns = l at hn h
  induction l with
  | nil => simp at h
  | cons q r ih =>
    simp only [List.map_cons, List.nodup_cons] at hn
    rw [List.find?_cons]
    by_cases e : q.ix = p.ix
    · simp only [e, beq_self_eq_true]
      rcases List.mem_cons.mp h with h | h
      · rw [h]
      · exact absurd (e ▸ List.mem_map_of_mem (f := (·.ix)) h) hn.1
    · have e2 : (q.ix == p.ix) = false := by simpa using e
      rw [e2]
      rcases List.mem_cons.mp h with h | h
      · exact absurd (by rw [h]) e
      · exact ih hn.2 h
theorem find_mem {t : Tx} {f : Nat} {p : Fn} (h : t.find f = some p) : p ∈ t.fns ∧ p.ix = f := by
  refine ⟨List.mem_of_find?_eq_some h, ?_⟩
  have := List.find?_some h
  simpa using this
theorem filter_lookup {p : Str × Nat → Bool} {l : List (Str × Nat)} {x : Str} {c : Nat} (h : (l.filter p).lookup x = some c) : (x, c) ∈ l ∧ p (x, c) = true := by
  have := look_mem h
  simpa using this
end Pw
set_option Elab.async false
set_option linter.all false
set_option maxRecDepth 100000
set_option autoImplicit false
set_option maxHeartbeats 4000000
/-! The checks, and the facts they give. -/
namespace Pw
open PySem PySem.Spec PyProof.Rows L2
abbrev eqS (a b : Str) : Bool := decide (a = b)
/-- the names that the interpreter knows by number -/
def nmHead : List Str := ["__init__", "__eq__", "__lt__", "__le__", "__gt__", "__ge__", "__add__", "__radd__", "__len__", "__contains__", "__call__", "__getitem__", "__setitem__", "__iadd__", "__enter__", "__exit__", "steps", "append", "extend", "pop", "reverse"]
def kitTs : List String := ["NoneType", "bool", "int", "str", "list", "tuple", "dict"]
def kitT6 : List String := ["bool", "int", "str", "list", "tuple", "dict"]
section
variable (t : Tx) (K : PySem.W.Frag)
abbrev Tx.aA : Addr := He.ga K (t.cn t.adr)
def chCls (c : Nat) : Bool := PySem.W.plainGet K ((t.G K).cA c) Str.empty && (PySem.W.hasDictIn K ((t.G K).cA c) && (PySem.W.plainOver K ((t.G K).cA c) && He.eqO (PySem.W.findIn K (.ref ((t.G K).cA c)) "__setattr__") (some (some (.builtin "object.__setattr__")))))
def chAdr : Bool := PySem.W.plainGet K (t.aA K) Str.empty && (PySem.W.isClsIn K (t.aA K) && (PySem.W.plainOver K (t.aA K) && He.eqO (PySem.W.findIn K (.ref (t.aA K)) "__setattr__") (some (some (.builtin "object.__setattr__")))))
def chMth : Bool := t.mths.all fun p => He.eqO (PySem.W.findIn K (.ref ((t.G K).cA p.1)) ((t.G K).nm p.2.1)) (some (some (.ref ((t.G K).fA p.2.2)))) && (PySem.W.isFn K (.ref ((t.G K).fA p.2.2)) && (PySem.W.keepIn K (.ref ((t.G K).fA p.2.2)) && (decide (p.1 = t.adr) || chCls t K p.1)))
def chNm : Bool := decide (t.nm.take 21 = nmHead)
def chOps : Bool := PySem.W.notFirst K (t.aA K) (.ref (t.aA K)) && (PySem.W.notFirst K (t.aA K) (.type "tuple") && (PySem.W.selfFirst K (t.aA K) && (He.eqO (PySem.W.findIn K (.ref (t.aA K)) "__ne__") (some (some (.builtin "object.__ne__"))) &&
  (decide (PySem.W.subIn K (.ref (t.aA K)) (.type "object") = some true) && (He.eqO (PySem.W.findIn K (.type "tuple") "__add__") (some (some (.builtin "tuple.__add__"))) && (He.eqO (PySem.W.findIn K (.type "tuple") "__radd__") (some none) &&
  (decide (PySem.W.subIn K (.type "tuple") (.ref (t.aA K)) = some false) && (match PySem.W.findIn K (.ref (t.aA K)) "__radd__" with
    | some none => true
    | some (some (.ref _)) => true
    | _ => false))))))))
def chSlot : Bool := match PySem.W.findIn K (.ref (t.aA K)) "steps" with
  | some (some (.ref p)) => He.eqO (PySem.W.specialIn K (.ref p) "__get__") (some (some (.builtin "member_descriptor.__get__"))) && (decide (PySem.W.takesIn K (.ref p) = some true) && (decide (PySem.W.typeIn K (.ref p) = some (.type "member_descriptor")) && decide (PySem.W.slotIn K p (t.aA K) = some 0)))
  | _ => false
def chBlt : Bool := t.blts.all fun x => He.eqO (PySem.W.nsIn K mainGlobals x) (some none)
def chFns : Bool := (ixNames t.fns).all fun p => He.eqO (PySem.W.nsIn K mainGlobals p.1) (some (some (.ref (He.ga K p.1))))
def chClss : Bool := t.cls.all fun x => He.eqO (PySem.W.nsIn K mainGlobals x.2) (some (some (.ref (He.ga K x.2)))) && decide (t.cn x.1 = x.2)
def chKit : Bool := (t.cls.map (·.1)).all fun c => kitTs.all (fun ty => decide (PySem.W.kitOne K (.type ty) (.ref ((t.G K).cA c)) = some false)) && decide (PySem.W.kitOne K (.ref (t.aA K)) (.ref ((t.G K).cA c)) = some (t.C.isA t.adr c))
def chKit2 : Bool := kitT6.all fun ty => decide (PySem.W.kitOne K (.ref (t.aA K)) (.type ty) = some false)
def chAtt : Bool := t.atts.all fun p => chCls t K p.1 && He.eqO (PySem.W.findIn K (.ref ((t.G K).cA p.1)) ((t.G K).nm p.2)) (some none)
def chSisi : Bool := He.eqO (PySem.W.findIn K (.ref (t.aA K)) "__class__") (some (some (.builtin "object.__class__"))) && (He.eqO (PySem.W.specialIn K (.builtin "object.__class__") "__get__") (some (some (.builtin "getset_descriptor.__get__"))) &&
  (decide (PySem.W.takesIn K (.builtin "object.__class__") = some true) && decide (PySem.W.mroIn K (t.aA K) (.type "object") = some true)))
def chXis : Bool := t.xcs.all fun k => t.xcs.all fun c => decide (PySem.W.exmOne K (.ref ((t.G K).cA k)) (.ref ((t.G K).cA c)) = some (t.C.isA k c)) && decide (PySem.W.kitOne K (.ref ((t.G K).cA k)) (.ref ((t.G K).cA c)) = some (t.C.isA k c))
def chXfc : Bool := t.xcs.all fun k => xfB K ((t.G K).cA k) && (He.eqO (PySem.W.findIn K (.ref ((t.G K).cA k)) "__class__") (some (some (.builtin "object.__class__"))) && (decide (PySem.W.mroIn K ((t.G K).cA k) (.type "object") = some true) &&
  ((t.xfs.lookup k).getD []).all fun f => He.eqO (PySem.W.findIn K (.ref ((t.G K).cA k)) ((t.G K).nm f)) (some none)))
def chXin : Bool := t.xfs.all fun l => l.2.all fun a => l.2.all fun b => !eqS (t.nm.getD a "") (t.nm.getD b "") || decide (a = b)
def chAdd : Bool := (t.C.mth t.adr Pw.nAdd).isSome && PySem.W.keepIn K (.ref (t.aA K))
def chK : List Bool := [chAdr t K, chMth t K, chNm t, chOps t K, chSlot t K, chBlt t K, chFns t K, chClss t K, chKit t K, chKit2 t K, chAtt t K, chSisi t K, chXis t K, chXfc t K, chXin t, chAdd t K]
end
theorem all_nth {l : List Bool} (h : l.all id = true) (i : Nat) {b : Bool} (e : l[i]? = some b) : b = true := by
  have := List.all_eq_true.mp h b (List.mem_of_getElem? e)
  exact this
theorem clsB_ok {t : Tx} {K : PySem.W.Frag} {c : Nat} (h : chCls t K c = true) : Cls K ((t.G K).cA c) := by
  obtain ⟨c1, c⟩ := He.ba h
  obtain ⟨c2, c⟩ := He.ba c
  obtain ⟨c3, c4⟩ := He.ba c
  exact ⟨c1, c2, c3, He.eqO_ok c4⟩
theorem nm_at {t : Tx} (h : chNm t = true) : ∀ (i : Nat) (x : Str), nmHead[i]? = some x → t.nm.getD i "" = x := by
  intro i x hx
  have e1 := of_decide_eq_true h
  have hi : i < 21 := by
    have := (List.getElem?_eq_some_iff.mp hx).1
    simpa [nmHead] using this
  have e4 : t.nm[i]? = some x := by
    have q : (t.nm.take 21)[i]? = some x := by
      rw [e1]
      exact hx
    rw [List.getElem?_take] at q
    rw [if_pos hi] at q
    exact q
  rw [List.getD_eq_getElem?_getD, e4]
  rfl
theorem glob_of {t : Tx} {K : PySem.W.Frag} {h : Heap} {mg : Str → Option Value} (hnd : (t.fns.map (·.ix)).Nodup) (X : K.In h) (G : h.Ns mainGlobals mg) (c : (chK t K).all id = true) : Glob t.T (t.G K) t.C K mg := by
  have b0 : chAdr t K = true := all_nth c 0 rfl
  have b1 : chMth t K = true := all_nth c 1 rfl
  have b2 : chNm t = true := all_nth c 2 rfl
  have b3 : chOps t K = true := all_nth c 3 rfl
  have b4 : chSlot t K = true := all_nth c 4 rfl
  have b5 : chBlt t K = true := all_nth c 5 rfl
  have b6 : chFns t K = true := all_nth c 6 rfl
  have b7 : chClss t K = true := all_nth c 7 rfl
  have b8 : chKit t K = true := all_nth c 8 rfl
  have b9 : chKit2 t K = true := all_nth c 9 rfl
  have b10 : chAtt t K = true := all_nth c 10 rfl
  have b11 : chSisi t K = true := all_nth c 11 rfl
  have b12 : chXis t K = true := all_nth c 12 rfl
  have b13 : chXfc t K = true := all_nth c 13 rfl
  have b14 : chXin t = true := all_nth c 14 rfl
  have b15 : chAdd t K = true := all_nth c 15 rfl
  have nm := nm_at b2
  obtain ⟨o1, o⟩ := He.ba b3
  obtain ⟨o2, o⟩ := He.ba o
  obtain ⟨o3, o⟩ := He.ba o
  obtain ⟨o4, o⟩ := He.ba o
  obtain ⟨o5, o⟩ := He.ba o
  obtain ⟨o6, o⟩ := He.ba o
  obtain ⟨o7, o⟩ := He.ba o
  obtain ⟨o8, o9⟩ := He.ba o
  obtain ⟨a1, a⟩ := He.ba b0
  obtain ⟨a2, a⟩ := He.ba a
  obtain ⟨a3, a4⟩ := He.ba a
  obtain ⟨s1, s⟩ := He.ba b11
  obtain ⟨s2, s⟩ := He.ba s
  obtain ⟨s3, s4⟩ := He.ba s
  have mth : ∀ cc k f, t.C.mth cc k = some f → (cc, k, f) ∈ t.mths := fun cc k f hh => by
    simp only [Tx.C, Option.map_eq_some_iff] at hh
    obtain ⟨p, h1, h2⟩ := hh
    have h3 := List.find?_some h1
    have h4 := List.mem_of_find?_eq_some h1
    simp only [Bool.and_eq_true, beq_iff_eq] at h3
    obtain ⟨p1, p2, p3⟩ := p
    simp only at h2 h3
    rw [← h3.1, ← h3.2, ← h2]
    exact h4
  have mthB := fun cc k f hh => List.all_eq_true.mp b1 _ (mth cc k f hh)
  have clsM : ∀ cc x, (cc, x) ∈ t.cls → mg x = some (.ref (He.ga K x)) ∧ t.cn cc = x := fun cc x hx => by
    obtain ⟨h1, h2⟩ := He.ba (List.all_eq_true.mp b7 (cc, x) hx)
    exact ⟨PySem.W.mg_of X G (He.eqO_ok h1), of_decide_eq_true h2⟩
  have clsAt : ∀ x cc, t.T.clss.lookup x = some cc → (cc, x) ∈ t.cls := fun x cc hh => by
    have := look_mem hh
    simp only [Tx.T, List.mem_map, Prod.mk.injEq] at this
    obtain ⟨⟨p1, p2⟩, h1, h2, h3⟩ := this
    simp only at h2 h3
    rw [← h2, ← h3]
    exact h1
  have xcAt : ∀ x cc, t.T.xcs.lookup x = some cc → (cc, x) ∈ t.cls ∧ cc ∈ t.xcs := fun x cc hh => by
    obtain ⟨h1, h2⟩ := filter_lookup hh
    simp only [List.mem_map, Prod.mk.injEq] at h1
    obtain ⟨⟨p1, p2⟩, h1, h3, h4⟩ := h1
    simp only at h3 h4
    rw [← h3, ← h4]
    refine ⟨h1, ?_⟩
    rw [h4]
    simpa using h2
  have cgl : ∀ x cc, (cc, x) ∈ t.cls → mg x = some (.ref ((t.G K).cA cc)) := fun x cc hx => by
    obtain ⟨h1, h2⟩ := clsM cc x hx
    have e : (t.G K).cA cc = He.ga K x := by show He.ga K (t.cn cc) = _; rw [h2]
    rw [e]
    exact h1
  have kit := fun cc x (hc : (cc, x) ∈ t.cls) => He.ba (List.all_eq_true.mp b8 cc (List.mem_map_of_mem (f := (·.1)) hc))
  have xfc := fun k (hk : k ∈ t.xcs) => List.all_eq_true.mp b13 k hk
  have isX : ∀ k, t.C.isX k = true → k ∈ t.xcs := fun k hk => by simpa [Tx.C] using hk
  exact {
    aC := rfl, adrT := rfl, cls := ⟨a1, a2, a3, He.eqO_ok a4⟩
    mth := fun cc k f hh => by
      obtain ⟨h1, h2⟩ := He.ba (mthB cc k f hh)
      obtain ⟨h3, h4⟩ := He.ba h2
      obtain ⟨h5, _⟩ := He.ba h4
      exact ⟨He.eqO_ok h1, h3, h5⟩
    mthC := fun cc k f hh hne => by
      obtain ⟨h1, h2⟩ := He.ba (mthB cc k f hh)
      obtain ⟨h3, h4⟩ := He.ba h2
      obtain ⟨h5, h6⟩ := He.ba h4
      rcases Bool.or_eq_true_iff.mp h6 with h7 | h7
      · exact absurd (of_decide_eq_true h7) hne
      · exact clsB_ok h7
    nEq := nm 1 _ rfl, nLt := nm 2 _ rfl, nLe := nm 3 _ rfl, nGt := nm 4 _ rfl, nGe := nm 5 _ rfl, nAdd := nm 6 _ rfl, nRadd := nm 7 _ rfl, nLen := nm 8 _ rfl, nSteps := nm 16 _ rfl
    nAppend := nm 17 _ rfl, nExtend := nm 18 _ rfl, nPop := nm 19 _ rfl, nReverse := nm 20 _ rfl
    first := o1, firstT := o2, sf := o3, hne := He.eqO_ok o4, hob := of_decide_eq_true o5, t1 := He.eqO_ok o6, t2 := He.eqO_ok o7, t3 := of_decide_eq_true o8
    radd := by
      cases e : PySem.W.findIn K (.ref (t.aA K)) "__radd__" with
      | none => rw [e] at o9; cases o9
      | some rc =>
        refine ⟨rc, e, ?_⟩
        rw [e] at o9
        cases rc with
        | none => exact .inl rfl
        | some v =>
          cases v with
          | ref g => exact .inr ⟨g, rfl⟩
          | _ => cases o9
    slot := by
      have q := b4
      unfold chSlot at q
      split at q
      · rename_i p e
        obtain ⟨q1, q⟩ := He.ba q
        obtain ⟨q2, q⟩ := He.ba q
        obtain ⟨q3, q4⟩ := He.ba q
        exact ⟨p, e, He.eqO_ok q1, of_decide_eq_true q2, of_decide_eq_true q3, of_decide_eq_true q4, by omega⟩
      · cases q
    add0 := Option.isSome_iff_exists.mp (He.ba b15).1
    nms := fun x k hk => by
      have := (ixS_all t.nm 0 k x hk).2
      rw [Nat.sub_zero] at this
      exact this
    cons := fun x g hg => by simp [Tx.T] at hg
    blts := fun x hx => PySem.W.mg_none_of X G (He.eqO_ok (List.all_eq_true.mp b5 x (by simpa [Tx.T] using hx)))
    fns := fun x f hf => by
      have hm : (x, f) ∈ ixNames t.fns := look_mem hf
      obtain ⟨p, h1, h2, h3⟩ := ixNames_mem hm
      have e := PySem.W.mg_of X G (He.eqO_ok (List.all_eq_true.mp b6 (x, f) hm))
      have e2 : (t.G K).fA f = He.ga K x := by
        show (match t.find f with | some p => He.fAd K p.d.at_ | none => 0) = _
        rw [← h2, find_of hnd h1]
        show He.fAd K p.d.at_ = _
        rw [h3]
        rfl
      rw [e2]
      exact e
    clss := fun x cc hc => cgl x cc (clsAt x cc hc)
    kitB := fun ty x cc hty hc => of_decide_eq_true (List.all_eq_true.mp (kit cc x (clsAt x cc hc)).1 ty hty)
    kitA := fun ty hty => of_decide_eq_true (List.all_eq_true.mp b9 ty hty)
    kitC := fun x cc hc => of_decide_eq_true (kit cc x (clsAt x cc hc)).2
    attI := fun cc f hh => by
      have hm : (cc, f) ∈ t.atts := by simpa [Tx.C] using hh
      obtain ⟨h1, h2⟩ := He.ba (List.all_eq_true.mp b10 _ hm)
      exact ⟨clsB_ok h1, He.eqO_ok h2⟩
    sisi := ⟨He.eqO_ok s1, He.eqO_ok s2, of_decide_eq_true s3, of_decide_eq_true s4⟩
    kpA := (He.ba b15).2
    xg := fun x cc hc => cgl x cc (xcAt x cc hc).1
    xf := fun cc l hl => by
      show (t.xfs.lookup cc).getD [] = l
      have hl' : t.xfs.lookup cc = some l := hl
      rw [hl']
      rfl
    xin := fun cc a ha b hb e => by
      have ha' : a ∈ (t.xfs.lookup cc).getD [] := ha
      have hb' : b ∈ (t.xfs.lookup cc).getD [] := hb
      cases hq : t.xfs.lookup cc with
      | none => rw [hq] at ha'; simp at ha'
      | some l =>
        rw [hq] at ha' hb'
        have q := List.all_eq_true.mp (List.all_eq_true.mp (List.all_eq_true.mp b14 _ (look_mem hq)) a ha') b hb'
        rcases Bool.or_eq_true_iff.mp q with q | q
        · have e' : t.nm.getD a "" = t.nm.getD b "" := e
          have q' : eqS (t.nm.getD a "") (t.nm.getD b "") = true := decide_eq_true e'
          rw [q'] at q
          cases q
        · exact of_decide_eq_true q
    xis := fun x cc k hc hk => by
      have q := He.ba (List.all_eq_true.mp (List.all_eq_true.mp b12 k (isX k hk)) cc (xcAt x cc hc).2)
      exact ⟨of_decide_eq_true q.1, of_decide_eq_true q.2⟩
    xfc := fun k hk => by
      obtain ⟨q1, q⟩ := He.ba (xfc k (isX k hk))
      obtain ⟨q2, q⟩ := He.ba q
      obtain ⟨q3, q4⟩ := He.ba q
      have xo := xfB_ok q1
      exact ⟨xo, ⟨xo.ga, xo.gg, xo.exC, xo.hdC, He.eqO_ok q2, He.eqO_ok s2, of_decide_eq_true s3, of_decide_eq_true q3⟩⟩
    xno := fun k f hk hf => by
      obtain ⟨q1, q⟩ := He.ba (xfc k (isX k hk))
      obtain ⟨q2, q⟩ := He.ba q
      obtain ⟨q3, q4⟩ := He.ba q
      exact He.eqO_ok (List.all_eq_true.mp q4 f hf) }
end Pw
set_option Elab.async false
set_option linter.all false
set_option maxRecDepth 100000
set_option autoImplicit false
set_option maxHeartbeats 4000000
/-! An own error's __init__: super().__init__(a text), then a field. -/
namespace PySem.Pwx
open PySem.W PySem.Calls PyProof.Rows PySem.HandSPX
abbrev xPar (ar : Arg) (brs : List Arg) : Arguments := { posonlyargs := [], args := ar :: brs, vararg := none, kwonlyargs := [], kw_defaults := [], kwarg := none, defaults := [] }
abbrev xNames (sf : Str) (pns : List Str) : List (Str × NameKind) := (sf, .local) :: ((pns.map fun p => (p, NameKind.local)) ++ [(("__class__" : Str), NameKind.free), (("super" : Str), NameKind.globalImplicit)])
abbrev xSc (sf : Str) (pns : List Str) : Scope := { kind := .function, names := xNames sf pns, isGenerator := false, isCoroutine := false, more := [] }
/-- self.f = p, one behind another -/
inductive Asgs (sf : Str) : List Stmt → List (Str × Str) → Prop
  | nil : Asgs sf [] []
  | cons (fn pn : Str) (p7 p8 p9 p10 : Pos) {r : List Stmt} {fs : List (Str × Str)} : Asgs sf r fs → Asgs sf (.Assign [.Attribute (.Name sf p7) fn p8] (.Name pn p9) p10 :: r) ((fn, pn) :: fs)
/-- what the written part says of such a class at C, its __init__ at fI -/
structure XTxt (P : Program) (K : Frag) (C fI : Addr) (sf : Str) (flds : List (Str × Str)) : Prop where
  cls : ∃ nm q N bs bm sn sub ab col dd k0 k1 k2 k3 k5, K.lookup C = some (excClassObj nm q C N bs bm true sn sub ab col dd k0 k1 k2 k3 k5 "ValueError.__new__") ∧ refsVE bm = true
  sa : findIn K (.ref C) "__setattr__" = some (some (.builtin "object.__setattr__"))
  noN : ∀ f ∈ flds, findIn K (.ref C) f.1 = some none
  iC : findIn K (.ref C) "__init__" = some (some (.ref fI))
  tC : typeIn K (.ref fI) = some (.type "function")
  kC : keepIn K (.ref C) = true
  sup : ks_superIn K C C "__init__" = some (some (.builtin "ValueError.__init__"))
  isV : subIn K (.ref C) (.type "ValueError") = some true
  self : mroIn K C (.ref C) = some true
  sst : nsIn K cStatics "thirdparty.any" = some none
  top : (P.main.scope.names.lookup ("super" : Str)).isSome = false
  fnO : ∃ (oc : Value) (od : Option Addr) (doc pm : Value) (an : Option Addr) (cda : Addr) (ct : Value) (osl : Array (Option Value)) (cc : Addr) (q : Str) (p1 p2 p3 p4 p5 p6 : Pos) (txt : Str) (kk : Nat) (ar : Arg) (brs : List Arg) (asg : List Stmt) (body : List Stmt),
    K.lookup fI = some ⟨oc, od, .func (fnX "__init__" q (xPar ar brs) body (xSc sf (flds.map (·.2))) [("__class__", cc)] .none .none doc pm an (.ref cda) ct), osl⟩ ∧ codeIn K (.ref cda) q = true ∧ (p3.endLine == p5.line) = true ∧
    body = .Expr (.Call (.Attribute (.Call (.Name "super" p1) [] [] p2) "__init__" p3) [.Constant (.str txt) kk p4] [] p5) p6 :: asg ∧ Asgs sf asg flds ∧
    (∃ (ccl : Value) (cdd : Option Addr) (vs : Array Value) (ccs : Array (Option Value)) (tf : Tok), K.lookup cda = some ⟨ccl, cdd, .fields vs, ccs⟩ ∧ vs[2]? = some (.str P.main.file tf)) ∧
    (∃ (cl : Value) (cld : Option Addr) (csl : Array (Option Value)), K.lookup cc = some ⟨cl, cld, .cell (some (.ref C)), csl⟩) ∧
    ar.arg = sf ∧ ∀ (a : Value) (us : List Value), us.length = flds.length → bindArgs (fnX "__init__" q (xPar ar brs) body (xSc sf (flds.map (·.2))) [("__class__", cc)] .none .none doc pm an (.ref cda) ct) ⟨a :: us, []⟩ = pure ((sf, a) :: (flds.map (·.2)).zip us)
  ps : (sf :: (flds.map (·.2) ++ [("super" : Str), "__class__"])).Nodup
  fns : (flds.map (·.1)).Nodup
  d1 : ∀ x ∈ sf :: flds.map (·.2), (x == ("__debug__" : Str)) = false
  lim : flds.length ≤ 900
  some : flds ≠ []
/-! ### lookups -/
theorem look_append {α : Type} {x : Str} : ∀ {l r : List (Str × α)}, (l ++ r).lookup x = match l.lookup x with | some v => some v | none => r.lookup x
  | [], r => rfl
  | (y, v) :: l, r => by
    rw [List.cons_append, List.lookup_cons, List.lookup_cons]
    split
    · rfl
    · exact look_append
theorem look_none {α : Type} {x : Str} : ∀ {l : List (Str × α)}, x ∉ l.map (·.1) → l.lookup x = none
  | [], _ => rfl
  | (y, v) :: l, h => by
    simp only [List.map_cons, List.mem_cons, not_or] at h
    rw [List.lookup_cons]
    have e : (x == y) = false := by simpa using h.1
    rw [e]
    exact look_none h.2
theorem look_rev {α : Type} {x : Str} : ∀ {l : List (Str × α)}, (l.map (·.1)).Nodup → l.reverse.lookup x = l.lookup x
  | [], _ => rfl
  | (y, v) :: l, h => by
    simp only [List.map_cons, List.nodup_cons] at h
    rw [List.reverse_cons, look_append, look_rev h.2]
    by_cases e : x = y
    · subst e
      rw [look_none h.1]
      simp [List.lookup]
    · have e2 : (x == y) = false := by simpa using e
      rw [List.lookup_cons (a := x), e2]
      cases hl : l.lookup x with
      | none => simp [List.lookup, e2, hl]
      | some w => simp [List.lookup, e2, hl]
theorem zip_keys {α : Type} : ∀ {ks : List Str} {vs : List α}, vs.length = ks.length → (ks.zip vs).map (·.1) = ks
  | [], _, _ => rfl
  | k :: ks, [], h => by cases h
  | k :: ks, v :: vs, h => by
    simp only [List.zip_cons_cons, List.map_cons]
    rw [zip_keys (by simpa using h)]
theorem zip_look {α : Type} {x : Str} {v : α} : ∀ {ks : List Str} {vs : List α} {i : Nat}, ks.Nodup → ks[i]? = some x → vs[i]? = some v → (ks.zip vs).lookup x = some v
  | [], _, _, _, h, _ => by simp at h
  | k :: ks, [], _, _, _, h => by simp at h
  | k :: ks, w :: vs, 0, _, h, g => by
    simp at h g
    subst h g
    simp [List.lookup]
  | k :: ks, w :: vs, i + 1, n, h, g => by
    simp only [List.nodup_cons] at n
    simp only [List.getElem?_cons_succ] at h g
    have e : (x == k) = false := by
      refine Bool.eq_false_iff.mpr fun q => n.1 ?_
      have : x = k := by simpa using q
      rw [← this]
      exact List.mem_of_getElem? h
    rw [List.zip_cons_cons, List.lookup_cons, e]
    exact zip_look n.2 h g
theorem within_look {acc : List (Str × Value)} : Within (fun y => acc.lookup y) (acc.map (·.1)) := fun y hy => by
  refine Classical.byContradiction fun h => hy ?_
  exact look_none h
theorem xkind {sf : Str} {pns : List Str} (h : (sf :: (pns ++ [("super" : Str), "__class__"])).Nodup) : (∀ x ∈ sf :: pns, (xNames sf pns).lookup x = some .local) ∧ (xNames sf pns).lookup ("super" : Str) = some .globalImplicit ∧ (xNames sf pns).lookup ("__class__" : Str) = some .free := by
  have key : ∀ (l : List Str) (x : Str), x ∈ l → ((l.map fun p => (p, NameKind.local)) ++ [(("__class__" : Str), NameKind.free), (("super" : Str), NameKind.globalImplicit)]).lookup x = some .local := by
    intro l x hx
    induction l with
    | nil => simp at hx
    | cons y r ih =>
      rw [List.map_cons, List.cons_append, List.lookup_cons]
      by_cases e : x = y
      · subst e; simp
      · have e2 : (x == y) = false := by simpa using e
        rw [e2]
        exact ih (by simpa [e] using hx)
  have off : ∀ (l : List Str) (x : Str), x ∉ l → ((l.map fun p => (p, NameKind.local)) ++ [(("__class__" : Str), NameKind.free), (("super" : Str), NameKind.globalImplicit)]).lookup x = [(("__class__" : Str), NameKind.free), ("super", .globalImplicit)].lookup x := by
    intro l x hx
    rw [look_append, look_none (by simpa using hx)]
  have e : xNames sf pns = ((sf :: pns).map fun p => (p, NameKind.local)) ++ [(("__class__" : Str), NameKind.free), (("super" : Str), NameKind.globalImplicit)] := rfl
  have h' : ("super" : Str) ∉ sf :: pns ∧ ("__class__" : Str) ∉ sf :: pns := by
    have h2 : (sf :: pns ++ [("super" : Str), "__class__"]).Nodup := h
    rw [List.nodup_append] at h2
    exact ⟨fun z => h2.2.2 _ z "super" (by simp) rfl, fun z => h2.2.2 _ z "__class__" (by simp) rfl⟩
  rw [e]
  refine ⟨fun x hx => key _ x hx, ?_, ?_⟩
  · rw [off _ _ h'.1]
    decide
  · rw [off _ _ h'.2]
    decide
section
variable {P : Program} {w : World} {A : Around} {R : Result → Shared → Prop} {s : Shared} {K : Frag} {C fI : Addr} {sf : Str} {flds : List (Str × Str)}
abbrev exD (C dx t1 : Addr) : Obj := { cls := .ref C, dict := some dx, data := .fields #[.ref t1, .none, .none, .none, .bool false, .none] }
/-- the further fields -/
theorem more_fields {env : Env} {Q : Flow → Shared → Prop} {E : Value → Shared → Prop} {L x dx t1 : Addr} {m : Str → Option Value} {cd : ClassData} (hcd : clsIn K C = some cd) (hm : refsVE cd.mro = true) (hh : cd.hasDict = true) (sa : findIn K (.ref C) "__setattr__" = some (some (.builtin "object.__setattr__")))
    (hki : env.scope.kind = .function) (hL : env.locals = L) (ks : env.kindOf sf = some .local) (ms : m sf = some (.ref x)) (ds : (sf == ("__debug__" : Str)) = false) (Lx : L ≠ x) (Ld : L ≠ dx) (xd : x ≠ dx) :
    ∀ {body : List Stmt} {fs : List (Str × Str)} (us : List Value) (acc : List (Str × Value)) (s : Shared), Asgs sf body fs → us.length = fs.length → acc.length + fs.length ≤ 900 → (∀ f ∈ fs, findIn K (.ref C) f.1 = some none ∧ env.kindOf f.2 = some .local ∧ (f.2 == ("__debug__" : Str)) = false) →
      (∀ (i : Nat) f u, fs[i]? = some f → us[i]? = some u → m f.2 = some u) → K.In s.heap → (∀ a o, K.lookup a = some o → a ≠ dx) → s.heap.get? x = some (exD C dx t1) → s.heap.Ns L m → s.heap.Ns1 dx (fun y => acc.lookup y) →
      (∀ h' tk, (∀ b o, b ≠ dx → s.heap.get? b = some o → h'.get? b = some o) → h'.Ns1 dx (fun y => (((fs.map (·.1)).zip us).reverse ++ acc).lookup y) → Q .next { s with heap := h', toks := tk }) → wpAny (model P w) A (execs body env) Q E s
  | _, _, us, acc, s, .nil, hl, _, _, _, _, _, _, _, n, hq => by
    refine wpAny_execs_nil ?_
    have := hq s.heap s.toks (fun _ _ _ e => e) (by simpa using n)
    exact this
  | _, _, [], acc, s, .cons _ _ _ _ _ _ _, hl, _, _, _, _, _, _, _, _, _ => by cases hl
  | _, (_ :: fs), u :: us, acc, s, .cons fn pn p7 p8 p9 p10 r, hl, hlim, hf, hv, X, hK, hx, hn, n, hq => by
    obtain ⟨f1, f2, f3⟩ := hf _ List.mem_cons_self
    have mv := hv 0 _ _ rfl rfl
    refine wpAny_execs_cons (plainObj_wpAny_Assign_Attribute ?_ rfl)
    refine wpAny_Name (wpAny_loadName_local hki f2 (hL ▸ hn) mv ?_) f3
    refine wpAny_Name (wpAny_loadName_local hki ks (hL ▸ hn) ms ?_) ds
    obtain ⟨oD, hD, hlD⟩ : ∃ oD, s.heap.get? dx = some oD ∧ True := by
      obtain ⟨o, ho, _⟩ := L2.lookIn_ns n
      exact ⟨o, ho, trivial⟩
    refine set_plain X (ox := exD C dx t1) (od := some oD) ⟨hx, rfl, rfl, hD⟩ sa ?_
    obtain ⟨hp, g, dr, tk, os⟩ := s
    refine OEX.osa_old X hx n within_look (by simp only [List.length_map, List.length_cons] at hlim ⊢; omega) hcd hm hh f1 fun h5 tk5 k5 n5 => ?_
    have e5 : (fun y => if y = fn then some u else acc.lookup y) = fun y => (((fn, u) :: acc).lookup y) := by
      funext y
      rw [List.lookup_cons]
      by_cases e : y = fn
      · subst e; simp
      · have e2 : (y == fn) = false := by simpa using e
        rw [if_neg e, e2]
    rw [e5] at n5
    refine more_fields hcd hm hh sa hki hL ks ms ds Lx Ld xd us ((fn, u) :: acc) ⟨h5, g, dr, tk5, os⟩ r (by simpa using hl) (by simp only [List.length_cons] at hlim ⊢; omega) (fun f h => hf f (List.mem_cons_of_mem _ h)) (fun i f v h1 h2 => hv (i + 1) f v h1 h2) (fun a o e => k5 a o (hK a o e) (X a o e)) hK (k5 _ _ xd hx) (hn.at fun o e => k5 _ o Ld e) n5 fun h6 tk6 k6 n6 => ?_
    refine hq h6 tk6 (fun b o hb e => k6 b o hb (k5 b o hb e)) ?_
    have e6 : ((((fn, pn) :: fs).map (·.1)).zip (u :: us)).reverse ++ acc = ((fs.map (·.1)).zip us).reverse ++ (fn, u) :: acc := by
      rw [List.map_cons, List.zip_cons_cons, List.reverse_cons, List.append_assoc]
      rfl
    rw [e6]
    exact n6
theorem init1 (T : XTxt P K C fI sf flds) {x t0 : Addr} {us : List Value} (hus : us.length = flds.length) (X : K.In s.heap) (hlim : s.heap.NoLimit) (hx : s.heap.get? x = some (excO C t0)) (hnx : K.lookup x = none) (hroom : A.depth < recursionLimit) {mg mb : Str → Option Value} (hG : s.heap.Ns mainGlobals mg) (hmg : mg "super" = none) (hB : s.heap.Ns builtinsNs mb) (hmb : mb "super" = some (.type "super"))
    (hq : ∀ h' tk dx t1, (∀ b o, b ≠ x → s.heap.get? b = some o → h'.get? b = some o) → h'.get? x = some (exD C dx t1) → s.heap.objs.size ≤ dx → dx ≠ x →
      h'.Ns1 dx (fun y => ((flds.map (·.1)).zip us).reverse.lookup y) → R (.ok (.ret .none)) { s with heap := h', toks := tk }) :
    codeAny (model P w) A (.call (.ref fI) ⟨.ref x :: us, []⟩) R s := by
  obtain ⟨oc, od, doc, pm, an, cda, ct, osl, cc, q, p1, p2, p3, p4, p5, p6, txt, kk, ar, brs, asg, body, ho, hcd, hline, hbody, hasg, ⟨ccl, cdd, vs, ccs, tf, hcda, hvs⟩, ⟨cl, cld, csl, hcc⟩, hsf, hbnd⟩ := T.fnO
  obtain ⟨kl, ksu, kcl⟩ := xkind T.ps
  have eE : ∀ L : Addr, callEnv (fnX "__init__" q (xPar ar brs) body (xSc sf (flds.map (·.2))) [("__class__", cc)] .none .none doc pm an (.ref cda) ct) L fI = envX q (xSc sf (flds.map (·.2))) L fI (.ref cda) [("__class__", cc)] := fun L => by rfl
  have nps : (sf :: flds.map (·.2)).Nodup := by
    have := T.ps
    rw [← List.cons_append, List.nodup_append] at this
    exact this.1
  have hzk : ((flds.map (·.2)).zip us).map (·.1) = flds.map (·.2) := zip_keys (by rw [List.length_map]; exact hus)
  have hkeys : (((sf, (.ref x : Value)) :: (flds.map (·.2)).zip us).map (·.1)) = sf :: flds.map (·.2) := by
    rw [List.map_cons, hzk]
  have hmap : ∀ y, (((sf, (.ref x : Value)) :: (flds.map (·.2)).zip us)).reverse.lookup y = ((sf, (.ref x : Value)) :: (flds.map (·.2)).zip us).lookup y := fun y => look_rev (by rw [hkeys]; exact nps)
  refine ks_codeAny_call_defAt (binds := (sf, .ref x) :: (flds.map (·.2)).zip us) hroom (X _ _ ho) rfl hlim (codeRec_of X hcd) rfl (BindsTo.of_eq (hbnd _ _ hus)) ?_ ?_ fun h₀ hn k => ?_
  · intro y hy
    have hy' : y ∈ xNames sf (flds.map (·.2)) := hy
    simp only [xNames, List.mem_cons, List.mem_append, List.mem_map, List.not_mem_nil, or_false] at hy'
    rcases hy' with rfl | (⟨_, _, rfl⟩ | (rfl | rfl)) <;> simp
  · intro y hy
    refine kl y.1 ?_
    rw [← hkeys]
    exact List.mem_map_of_mem (f := (·.1)) hy
  · have Xk : K.In h₀ := X.keeps k
    have hxk := k _ _ hx
    rw [eE]
    have kself : (envX q (xSc sf (flds.map (·.2))) s.heap.objs.size fI (.ref cda) [("__class__", cc)]).kindOf sf = some .local := kl sf List.mem_cons_self
    have ksup : (envX q (xSc sf (flds.map (·.2))) s.heap.objs.size fI (.ref cda) [("__class__", cc)]).kindOf "super" = some .globalImplicit := ksu
    have kcls : (envX q (xSc sf (flds.map (·.2))) s.heap.objs.size fI (.ref cda) [("__class__", cc)]).kindOf "__class__" = some .free := kcl
    have mself : ((sf, (.ref x : Value)) :: (flds.map (·.2)).zip us).reverse.lookup sf = some (.ref x) := by rw [hmap]; simp [List.lookup]
    have eb : execs body (envX q (xSc sf (flds.map (·.2))) s.heap.objs.size fI (.ref cda) [("__class__", cc)]) = execs (.Expr (.Call (.Attribute (.Call (.Name "super" p1) [] [] p2) "__init__" p3) [.Constant (.str txt) kk p4] [] p5) p6 :: asg) (envX q (xSc sf (flds.map (·.2))) s.heap.objs.size fI (.ref cda) [("__class__", cc)]) := by rw [hbody]
    rw [eb]
    refine ks_wpAt_execs_cons (ks_wpAt_Expr_any (ks_wpAt_MethodCall (pl := L2.plainOf (.Call (.Name "super" p1) [] [] p2) (envX q (xSc sf (flds.map (·.2))) s.heap.objs.size fI (.ref cda) [("__class__", cc)])) ?_ ?_) rfl rfl)
    · refine ks_wpAt_super_base (f := fI) (cc := cda) (file := P.main.file) (tf := tf) (vs := vs) (ar := ar) ksup kcls rfl rfl (Xk _ _ ho) rfl rfl rfl (Xk _ _ hcda) rfl hvs (by simp) T.top ?_
      refine ks_loadName_global rfl ksup (loadGlobal_builtin (hG.keeps k) hmg (hB.keeps k) hmb ⟨rfl, ?_⟩)
      refine wpAny_loadName_free rfl kcls rfl ⟨_, Xk _ _ hcc, rfl⟩ ?_
      rw [hsf]
      refine wpAny_loadName_local rfl kself hn (v := .ref x) mself ?_
      obtain ⟨nm, qn, N, bs, bm, sn, sub, ab, col, dd, k0, k1, k2, k3, k5, hC, hbm⟩ := T.cls
      refine ks_wpAny_isType_cls (Xk _ _ hC) rfl ⟨rfl, ?_⟩
      refine ks_wpAny_call_super (Xk _ _ hC) rfl hxk rfl (fun c e => by cases e) (looks_mroIn Xk T.self) (fun h2 e2 k2' => ?_)
      have X2 : K.In h2 := Xk.keeps k2'
      have hx2 := k2' _ _ hxk
      have hcl : ∃ cd, clsIn K C = some cd ∧ alongIn K "__init__" ((cd.mro.dropWhile (· != .ref C)).drop 1) = some (some (.builtin "ValueError.__init__")) := by
        have q := T.sup
        unfold ks_superIn at q
        cases hc : clsIn K C with
        | none => rw [hc] at q; cases q
        | some cd => rw [hc] at q; exact ⟨cd, rfl, q⟩
      obtain ⟨cd, hcd1, hal⟩ := hcl
      have I2 : InstAt h2 x (excO C t0) C none := ⟨hx2, rfl, rfl, trivial⟩
      have hxC : x ≠ C := fun z => by rw [z, hC] at hnx; cases hnx
      refine kxs_getMethod kxs_ValueError e2 (looks_opaque X2 T.sst) (l₀ := cd.mro) (fun A Q E s k q => wpAny_bind ((looks_clsIn X2 hcd1) A _ E s k (wpAny_pure q))) rfl X2 hal (I2.type.andThen (looks_subIn X2 T.isV)) hxC rfl ?_
      have hu : (h2.push (kxs_mw "ValueError.__init__" x)).get? h2.objs.size = some (kxs_mw "ValueError.__init__" x) := Heap.get?_push_size _ rfl
      refine kxs_callWith (i := "ValueError.__init__") (u := h2.objs.size) (x := x) rfl (evalArgs_plain (spliced_cons (Constant_str (k := kk) (pos := p4) (env := envX q (xSc sf (flds.map (·.2))) s.heap.objs.size fI (.ref cda) [("__class__", cc)]) (spliced_nil ⟨hu, ?_⟩))))
      have C3 : (h2.push (kxs_mw "ValueError.__init__" x)).get? C = some (excClassObj nm qn C N bs bm true sn sub ab col dd k0 k1 k2 k3 k5 "ValueError.__new__") := Heap.get?_push_of_some _ (X2 _ _ hC)
      have x3 : (h2.push (kxs_mw "ValueError.__init__" x)).get? x = some (excO C t0) := Heap.get?_push_of_some _ hx2
      refine wpAny_call (codeAny_of_tree ?_)
      show wpAny _ _ (callAny (.ref h2.objs.size) ⟨_, []⟩) _ _ _
      simp only [callAny]
      refine wpAny_bind (wpAny_load hu ?_)
      simp only [kxs_mw]
      refine KFB.if_so (by decide) ?_
      refine wpAny_bind (check_bound_init PySem.F.excBase_ValueError.toExcCallFacts C3 x3 rfl ?_)
      refine wpAny_bind (wpAny_pure (wpAny_pure ?_))
      refine ⟨plainId_quiet PySem.F.excBase_ValueError.init.plain _, codeAny_builtin PySem.F.excBase_ValueError.initEntry ?_⟩
      refine exc_init_tree (cls := .ref C) (t0 := t0) (dv := none) (c2 := .none) (c3 := .none) (b4 := .bool false) x3 (by show 1 ≤ sizeLine; rw [sizeLine_eq]; decide) (fun h4 k4 x4 t4 => ?_)
      have Lx : s.heap.objs.size ≠ x := Nat.ne_of_gt (Heap.lt_size hx)
      have keep4 : ∀ b o, b ≠ x → h₀.get? b = some o → h4.get? b = some o := fun b o hb e => k4 b o hb (Heap.get?_push_of_some _ (k2' b o e))
      have X4 : K.In h4 := fun a o e => keep4 a o (fun z => by rw [z, hnx] at e; cases e) (Xk a o e)
      have hn4 := hn.at fun o q => keep4 _ o Lx q
      have hcl2 : clsIn K C = some { name := nm, bases := bs, mro := .ref C :: bm, ns := N, qualname := qn, hasDict := true, slotNames := sn, subclasses := sub, abstract := ab, collection := col, hasDel := false } := by unfold clsIn; rw [hC] <;> rfl
      -- the first field
      have hflds : ∃ fn pn fs, flds = (fn, pn) :: fs := by
        cases h : flds with
        | nil => exact absurd h T.some
        | cons f fs => exact ⟨f.1, f.2, fs, rfl⟩
      obtain ⟨fn, pn, fs, rfl⟩ := hflds
      cases hasg with
      | cons _ _ p7 p8 p9 p10 hr =>
        cases us with
        | nil => cases hus
        | cons u us =>
          have hml : ∀ (i : Nat) (f : Str × Str) (v : Value), ((fn, pn) :: fs)[i]? = some f → (u :: us)[i]? = some v → ((sf, (.ref x : Value)) :: (((fn, pn) :: fs).map (·.2)).zip (u :: us)).reverse.lookup f.2 = some v := fun i f v h1 h2 => by
            rw [hmap]
            have := zip_look (ks := sf :: ((fn, pn) :: fs).map (·.2)) (vs := .ref x :: u :: us) (i := i + 1) nps (by rw [List.getElem?_cons_succ, List.getElem?_map, h1]; rfl) (by rw [List.getElem?_cons_succ]; exact h2)
            exact this
          refine wpAt_of_wpAny (wpAny_execs_cons (plainObj_wpAny_Assign_Attribute ?_ rfl))
          refine wpAny_Name (wpAny_loadName_local rfl (kl pn (by simp)) hn4 (v := u) (hml 0 (fn, pn) u rfl rfl) ?_) (T.d1 pn (by simp))
          refine wpAny_Name (wpAny_loadName_local rfl kself hn4 (v := .ref x) mself ?_) (T.d1 sf (by simp))
          refine set_plain X4 (ox := excO C _) (od := none) ⟨x4, rfl, rfl, trivial⟩ T.sa ?_
          refine exc_osa X4 x4 hcl2 (show refsVE (.ref C :: bm) = true from hbm) rfl (T.noN _ List.mem_cons_self) (fun h5 tk5 dx k5 dn dne x5 n5 => ?_)
          have ld : s.heap.objs.size < dx := Nat.lt_of_lt_of_le hn4.lt dn
          have hK : ∀ a o, K.lookup a = some o → a ≠ dx := fun a o e z => by
            have h1 : a < h4.objs.size := Heap.lt_size (X4 a o e)
            have h2 : h4.objs.size ≤ dx := dn
            subst z
            exact absurd h1 (Nat.not_lt.mpr h2)
          have e5 : (fun y => if y = fn then some u else none) = fun y => [(fn, u)].lookup y := by
            funext y
            rw [List.lookup_cons]
            by_cases e : y = fn
            · subst e; simp
            · have e2 : (y == fn) = false := by simpa using e
              rw [if_neg e, e2]
              rfl
          rw [e5] at n5
          refine more_fields (L := s.heap.objs.size) (x := x) (dx := dx) hcl2 (show refsVE (.ref C :: bm) = true from hbm) rfl T.sa rfl rfl kself mself (T.d1 sf (by simp)) Lx (Nat.ne_of_lt ld) (Ne.symm dne) us [(fn, u)] _ hr (by simpa using hus) (by have := T.lim; simp only [List.length_cons, List.length_nil] at this ⊢; omega)
            (fun f hf => ⟨T.noN _ (List.mem_cons_of_mem _ hf), kl f.2 (List.mem_cons_of_mem _ (List.mem_map_of_mem (f := (·.2)) (List.mem_cons_of_mem _ hf))), T.d1 f.2 (List.mem_cons_of_mem _ (List.mem_map_of_mem (f := (·.2)) (List.mem_cons_of_mem _ hf)))⟩)
            (fun i f v h1 h2 => hml (i + 1) f v h1 h2) (fun a o e => k5 a o (fun z => by rw [z, hnx] at e; cases e) (X4 a o e)) hK x5 (hn4.at fun o e => k5 _ o Lx e) n5 fun h6 tk6 k6 n6 => ?_
          refine hq h6 tk6 dx _ (fun b o hb e => ?_) (k6 _ _ (Ne.symm dne) x5) (Nat.le_of_lt ld) dne ?_
          · exact k6 b o (Nat.ne_of_lt (Nat.lt_trans (Heap.lt_size e) ld)) (k5 b o hb (keep4 b o hb (k b o e)))
          · have e6 : ((((fn, pn) :: fs).map (·.1)).zip (u :: us)).reverse = ((fs.map (·.1)).zip us).reverse ++ [(fn, u)] := by
              rw [List.map_cons, List.zip_cons_cons, List.reverse_cons]
            rw [e6]
            exact n6
    · rw [eval]
      congr 1
      funext ov
      rw [L2.mcall_line rfl hline]
      rfl
end
end PySem.Pwx
set_option Elab.async false
set_option linter.all false
set_option maxRecDepth 100000
set_option autoImplicit false
set_option maxHeartbeats 4000000
/-! Raising such an error. -/
namespace PySem.Pwx
open PySem.W PySem.Calls PyProof.Rows PySem.HandSPX
/-- an error that was just made: e, its dict d with its fields -/
structure Made1 (h h' : Heap) (e C d : Addr) (acc : List (Str × Value)) : Prop where
  keep : ∀ b o, h.get? b = some o → h'.get? b = some o
  new : h.objs.size ≤ e
  obj : ∃ oe vs, h'.get? e = some oe ∧ oe.cls = .ref C ∧ oe.dict = some d ∧ oe.data = .fields vs ∧ vs[1]? = some .none
  dbig : h.objs.size ≤ d
  dne : d ≠ e
  ns : h'.Ns1 d (fun y => acc.lookup y)
section
variable {P : Program} {w : World} {A : Around} {R : Result → Shared → Prop} {s : Shared} {K : Frag} {C fI : Addr} {sf : Str} {flds : List (Str × Str)}
theorem made1 (T : XTxt P K C fI sf flds) {us : List Value} (hus : us.length = flds.length) (X : K.In s.heap) (hlim : s.heap.NoLimit) (hroom : A.depth + 1 < recursionLimit) {mg mb : Str → Option Value} (hG : s.heap.Ns mainGlobals mg) (hmg : mg "super" = none) (hB : s.heap.Ns builtinsNs mb) (hmb : mb "super" = some (.type "super"))
    (hq : ∀ h' tk e d, Made1 s.heap h' e C d ((flds.map (·.1)).zip us).reverse → R (.ok (.ret (.ref e))) { s with heap := h', toks := tk }) : codeAny (model P w) A (.call (.ref C) ⟨us, []⟩) R s := by
  obtain ⟨nm, q, N, bs, bm, sn, sub, ab, col, dd, k0, k1, k2, k3, k5, hC, hbm⟩ := T.cls
  obtain ⟨hp, g, dr, tk, os⟩ := s
  have k : ∀ b o, hp.get? b = some o → ((hp.push (kdv_tup us)).push (excO C hp.objs.size)).get? b = some o := fun b o e => Heap.get?_push_of_some _ (Heap.get?_push_of_some _ e)
  have hget : ((hp.push (kdv_tup us)).push (excO C hp.objs.size)).get? (hp.objs.size + 1) = some (excO C hp.objs.size) := by heap_get
  have hnx : K.lookup (hp.objs.size + 1) = none := by
    cases e : K.lookup (hp.objs.size + 1) with
    | none => rfl
    | some o =>
      have z : hp.get? (hp.objs.size + 1) = some o := X _ _ e
      exact absurd (Nat.lt_of_succ_lt (Heap.lt_size z)) (Nat.lt_irrefl _)
  refine call_own F.excBase_ValueError (fun X => refsVE_contains X bm hbm) (X _ _ hC) (looks_findIn X T.iC) (fun self => bind_fn X self T.tC) (by rw [hus, sizeLine_eq]; have := T.lim; omega) ?_
  refine init1 (s := ⟨(hp.push (kdv_tup us)).push (excO C hp.objs.size), g, dr, tk, os⟩) T hus (X.keeps k) (hlim.keeps k) hget hnx hroom (hG.keeps k) hmg (hB.keeps k) hmb fun h' tk' dx t1 k' hx dn dne hns => ?_
  have old : ∀ b o, hp.get? b = some o → h'.get? b = some o := fun b o e => k' b o (Nat.ne_of_lt (Nat.lt_succ_of_lt (Heap.lt_size e))) (k b o e)
  have z : hp.objs.size ≤ dx := by
    have q : ((hp.push (kdv_tup us)).push (excO C hp.objs.size)).objs.size ≤ dx := dn
    rw [Heap.size_push, Heap.size_push] at q
    exact Nat.le_trans (Nat.le_trans (Nat.le_succ _) (Nat.le_succ _)) q
  exact ⟨rfl, hq h' tk' (hp.objs.size + 1) dx ⟨old, Nat.le_succ _, ⟨_, _, hx, rfl, rfl, rfl, rfl⟩, z, dne, hns⟩⟩
end
end PySem.Pwx
namespace Pw
open PySem PySem.Spec PyProof.Rows L2
theorem relO_zip {f : Str} : ∀ {ks : List Str} {vs : List V} {us : List Value}, Vals vs us → RelO ((ks.zip vs).lookup f) ((ks.zip us).lookup f)
  | [], _, _, _ => trivial
  | _ :: _, _, _, .nil => trivial
  | k :: ks, _, _, .cons r rs => by
    rw [List.zip_cons_cons, List.zip_cons_cons, List.lookup_cons, List.lookup_cons]
    split
    · exact r
    · exact relO_zip rs
theorem rz_one {P : Program} {w : World} {K : PySem.W.Frag} {mg : Str → Option Value} {base : Heap} {x : Str} {C0 fI : Addr} {sf : Str} {flds : List (Str × Str)} (T : PySem.Pwx.XTxt P K C0 fI sf flds) (gC : mg x = some (.ref C0)) (hmg : mg "super" = none)
    (exC : PySem.W.subIn K (.ref C0) (.type "BaseException") = some true) (tyC : PySem.W.typeIn K (.ref C0) = some (.type "type")) : RzP P w K mg base 1 x C0 (flds.map (·.1)) := by
  intro X eP ew eK em eb hr hg hdb e es ta p pos hn hns ha
  subst eP ew eK em eb
  intro pins s σ H Q I h
  refine wpAny_Call_Name_kw (ld_glob I hg gC ?_ hdb)
  refine PySem.W.callWith_K (h₀ := X.base) I.ok.mod.kin T.kC (thn (ha.run pos pins s σ H _ I h) fun us s1 hh => ?_) (star_cons hn _) (star_none hns _ _)
  obtain ⟨vs, H1, I1, r1, hl, _, q1⟩ := hh
  refine ⟨I1.kIn, ?_⟩
  have hus : us.length = flds.length := by rw [← r1.length, hl, List.length_map]
  show wpAny _ _ (call (.ref C0) us) _ _ _
  have hlim := I1.nolimit
  obtain ⟨mb, hb1, hb2⟩ := I1.mod.blt
  have hG := I1.mod.glob.keeps I1.bk
  have hB := hb1.keeps I1.bk
  have hmb : mb "super" = some (.type "super") := (hb2 "super" (by decide)).trans (by decide +kernel)
  have hI1 := I1
  obtain ⟨hp, g, dr, tk, os⟩ := s1
  refine wpAny_call (PySem.Pwx.made1 T hus I1.kIn hlim (by have := hr.dp; omega) hG hmg hB hmb fun h' tk' e d M => ?_)
  show MkP X pins σ Q (.ref e) ⟨h', g, dr, tk', os⟩
  obtain ⟨oe, fv, hoe, hc, hd, hdat, h1⟩ := M.obj
  have hns' := M.ns
  obtain ⟨G', g1, g2⟩ := restrict h' fun b => decide (b ≠ e)
  have gk : ∀ b, b ≠ e → G'.get? b = h'.get? b := fun b hb => g1 b (decide_eq_true hb)
  have ge : G'.get? e = none := g2 e (by simp)
  have old : ∀ b o, hp.get? b = some o → G'.get? b = some o := fun b o q => (gk b (Nat.ne_of_lt (Nat.lt_of_lt_of_le (Heap.lt_size q) M.new))).trans (M.keep b o q)
  have nz : ∀ {α : Type} (zs : List α), zs.length = flds.length → ((((flds.map (·.1)).zip zs).map (·.1))).Nodup := fun zs hz => by
    rw [PySem.Pwx.zip_keys (by rw [List.length_map]; exact hz)]
    exact T.fns
  have hvs : vs.length = flds.length := by rw [hl, List.length_map]
  have ob : ObjOk X.prog X.w (upd H1 d (.xd ((flds.map (·.1)).zip vs))) G' d (.xd ((flds.map (·.1)).zip vs)) := ⟨_, hns'.at (fun o q => (gk d M.dne).trans q), fun f => by
    rw [PySem.Pwx.look_rev (nz us hus)]
    exact relO_zip r1⟩
  have J : Inv X pins σ (upd H1 d (.xd ((flds.map (·.1)).zip vs))) ⟨G', g, dr, tk', os⟩ := I1.laid (t' := tk') old M.dbig ob
  refine ⟨e, oe, fv, ⟨G', g, dr, tk', os⟩, _, .ref C0, some d, rfl, J, fun b o q => ?_, ge, hoe, ⟨hc, hd⟩, hdat, h1, ?_, rfl, I1.bare, raises_own exC tyC, q1 d _ (I1.hok.fresh M.dbig) (fun f u hu => hu)⟩
  · by_cases hb : b = e
    · have q' : G'.get? b = some o := q
      rw [hb, ge] at q'; cases q'
    · exact (gk b hb).symm.trans q
  · rw [upd_ne (Ne.symm M.dne)]
    exact I1.hok.fresh M.new
end Pw
set_option Elab.async false
set_option linter.all false
set_option maxRecDepth 100000
set_option autoImplicit false
set_option maxHeartbeats 4000000
/-! The Hook; the defs' own facts; making addresses, raising own errors. -/
namespace Pw
open PySem PySem.Spec PyProof.Rows L2
abbrev FnV : Type := Option (Str × Str × Arguments × FuncBody × Scope × Addr × List Str × Addr)
def fnV (K : PySem.W.Frag) (p : Str × Option Str) : FnV := match K.lookup (He.fAd K p) with
  | some ⟨_, _, .func fd, _⟩ => some (fd.name, fd.qualname, fd.params, fd.body, fd.scope, fd.globals, fd.closure.map (·.1), fd.builtins)
  | _ => none
def valV (d : He.DefD) : FnV := some (d.name, d.qual, d.params, .stmts d.body, d.scope, mainGlobals, ["__class__"], builtinsNs)
abbrev AlT : Type := Bool × List He.FnW × List FnV
def chXc (K : PySem.W.Frag) (C : Addr) : Bool := match K.lookup C with
  | some ⟨.type "type", _, .cls cd, sl⟩ => (match cd.mro, sl.toList with
    | .ref C' :: bm, [_, _, _, _, some (.builtin n), _] => decide (C' = C) && (decide (n = "ValueError.__new__") && (!cd.hasDel && (cd.hasDict && PySem.HandSPX.refsVE bm)))
    | _, _ => false)
  | _ => false
def chXf (K : PySem.W.Frag) (C fI : Addr) (file : Str) : Bool := match K.lookup fI with
  | some ⟨_, _, .func fd, _⟩ => PySem.W.codeIn K fd.code fd.qualname && ((match fd.defaults, fd.kwdefaults with
    | .none, .none => true
    | _, _ => false) && ((match fd.closure with
      | [(_, cc)] => (match K.lookup cc with
        | some ⟨_, _, .cell (some (.ref C')), _⟩ => decide (C' = C)
        | _ => false)
      | _ => false) && (match fd.code with
      | .ref cda => (match K.lookup cda with
        | some ⟨_, _, .fields vs, _⟩ => (match (vs[2]? : Option Value) with
          | some (.str f _) => decide (f = file)
          | _ => false)
        | _ => false)
      | _ => false)))
  | _ => false
def chX (t : Tx) (K : PySem.W.Frag) (xd : XD) : Bool := chXc K ((t.G K).cA xd.c) && (chXf K ((t.G K).cA xd.c) (He.fAd K xd.d.at_) t.file && (He.eqO (PySem.W.findIn K (.ref ((t.G K).cA xd.c)) "__setattr__") (some (some (.builtin "object.__setattr__"))) &&
  ((xd.flds.all fun f => He.eqO (PySem.W.findIn K (.ref ((t.G K).cA xd.c)) f.1) (some none)) && (He.eqO (PySem.W.findIn K (.ref ((t.G K).cA xd.c)) "__init__") (some (some (.ref (He.fAd K xd.d.at_)))) &&
  (decide (PySem.W.typeIn K (.ref (He.fAd K xd.d.at_)) = some (.type "function")) && (PySem.W.keepIn K (.ref ((t.G K).cA xd.c)) && (He.eqO (PySem.W.ks_superIn K ((t.G K).cA xd.c) ((t.G K).cA xd.c) "__init__") (some (some (.builtin "ValueError.__init__"))) &&
  (decide (PySem.W.subIn K (.ref ((t.G K).cA xd.c)) (.type "ValueError") = some true) && (decide (PySem.W.mroIn K ((t.G K).cA xd.c) (.ref ((t.G K).cA xd.c)) = some true) && (He.eqO (PySem.W.nsIn K cStatics "thirdparty.any") (some none) &&
  (decide (PySem.W.subIn K (.ref ((t.G K).cA xd.c)) (.type "BaseException") = some true) && (decide (PySem.W.typeIn K (.ref ((t.G K).cA xd.c)) = some (.type "type")) && (He.eqO (PySem.W.nsIn K mainGlobals "super") (some none) &&
  decide (xd.flds.map (·.1) = (t.C.xfs xd.c).map (t.G K).nm))))))))))))))
def chI (t : Tx) (K : PySem.W.Frag) : Bool := (He.Fa.mkr (t.cn t.adr)).ok K && (match K.lookup (He.dflAt t.ini.at_ 0 K) with
  | some ⟨.type c, _, .seq its _, _⟩ => decide (c = "tuple") && decide (its.toList.length = 0)
  | _ => false)
def obsT (t : Tx) (K : PySem.W.Frag) : AlT := (((chK t K).all id && (chI t K && t.xds.all (chX t K))) && (t.ini :: t.fns.map (·.d)).all fun d => d.ok K, (t.ini :: t.fns.map (·.d)).map fun d => He.fnW K d.at_, t.xds.map fun x => fnV K x.d.at_)
def valT (t : Tx) : AlT := (true, (t.ini :: t.fns.map (·.d)).map He.DefD.val, t.xds.map fun x => valV x.d)
def SaysT (t : Tx) (K : PySem.W.Frag) : Prop := obsT t K = valT t
def obsTG (n : Nat) (t : Tx) (g : Addr → Option Obj) : AlT := obsT t (He.frG g (cStatics :: He.asD g n))
def hookT (n : Nat) (t : Tx) : PySem.W.Hook where
  α := AlT
  obs := fun s => obsTG n t s.heap.get?
  val := fun _ => valT t
  says := fun _ h => ∃ K : PySem.W.Frag, K.In h ∧ SaysT t K
  of := fun _ _ e => ⟨_, He.frG_in, e⟩
  keeps := fun _ _ _ ⟨K, hK, c⟩ k => ⟨K, PySem.W.Frag.In.keeps hK k, c⟩
theorem obsTG_eq {n : Nat} {t : Tx} {g : Addr → Option Obj} {s : Shared} (h : ∀ a, g a = s.heap.get? a) : obsTG n t g = (hookT n t).obs s := by
  have e : g = s.heap.get? := funext h
  rw [e] <;> rfl
section
variable {t : Tx} {K : PySem.W.Frag}
theorem SaysT.fst (c : SaysT t K) : (((chK t K).all id && (chI t K && t.xds.all (chX t K))) && (t.ini :: t.fns.map (·.d)).all fun d => d.ok K) = true := congrArg (fun z : AlT => z.1) c
theorem SaysT.ch (c : SaysT t K) : (chK t K).all id = true := (He.ba (He.ba c.fst).1).1
theorem SaysT.chI (c : SaysT t K) : chI t K = true := (He.ba (He.ba (He.ba c.fst).1).2).1
theorem SaysT.chX (c : SaysT t K) {x : XD} (h : x ∈ t.xds) : chX t K x = true := List.all_eq_true.mp (He.ba (He.ba (He.ba c.fst).1).2).2 x h
theorem SaysT.def2 (c : SaysT t K) {d : He.DefD} (h : d ∈ t.ini :: t.fns.map (·.d)) : ∃ fd, FunD K d.name d.qual d.params d.body d.scope (d.dvs K) (d.kws K) (He.fAd K d.at_) fd := by
  have c2 := (He.ba c.fst).2
  have e : (t.ini :: t.fns.map (·.d)).map (fun d => He.fnW K d.at_) = (t.ini :: t.fns.map (·.d)).map He.DefD.val := congrArg (fun z : AlT => z.2.1) c
  exact He.DefD.funD (List.map_inj_left.mp e d h) (List.all_eq_true.mp c2 d h)
theorem SaysT.xv (c : SaysT t K) {x : XD} (h : x ∈ t.xds) : fnV K x.d.at_ = valV x.d := by
  have e : (t.xds.map fun x => fnV K x.d.at_) = t.xds.map fun x => valV x.d := congrArg (fun z : AlT => z.2.2) c
  exact List.map_inj_left.mp e x h
def Tx.fds (t : Tx) (f : Nat) : Option Fd := (t.find f).map fun p => ⟨p.d.name, p.d.qual, p.d.params, p.d.body, p.d.scope, p.ps, p.N⟩
def Tx.fis (t : Tx) (f : Nat) : Option Fi := (t.find f).map fun p => ⟨p.ps.length, p.N.length, p.body⟩
open PySem.Pwx PySem.W in
/-- an own error's __init__ as it is written -/
structure XShape (x : XD) : Prop where
  name : x.d.name = "__init__"
  scope : x.d.scope = xSc x.sf (x.flds.map (·.2))
  ar : ∃ (ar : Arg) (brs : List Arg), x.d.params = xPar ar brs ∧ ar.arg = x.sf ∧ ∀ (q : Str) (cc : Addr) (doc pm : Value) (an : Option Addr) (cdv ct : Value) (a : Value) (us : List Value), us.length = x.flds.length →
    bindArgs (fnX "__init__" q (xPar ar brs) x.d.body (xSc x.sf (x.flds.map (·.2))) [("__class__", cc)] .none .none doc pm an cdv ct) ⟨a :: us, []⟩ = pure ((x.sf, a) :: (x.flds.map (·.2)).zip us)
  body : ∃ (p1 p2 p3 p4 p5 p6 : Pos) (txt : Str) (kk : Nat) (asg : List Stmt), (p3.endLine == p5.line) = true ∧ x.d.body = .Expr (.Call (.Attribute (.Call (.Name "super" p1) [] [] p2) "__init__" p3) [.Constant (.str txt) kk p4] [] p5) p6 :: asg ∧ Asgs x.sf asg x.flds
  ps : (x.sf :: (x.flds.map (·.2) ++ [("super" : Str), "__class__"])).Nodup
  fns : (x.flds.map (·.1)).Nodup
  d1 : ∀ y ∈ x.sf :: x.flds.map (·.2), (y == ("__debug__" : Str)) = false
  lim : x.flds.length ≤ 900
  some : x.flds ≠ []
/-- what is shown of each def of a text by the kernel -/
structure DefsOk (t : Tx) : Prop where
  nd : (t.fns.map (·.ix)).Nodup
  kwd : ∀ p ∈ t.fns, p.d.kwd = []
  sc : ∀ p ∈ t.fns, FnScope p.N p.ps p.d.scope
  cs : ∀ p ∈ t.fns, ∃ n, cSs t.T n p.d.scope p.N p.d.body = some p.body
  bd : ∀ (K : PySem.W.Frag), ∀ p ∈ t.fns, ∀ fd : FuncData, FunD K p.d.name p.d.qual p.d.params p.d.body p.d.scope (p.d.dvs K) [] (He.fAd K p.d.at_) fd → Binds K fd p.ps []
  xs : ∀ x ∈ t.xds, XShape x
  xa : ∀ c, t.C.xfs c ≠ [] → ∃ x ∈ t.xds, x.c = c
  ia : t.ini.at_ = (t.cn t.adr, some ("__init__" : Str)) ∧ t.ini.dfl = [.adr (He.dflAt t.ini.at_ 0)] ∧ t.ini.kwd = []
  ib : ∃ q1 q2 q3 q4, t.ini.body = [.Assign [.Attribute (.Name "self" q1) "steps" q2] (.Name "steps" q3) q4]
  isc : FnScope ["self", "steps"] ["self", "steps"] t.ini.scope
  i1 : ∀ (T : Addr) (kV doc pm : Value) (an : Option Addr) (cdv ct : Value) (us its : List Value), us.length = 1 → its.length = 1 →
      ∃ k, bindArgs (PySem.W.fnOf t.ini.name t.ini.qual t.ini.params t.ini.body t.ini.scope (.ref T) kV doc pm an cdv ct) ⟨us, []⟩ = seqItems? (.ref T) >>= k ∧ k (some its.toArray) = pure ([("self" : Str), "steps"].zip (us ++ its.drop 0))
  i2 : ∀ (T : Addr) (kV doc pm : Value) (an : Option Addr) (cdv ct : Value) (us its : List Value), us.length = 2 → its.length = 1 →
      ∃ k, bindArgs (PySem.W.fnOf t.ini.name t.ini.qual t.ini.params t.ini.body t.ini.scope (.ref T) kV doc pm an cdv ct) ⟨us, []⟩ = seqItems? (.ref T) >>= k ∧ k (some its.toArray) = pure ([("self" : Str), "steps"].zip (us ++ its.drop 1))
theorem all_cons {α : Type} {P : α → Prop} {a : α} {l : List α} (h : P a) (r : ∀ p ∈ l, P p) : ∀ p ∈ a :: l, P p := fun p hp => by
  rcases List.mem_cons.mp hp with e | hp
  · rw [e]; exact h
  · exact r p hp
theorem all_nil {α : Type} {P : α → Prop} : ∀ p ∈ ([] : List α), P p := fun p hp => by cases hp
theorem xa_of {t : Tx} (h : (t.xfs.all fun q => t.xds.any fun x => decide (x.c = q.1)) = true) : ∀ c, t.C.xfs c ≠ [] → ∃ x ∈ t.xds, x.c = c := fun c hc => by
  have hc' : (t.xfs.lookup c).getD [] ≠ [] := hc
  cases hl : t.xfs.lookup c with
  | none => rw [hl] at hc'; exact absurd rfl hc'
  | some l =>
    obtain ⟨x, h1, h2⟩ := List.any_eq_true.mp (List.all_eq_true.mp h _ (look_mem hl))
    exact ⟨x, h1, of_decide_eq_true h2⟩
theorem fA_of {f : Nat} {p : Fn} (h : t.find f = some p) : (t.G K).fA f = He.fAd K p.d.at_ := by
  show (match t.find f with | some p => He.fAd K p.d.at_ | none => 0) = _
  rw [h]
theorem fns_ok (c : SaysT t K) (o : DefsOk t) : ∃ fd, FnsOk t.T (t.G K) K t.fds t.fis fd ∧ ∀ (f : Nat) (p : Fn), t.find f = some p → FunD K p.d.name p.d.qual p.d.params p.d.body p.d.scope (p.d.dvs K) [] ((t.G K).fA f) (fd f) := by
  have ex : ∀ f : Nat, ∃ fd : FuncData, ∀ p : Fn, t.find f = some p → FunD K p.d.name p.d.qual p.d.params p.d.body p.d.scope (p.d.dvs K) [] ((t.G K).fA f) fd := fun f => by
    cases hf : t.find f with
    | none => exact ⟨PySem.W.fnOf "" "" ⟨[], [], none, [], [], none, []⟩ [] ⟨.function, [], false, false, []⟩ .none .none .none .none none .none .none, fun d hd => by cases hd⟩
    | some p =>
      obtain ⟨h1, h2⟩ := find_mem hf
      obtain ⟨fd, F⟩ := c.def2 (d := p.d) (List.mem_cons_of_mem _ (List.mem_map_of_mem (f := (·.d)) h1))
      refine ⟨fd, fun d' hd => ?_⟩
      cases hd
      have hk : p.d.kws K = [] := by unfold He.DefD.kws; rw [o.kwd p h1]; rfl
      rw [hk] at F
      rw [fA_of hf]
      exact F
  refine ⟨fun f => Classical.choose (ex f), ⟨fun f => by simp [Tx.fds, Tx.fis], fun f d fi hd hfi => ?_, fun f a ds ha hds => ?_, fun _ _ _ _ _ => trivial⟩, fun f d hd => Classical.choose_spec (ex f) d hd⟩
  · simp only [Tx.fds, Option.map_eq_some_iff] at hd
    simp only [Tx.fis, Option.map_eq_some_iff] at hfi
    obtain ⟨p, h1, rfl⟩ := hd
    obtain ⟨p1, h2, rfl⟩ := hfi
    rw [h1] at h2
    cases h2
    have F := Classical.choose_spec (ex f) p h1
    have hm := (find_mem h1).1
    exact ⟨⟨_, F⟩, o.sc p hm, rfl, rfl, o.cs p hm, o.bd K p hm _ (by rw [← fA_of h1]; exact F)⟩
  · simp only [Tx.T, Option.map_eq_some_iff] at ha hds
    obtain ⟨p, h1, h2⟩ := ha
    obtain ⟨p', h3, h4⟩ := hds
    subst h4
    have F := Classical.choose_spec (ex f) p h1
    have hm := (find_mem h1).1
    refine ⟨⟨p.d.name, p.d.qual, p.d.params, p.d.body, p.d.scope, p.ps, p.N⟩, ?_, h2, F.kp, fun k hk => ?_⟩
    · simp only [Tx.fds, Option.map_eq_some_iff]
      exact ⟨p, h1, rfl⟩
    · have hk0 : k = 0 := by simpa using hk
      subst hk0
      exact ⟨[], [], .nil, o.bd K p hm _ (by rw [← fA_of h1]; exact F), fun H ρ => .nil⟩
theorem xtxt_of {P : Program} (c : SaysT t K) (o : DefsOk t) (hfile : P.main.file = t.file) (htop : (P.main.scope.names.lookup ("super" : Str)).isSome = false) {x : XD} (hx : x ∈ t.xds) : PySem.Pwx.XTxt P K ((t.G K).cA x.c) (He.fAd K x.d.at_) x.sf x.flds ∧
    PySem.W.subIn K (.ref ((t.G K).cA x.c)) (.type "BaseException") = some true ∧ PySem.W.typeIn K (.ref ((t.G K).cA x.c)) = some (.type "type") ∧ PySem.W.nsIn K mainGlobals "super" = some none ∧ x.flds.map (·.1) = (t.C.xfs x.c).map (t.G K).nm := by
  have sh := o.xs x hx
  obtain ⟨a1, q⟩ := He.ba (c.chX hx)
  obtain ⟨a2, q⟩ := He.ba q
  obtain ⟨a3, q⟩ := He.ba q
  obtain ⟨a4, q⟩ := He.ba q
  obtain ⟨a5, q⟩ := He.ba q
  obtain ⟨a6, q⟩ := He.ba q
  obtain ⟨a7, q⟩ := He.ba q
  obtain ⟨a8, q⟩ := He.ba q
  obtain ⟨a9, q⟩ := He.ba q
  obtain ⟨a10, q⟩ := He.ba q
  obtain ⟨a11, q⟩ := He.ba q
  obtain ⟨a12, q⟩ := He.ba q
  obtain ⟨a13, q⟩ := He.ba q
  obtain ⟨a14, a15⟩ := He.ba q
  refine ⟨⟨?_, He.eqO_ok a3, fun f hf => He.eqO_ok (List.all_eq_true.mp a4 f hf), He.eqO_ok a5, of_decide_eq_true a6, a7, He.eqO_ok a8, of_decide_eq_true a9, of_decide_eq_true a10, He.eqO_ok a11, htop, ?_, sh.ps, sh.fns, sh.d1, sh.lim, sh.some⟩, of_decide_eq_true a12, of_decide_eq_true a13, He.eqO_ok a14, of_decide_eq_true a15⟩
  · generalize (t.G K).cA x.c = C at a1
    unfold chXc at a1
    split at a1
    · rename_i dd cd sl ho
      split at a1
      · rename_i C' bm k0 k1 k2 k3 n k5 hm hs
        obtain ⟨b1, q⟩ := He.ba a1
        obtain ⟨b2, q⟩ := He.ba q
        obtain ⟨b3, q⟩ := He.ba q
        obtain ⟨b4, b5⟩ := He.ba q
        have e1 := of_decide_eq_true b1
        have e2 := of_decide_eq_true b2
        subst e1 e2
        obtain ⟨nm, bs, mro, ns, qn, hd, sn, sub, ab, col, del⟩ := cd
        dsimp only at hm b3 b4
        subst hm b4
        have b3' : del = false := by simpa using b3
        subst b3'
        have hsl : sl = #[k0, k1, k2, k3, some (.builtin "ValueError.__new__"), k5] := by
          obtain ⟨l⟩ := sl
          simp only at hs
          rw [hs]
        subst hsl
        exact ⟨nm, qn, ns, bs, bm, sn, sub, ab, col, dd, k0, k1, k2, k3, k5, ho, b5⟩
      · cases a1
    · cases a1
  · have e := c.xv hx
    unfold chXf at a2
    unfold fnV at e
    split at a2
    · rename_i oc od fd osl ho
      rw [ho] at e
      obtain ⟨n1, n2, n3, n4, n5, n6, n7, n8, n9, n10, n11, n12, n13, n14, n15⟩ := fd
      have e2 : (some (n1, n2, n3, n4, n5, n6, n7.map (·.1), n15) : FnV) = some (x.d.name, x.d.qual, x.d.params, FuncBody.stmts x.d.body, x.d.scope, mainGlobals, [("__class__" : Str)], builtinsNs) := e
      simp only [Option.some.injEq, Prod.mk.injEq] at e2
      obtain ⟨h1, h2, h3, h4, h5, h6, h7, h8⟩ := e2
      subst h1 h2 h3 h4 h5 h6 h8
      obtain ⟨b1, q⟩ := He.ba a2
      obtain ⟨b2, q⟩ := He.ba q
      obtain ⟨b3, b4⟩ := He.ba q
      dsimp only at b1 b2 b3 b4
      have hd : n8 = .none ∧ n9 = .none := by
        revert b2
        cases n8 <;> cases n9 <;> simp
      obtain ⟨rfl, rfl⟩ := hd
      have hc : ∃ cc, n7 = [(("__class__" : Str), cc)] := by
        cases n7 with
        | nil => cases h7
        | cons p r =>
          cases r with
          | cons _ _ => simp at h7
          | nil =>
            obtain ⟨y, cc⟩ := p
            simp only [List.map_cons, List.map_nil, List.cons.injEq, and_true] at h7
            exact ⟨cc, by rw [h7]⟩
      obtain ⟨cc, rfl⟩ := hc
      have hcd : ∃ cda, n13 = .ref cda := by
        revert b4
        cases n13 <;> simp
      obtain ⟨cda, rfl⟩ := hcd
      obtain ⟨ar, brs, s1, s2, s3⟩ := sh.ar
      obtain ⟨p1, p2, p3, p4, p5, p6, txt, kk, asg, l1, l2, l3⟩ := sh.body
      rw [sh.name, s1, sh.scope] at ho
      refine ⟨oc, od, n10, n11, n12, cda, n14, osl, cc, x.d.qual, p1, p2, p3, p4, p5, p6, txt, kk, ar, brs, asg, x.d.body, ho, b1, l1, l2, l3, ?_, ?_, s2, s3 _ _ _ _ _ _ _⟩
      · revert b4
        dsimp only
        cases hq : K.lookup cda with
        | none => intro z; cases z
        | some o =>
          obtain ⟨o1, o2, o3, o4⟩ := o
          cases o3 with
          | fields vs =>
            dsimp only
            cases hv : vs[2]? with
            | none => intro z; cases z
            | some u =>
              cases u with
              | str f tf =>
                intro z
                have e := of_decide_eq_true z
                exact ⟨o1, o2, vs, o4, tf, rfl, by rw [hv, e, hfile]⟩
              | _ => intro z; cases z
          | _ => intro z; cases z
      · revert b3
        dsimp only
        cases hq : K.lookup cc with
        | none => intro z; cases z
        | some o =>
          obtain ⟨o1, o2, o3, o4⟩ := o
          cases o3 with
          | cell v =>
            cases v with
            | none => intro z; cases z
            | some v =>
              cases v with
              | ref C' =>
                intro z
                have e := of_decide_eq_true z
                subst e
                exact ⟨o1, o2, o4, rfl⟩
              | _ => intro z; cases z
          | _ => intro z; cases z
    · cases a2
theorem mk_ok {P : Program} {w : World} {mg : Str → Option Value} {h : Heap} (X : K.In h) (G : h.Ns mainGlobals mg) (c : SaysT t K) (o : DefsOk t) (hfile : P.main.file = t.file) (htop : (P.main.scope.names.lookup ("super" : Str)).isSome = false) (base : Heap) : MkOk t.T (t.G K) t.C K mg P w base where
  mka := by
    have g := glob_of o.nd X G c.ch
    obtain ⟨m1, m2⟩ := He.ba c.chI
    have mk := He.mkr_ok m1
    obtain ⟨fd, F⟩ := c.def2 (d := t.ini) List.mem_cons_self
    obtain ⟨ia1, ia2, ia3⟩ := o.ia
    have hk : t.ini.kws K = [] := by unfold He.DefD.kws; rw [ia3]; rfl
    have hd : t.ini.dvs K = [.ref (He.dflAt t.ini.at_ 0 K)] := by unfold He.DefD.dvs; rw [ia2]; rfl
    rw [hk, hd] at F
    have eA : He.fAd K t.ini.at_ = He.ma K (He.ga K (t.cn t.adr)) "__init__" := by rw [ia1]; rfl
    obtain ⟨q1, q2, q3, q4, hb⟩ := o.ib
    obtain ⟨p, hp⟩ := g.slot
    have F2 := F
    rw [hb] at F2
    have FI := mka_ok (P := P) (w := w) (mg := mg) (base := base) F2 o.isc g.cls hp
    obtain ⟨ds1, v1, b1⟩ := F.binds1 (ps := ["self", "steps"]) 1 0 (by simp) (by rfl) o.i1
    obtain ⟨ds2, v2, b2⟩ := F.binds1 (ps := ["self", "steps"]) 2 1 (by simp) (by rfl) o.i2
    cases v2
    have v1' : Vals [V.ref (He.dflAt t.ini.at_ 0 K)] ds1 := v1
    cases v1' with
    | cons r1 rn =>
      cases rn
      refine ⟨_, fd, _, _, ?_, FI, b2, b1, .ref (He.dflAt t.ini.at_ 0 K), r1, fun H ρ => ?_⟩
      · rw [eA]; exact mk
      · have z : SqT K H (He.dflAt t.ini.at_ 0 K) [] := by
          cases q : K.lookup (He.dflAt t.ini.at_ 0 K) with
          | none => rw [q] at m2; cases m2
          | some ob =>
            obtain ⟨o1, o2, o3, o4⟩ := ob
            rw [q] at m2
            cases o1 with
            | type cc =>
              cases o3 with
              | seq its n =>
                obtain ⟨z1, z2⟩ := He.ba m2
                have e1 := of_decide_eq_true z1
                have e2 : its.toList.length = 0 := of_decide_eq_true z2
                have e3 : its.toList = [] := List.eq_nil_of_length_eq_zero e2
                refine .inr ⟨_, its, n, q, congrArg Value.type e1, rfl, ?_, ?_⟩
                · rw [← Array.length_toList, e2]; exact Nat.zero_le _
                · rw [e3]; exact .nil
              | _ => cases m2
            | _ => cases o3 <;> cases m2
        exact .tup z .nil
  rz := fun x cc hx hf => by
    have g := glob_of o.nd X G c.ch
    obtain ⟨xd, h1, rfl⟩ := o.xa cc hf
    obtain ⟨T, e1, e2, e3, e4⟩ := xtxt_of c o hfile htop h1
    have q := rz_one (P := P) (w := w) (mg := mg) (base := base) T (g.xg x _ hx) (PySem.W.mg_none_of X G e3) e1 e2
    rw [e4] at q
    exact q
end
end Pw
set_option Elab.async false
set_option linter.all false
set_option maxRecDepth 100000
set_option autoImplicit false
set_option maxHeartbeats 4000000
/-! The end: a law's def, from the Hook's word and the interpreter's answer. -/
namespace Pw
open PySem PySem.Spec PyProof.Rows L2
section
variable {P : Program} {w : World} {K : PySem.W.Frag} {mg : Str → Option Value} {base : Heap} {k : Nat} {f : Addr} {fd : FuncData} {ps : List Str} {sp : Sp}
/-- where no exception is allowed, none comes -/
theorem fn_cx0 (F : FnOk P w K mg base (L2.CX P w) k f fd ps sp) : FnOk P w K mg base CX0 k f fd ps (fun vs H Q _ => sp vs H Q fun _ _ _ => False) :=
  ⟨fun vs H Q _ h => F.len vs H Q _ h, fun A outer s H args us vs Q E hr he hb hv hs => codeAny_mono (F.run A outer s H args us vs Q (fun _ _ _ => False) hr he hb hv hs) fun r s' h => by
    cases r with
    | error e =>
      obtain ⟨_, _, _, _, _, _, _, _, _, _, _, _, z⟩ := h
      exact z.elim
    | ok fl =>
      cases fl with
      | ret u => exact h
      | next => exact h
      | brk => exact h
      | cont => exact h⟩
theorem frl_of {H : Hp} {a : Addr} {xs : List V} (o : Only H) (h : SqL K H a xs) : FrL K H a xs := by
  rcases h with (h | ⟨u, h⟩) | h
  · rcases o a with z | ⟨u, ys, z⟩
    · rw [z] at h; cases h
    · rw [z] at h; cases h
  · exact .inl ⟨u, h⟩
  · exact .inr (.inr h)
theorem rps_ints {G : Gd} {H : Hp} {ρ : List Addr} : ∀ ns : List Int, Rps K G H ρ (ns.map D.int) (ns.map V.int)
  | [] => .nil
  | n :: r => .cons (.int n) (rps_ints r)
/-- the law's promise at its start -/
theorem law_start {G : Gd} {call : Nat → List D → Mem → Res D} {f : Nat} {ns : List Int} {H : Hp} {a : Addr} (o : Only H) (h : SqL K H a (ns.map V.int)) (hc : ∃ m, call f [.lst (ns.map D.int)] [] = .ok (.bl true) m) :
    spN K G call f [.ref a] H (fun v _ => v = .bl true) fun _ _ _ => False := by
  obtain ⟨m, hc⟩ := hc
  refine ⟨[], [.lst (ns.map D.int)], [], ⟨rfl, List.nodup_nil, fun n o h => by simp at h⟩, .cons (.lst (frl_of o h) (rps_ints ns)) .nil, ?_⟩
  rw [hc]
  intro ρ' H' v _ _ r
  cases r
  rfl
theorem law_F {t : Tx} {h : Heap} {fa : Addr} {n : Nat} {x : Str} {fI : Nat} {p : Fn} (X : K.In h) (G : h.Ns mainGlobals mg) (c : SaysT t K) (o : DefsOk t) (hfile : P.main.file = t.file) (htop : (P.main.scope.names.lookup ("super" : Str)).isSome = false)
    (hp : t.find fI = some p) (hx : p.ps = [x]) (hlk : (ixNames t.fns).lookup ("law" : Str) = some fI) (hfa : mg "law" = some (.ref fa)) (hbd : ∀ fd, FunD K p.d.name p.d.qual p.d.params p.d.body p.d.scope (p.d.dvs K) [] (He.fAd K p.d.at_) fd → ∀ (s : Shared) (u : Value), BindsTo s fd ⟨[u], []⟩ [(x, u)])
    (hlaw : ∀ ns : List Int, ns.length ≤ n → ∃ m, callK t.C t.fis k fI [.lst (ns.map D.int)] [] = .ok (.bl true) m) :
    ∃ (fd : FuncData) (sp : Sp), (∀ (s : Shared) (u : Value), BindsTo s fd ⟨[u], []⟩ [(x, u)]) ∧
      (∀ (H : Hp) (a : Addr) (ns : List Int), ns.length ≤ n → Only H → SqL K H a (ns.map V.int) → sp [.ref a] H (fun v _ => v = .bl true) fun _ _ _ => False) ∧
      ∀ base : Heap, K.In base → base.Ns mainGlobals mg → FnOk P w K mg base CX0 (lvK k) fa fd [x] sp := by
  have g := glob_of o.nd X G c.ch
  obtain ⟨fd, fo, hF⟩ := fns_ok c o
  have eA := fA_of (K := K) hp
  have efa : (t.G K).fA fI = fa := by
    have e := (g.fns _ _ hlk).symm.trans hfa
    cases e
    rfl
  have hds : t.fds fI = some ⟨p.d.name, p.d.qual, p.d.params, p.d.body, p.d.scope, p.ps, p.N⟩ := by
    simp only [Tx.fds, Option.map_eq_some_iff]
    exact ⟨p, hp, rfl⟩
  refine ⟨fd fI, fun vs H Q _ => spN K (t.G K) (callK t.C t.fis k) fI vs H Q fun _ _ _ => False, hbd _ (by rw [← eA]; exact hF fI p hp), fun H a ns hl ho hs => law_start ho hs (hlaw ns hl), fun base _ _ => ?_⟩
  have L := fn_cx0 (w := w) (level g (mk_ok X G c o hfile htop base) fo k fI _ hds)
  rw [efa] at L
  simp only [hx] at L
  exact L
end
end Pw
set_option linter.all false
set_option maxRecDepth 100000
/-! Printed by gen.py: numbers of names, classes, defs; the syntax of the defs. -/
namespace Pw
open PySem
abbrev n_init_ : Nat := 0
abbrev n_eq_ : Nat := 1
abbrev n_lt_ : Nat := 2
abbrev n_le_ : Nat := 3
abbrev n_gt_ : Nat := 4
abbrev n_ge_ : Nat := 5
abbrev n_add_ : Nat := 6
abbrev n_radd_ : Nat := 7
abbrev n_len_ : Nat := 8
abbrev n_contains_ : Nat := 9
abbrev n_call_ : Nat := 10
abbrev n_getitem_ : Nat := 11
abbrev n_setitem_ : Nat := 12
abbrev n_iadd_ : Nat := 13
abbrev n_enter_ : Nat := 14
abbrev n_exit_ : Nat := 15
abbrev n_steps : Nat := 16
abbrev n_append : Nat := 17
abbrev n_extend : Nat := 18
abbrev n_pop : Nat := 19
abbrev n_reverse : Nat := 20
abbrev n_kind : Nat := 21
abbrev n_case : Nat := 22
abbrev n_field : Nat := 23
abbrev n_declared : Nat := 24
abbrev n_clear : Nat := 25
abbrev n_kinds : Nat := 26
abbrev n_cases : Nat := 27
abbrev n_get : Nat := 28
abbrev n_reaches : Nat := 29
abbrev n_address : Nat := 30
abbrev n_fields : Nat := 31
abbrev n_parent : Nat := 32
abbrev n_is_above : Nat := 33
abbrev n_is_apart : Nat := 34
abbrev n_setdefault : Nat := 35
abbrev n_split : Nat := 36
abbrev n_join : Nat := 37
abbrev n_count : Nat := 38
abbrev n_schema : Nat := 39
abbrev n_known : Nat := 40
abbrev n_counter : Nat := 41
abbrev n_shape : Nat := 42
abbrev n_list_with : Nat := 43
abbrev n_ways : Nat := 44
abbrev n_of_list : Nat := 45
abbrev n_of_kind : Nat := 46
abbrev n_contents : Nat := 47
abbrev n_rank : Nat := 48
abbrev n_rank_of_list : Nat := 49
abbrev n_rank_of_things : Nat := 50
abbrev n_index : Nat := 51
abbrev n_whole : Nat := 52
abbrev n_aim : Nat := 53
abbrev n_place : Nat := 54
abbrev n_go_to : Nat := 55
abbrev n_beside : Nat := 56
abbrev n_along : Nat := 57
abbrev n_part : Nat := 58
abbrev n_joined : Nat := 59
abbrev n_down : Nat := 60
abbrev n_part_sort : Nat := 61
abbrev n_value : Nat := 62
abbrev n_up : Nat := 63
abbrev n_left : Nat := 64
abbrev n_right : Nat := 65
abbrev n_backward : Nat := 66
abbrev n_forward : Nat := 67
abbrev n_change : Nat := 68
abbrev n_insert : Nat := 69
abbrev n_delete : Nat := 70
abbrev n_stages : Nat := 71
abbrev n_edits : Nat := 72
abbrev n_since : Nat := 73
abbrev n_all_values : Nat := 74
abbrev n_send : Nat := 75
abbrev n_version : Nat := 76
abbrev n_name : Nat := 77
abbrev n_state : Nat := 78
abbrev n_past : Nat := 79
abbrev n_future : Nat := 80
abbrev n_step : Nat := 81
abbrev n_apply_all : Nat := 82
abbrev n_after : Nat := 83
abbrev n_names : Nat := 84
abbrev n_undo : Nat := 85
abbrev n_redo : Nat := 86
abbrev n_document : Nat := 87
abbrev n_origin : Nat := 88
abbrev n_keep : Nat := 89
abbrev n_cursor : Nat := 90
abbrev n_text : Nat := 91
abbrev n_at : Nat := 92
abbrev n_read : Nat := 93
abbrev n_refuse : Nat := 94
abbrev n_expect : Nat := 95
abbrev n_skip : Nat := 96
abbrev n_read_tag : Nat := 97
abbrev n_sign : Nat := 98
abbrev n_read_number : Nat := 99
abbrev n_read_list : Nat := 100
abbrev n_row : Nat := 101
abbrev n_partition : Nat := 102
abbrev c_PartError : Nat := 0
abbrev c_InvalidSchema : Nat := 1
abbrev c_EndlessKind : Nat := 2
abbrev c_UnknownKind : Nat := 3
abbrev c_Schema : Nat := 4
abbrev c_InvalidValue : Nat := 5
abbrev c_Address : Nat := 6
abbrev c_NoPlace : Nat := 7
abbrev c_NoShape : Nat := 8
abbrev c_Counter : Nat := 9
abbrev c_Ranker : Nat := 10
abbrev c_NotApart : Nat := 11
abbrev c_BadResult : Nat := 12
abbrev c_NoMove : Nat := 13
abbrev c_Cursor : Nat := 14
abbrev c_NoVersion : Nat := 15
abbrev c_Shared : Nat := 16
abbrev c_BadName : Nat := 17
abbrev c_UnknownName : Nat := 18
abbrev c_BadEdit : Nat := 19
abbrev c_Document : Nat := 20
abbrev c_Trial : Nat := 21
abbrev c_Excursion : Nat := 22
abbrev c_InvalidText : Nat := 23
abbrev c_Reader : Nat := 24
abbrev c_InvalidRow : Nat := 25
abbrev i_l_mix : Nat := 20
abbrev i_l_next : Nat := 21
abbrev i_l_alike : Nat := 22
abbrev i_m_Address_len : Nat := 44
abbrev i_m_Address_eq : Nat := 45
abbrev i_m_Address_lt : Nat := 46
abbrev i_m_Address_le : Nat := 47
abbrev i_m_Address_gt : Nat := 48
abbrev i_m_Address_ge : Nat := 49
abbrev i_m_Address_add : Nat := 50
abbrev i_m_Address_radd : Nat := 51
abbrev i_m_Address_parent_2 : Nat := 84
abbrev i_m_Address_is_above_2 : Nat := 85
abbrev i_m_Address_is_apart_2 : Nat := 86
abbrev i_l_before : Nat := 88
abbrev i_l_steps : Nat := 89
abbrev i_l_parent : Nat := 90
abbrev i_law_k05 : Nat := 91
def nmAll : List Str := (("__init__" :: "__eq__" :: "__lt__" :: "__le__" :: "__gt__" :: "__ge__" :: "__add__" :: "__radd__" :: "__len__" :: "__contains__" :: "__call__" :: "__getitem__" :: "__setitem__" :: "__iadd__" :: "__enter__" :: "__exit__" :: "steps" :: "append" :: "extend" :: "pop" :: "reverse" :: "kind" :: "case" :: "field" :: "declared" :: "clear" :: "kinds" :: "cases" :: "get" :: "reaches" :: "address" :: "fields" :: "parent" :: "is_above" :: "is_apart" :: "setdefault" :: "split" :: "join" :: "count" :: "schema" :: "known" :: "counter" :: "shape" :: "list_with" :: "ways" :: "of_list" :: "of_kind" :: "contents" :: "rank" :: "rank_of_list" :: "rank_of_things" :: "index" :: "whole" :: "aim" :: "place" :: "go_to" :: "beside" :: "along" :: "part" :: "joined" :: "down" :: "part_sort" :: "value" :: "up" :: "left" :: "right" :: "backward" :: "forward" :: "change" :: "insert" :: "delete" :: "stages" :: "edits" :: "since" :: "all_values" :: "send" :: "version" :: "name" :: "state" :: "past" :: "future" :: "step" :: "apply_all" :: "after" :: "names" :: "undo" :: "redo" :: "document" :: "origin" :: "keep" :: "cursor" :: "text" :: "at" :: "read" :: "refuse" :: "expect" :: "skip" :: "read_tag" :: "sign" :: "read_number" :: "read_list" :: "row" :: "partition" :: []) : List Str)
def a_l_mix : Sms := (.cons (.asg (.v 2) (.var 1)) (.cons (.loop (.v 3) (.e (.var 0)) (.cons (.asg (.v 2) (.bin .mod (.blt .int (.cons false (.bin .add (.bin .add (.bin .mul (.var 2) (.cst (.int 48271))) (.bin .mod (.blt .int (.cons false (.var 3) .nil)) (.cst (.int 2147483629)))) (.cst (.int 1))) .nil)) (.cst (.int 2147483647)))) .nil) .nil) (.cons (.ret (.lst (.cons false (.var 2) (.cons false (.blt .list (.cons false (.var 0) .nil)) (.cons false (.cst (.int 0)) .nil))))) .nil)))
def f_l_mix : Fi := ⟨2, 4, a_l_mix⟩
def a_l_next : Sms := (.cons (.asg (.v 2) (.sub (.bin .add (.sub (.var 0) (.cst (.int 1))) (.lst (.cons false (.cst (.int 0)) .nil))) (.bin .mod (.blt .int (.cons false (.sub (.var 0) (.cst (.int 2))) .nil)) (.blt .max (.cons false (.cst (.int 1)) (.cons false (.blt .len (.cons false (.sub (.var 0) (.cst (.int 1))) .nil)) .nil)))))) (.cons (.iff (.cmp .ge (.var 2) (.bin .pow (.cst (.int 10)) (.cst (.int 18)))) (.cons (.sts (.sub (.var 0) (.cst (.int 1))) (.bin .mod (.blt .int (.cons false (.sub (.var 0) (.cst (.int 2))) .nil)) (.blt .len (.cons false (.sub (.var 0) (.cst (.int 1))) .nil))) (.bin .fdiv (.var 2) (.var 1))) (.cons (.ret (.bin .mod (.blt .int (.cons false (.var 2) .nil)) (.var 1))) .nil)) .nil) (.cons (.sts (.var 0) (.cst (.int 0)) (.bin .mod (.blt .int (.cons false (.bin .add (.bin .add (.bin .mul (.sub (.var 0) (.cst (.int 0))) (.cst (.int 48271))) (.bin .mul (.var 2) (.cst (.int 69621)))) (.cst (.int 11))) .nil)) (.cst (.int 2147483647)))) (.cons (.sts (.var 0) (.cst (.int 2)) (.bin .add (.sub (.var 0) (.cst (.int 2))) (.cst (.int 1)))) (.cons (.ret (.bin .mod (.blt .int (.cons false (.bin .fdiv (.sub (.var 0) (.cst (.int 0))) (.cst (.int 7))) .nil)) (.var 1))) .nil)))))
def f_l_next : Fi := ⟨2, 3, a_l_next⟩
def a_l_alike : Sms := (.cons (.iff (.isi (.var 1) [.dict]) (.cons (.ret (.and (.isi (.var 0) [.dict]) (.and (.call i_l_alike (.cons false (.blt .list (.cons false (.var 0) .nil)) (.cons false (.blt .list (.cons false (.var 1) .nil)) .nil))) (.cmp .eq (.var 0) (.var 1))))) .nil) .nil) (.cons (.iff (.isi (.var 1) [.tuple, .list]) (.cons (.iff (.or (.not (.isi (.var 0) [.tuple, .list])) (.cmp .ne (.isi (.var 0) [.list]) (.isi (.var 1) [.list]))) (.cons (.ret (.cst (.bl false))) .nil) .nil) (.cons (.iff (.cmp .ne (.blt .len (.cons false (.var 0) .nil)) (.blt .len (.cons false (.var 1) .nil))) (.cons (.ret (.cst (.bl false))) .nil) .nil) (.cons (.ret (.cmp .eq (.lc (.v 2) [2] (.rng1 (.blt .len (.cons false (.var 1) .nil))) (.not (.call i_l_alike (.cons false (.sub (.var 0) (.var 2)) (.cons false (.sub (.var 1) (.var 2)) .nil)))) (.var 2)) (.lst .nil))) .nil))) .nil) (.cons (.iff (.or (.isn (.var 1) false) (.isi (.var 1) [.str])) (.cons (.ret (.and (.cmp .eq (.var 0) (.var 1)) (.cmp .eq (.isi (.var 0) [.str]) (.isi (.var 1) [.str])))) .nil) .nil) (.cons (.ret (.and (.isi (.var 0) [.int]) (.and (.cmp .eq (.isi (.var 0) [.bool]) (.isi (.var 1) [.bool])) (.cmp .eq (.var 0) (.var 1))))) .nil))))
def f_l_alike : Fi := ⟨2, 3, a_l_alike⟩
def a_m_Address_len : Sms := (.cons (.ret (.blt .len (.cons false (.fld n_steps (.var 0)) .nil))) .nil)
def f_m_Address_len : Fi := ⟨1, 1, a_m_Address_len⟩
def a_m_Address_eq : Sms := (.cons (.ret (.and (.isi (.var 1) [.cls c_Address]) (.cmp .eq (.fld n_steps (.var 0)) (.fld n_steps (.var 1))))) .nil)
def f_m_Address_eq : Fi := ⟨2, 2, a_m_Address_eq⟩
def a_m_Address_lt : Sms := (.cons (.ret (.cmp .lt (.fld n_steps (.var 0)) (.fld n_steps (.var 1)))) .nil)
def f_m_Address_lt : Fi := ⟨2, 2, a_m_Address_lt⟩
def a_m_Address_le : Sms := (.cons (.ret (.cmp .le (.fld n_steps (.var 0)) (.fld n_steps (.var 1)))) .nil)
def f_m_Address_le : Fi := ⟨2, 2, a_m_Address_le⟩
def a_m_Address_gt : Sms := (.cons (.ret (.cmp .gt (.fld n_steps (.var 0)) (.fld n_steps (.var 1)))) .nil)
def f_m_Address_gt : Fi := ⟨2, 2, a_m_Address_gt⟩
def a_m_Address_ge : Sms := (.cons (.ret (.cmp .ge (.fld n_steps (.var 0)) (.fld n_steps (.var 1)))) .nil)
def f_m_Address_ge : Fi := ⟨2, 2, a_m_Address_ge⟩
def a_m_Address_add : Sms := (.cons (.ret (.new c_Address (.cons false (.tup (.cons true (.fld n_steps (.var 0)) (.cons false (.var 1) .nil))) .nil))) .nil)
def f_m_Address_add : Fi := ⟨2, 2, a_m_Address_add⟩
def a_m_Address_radd : Sms := (.cons (.ret (.new c_Address (.cons false (.tup (.cons false (.var 1) (.cons true (.fld n_steps (.var 0)) .nil))) .nil))) .nil)
def f_m_Address_radd : Fi := ⟨2, 2, a_m_Address_radd⟩
def a_m_Address_parent_2 : Sms := (.cons (.iff (.cmp .eq (.fld n_steps (.var 0)) (.tup .nil)) (.cons (.raise c_NoPlace (.cons false (.var 0) .nil)) .nil) .nil) (.cons (.ret (.new c_Address (.cons false (.slR (.fld n_steps (.var 0)) (.cst (.int (-1)))) .nil))) .nil))
def f_m_Address_parent_2 : Fi := ⟨1, 1, a_m_Address_parent_2⟩
def a_m_Address_is_above_2 : Sms := (.cons (.ret (.and (.cmp .lt (.blt .len (.cons false (.fld n_steps (.var 0)) .nil)) (.blt .len (.cons false (.fld n_steps (.var 1)) .nil))) (.cmp .eq (.slR (.fld n_steps (.var 1)) (.blt .len (.cons false (.fld n_steps (.var 0)) .nil))) (.fld n_steps (.var 0))))) .nil)
def f_m_Address_is_above_2 : Fi := ⟨2, 2, a_m_Address_is_above_2⟩
def a_m_Address_is_apart_2 : Sms := (.cons (.ret (.and (.cmp .ne (.var 0) (.var 1)) (.and (.not (.met n_is_above (.var 0) (.cons false (.var 1) .nil))) (.not (.met n_is_above (.var 1) (.cons false (.var 0) .nil)))))) .nil)
def f_m_Address_is_apart_2 : Fi := ⟨2, 2, a_m_Address_is_apart_2⟩
def a_l_before : Sms := (.cons (.loop (.v 2) (.rng1 (.blt .min (.cons false (.blt .len (.cons false (.var 0) .nil)) (.cons false (.blt .len (.cons false (.var 1) .nil)) .nil)))) (.cons (.iff (.cmp .ne (.sub (.var 0) (.var 2)) (.sub (.var 1) (.var 2))) (.cons (.ret (.cmp .lt (.sub (.var 0) (.var 2)) (.sub (.var 1) (.var 2)))) .nil) .nil) .nil) .nil) (.cons (.ret (.cmp .lt (.blt .len (.cons false (.var 0) .nil)) (.blt .len (.cons false (.var 1) .nil)))) .nil))
def f_l_before : Fi := ⟨2, 3, a_l_before⟩
def a_l_steps : Sms := (.cons (.asg (.v 1) (.tup .nil)) (.cons (.loop (.v 2) (.rng1 (.call i_l_next (.cons false (.var 0) (.cons false (.cst (.int 5)) .nil)))) (.cons (.asg (.v 3) (.call i_l_next (.cons false (.var 0) (.cons false (.cst (.int 3)) .nil)))) (.cons (.asg (.v 1) (.bin .add (.var 1) (.tup (.cons false (.sub (.tup (.cons false (.tup (.cons false (.var 3) .nil)) (.cons false (.tup (.cons false (.bin .add (.var 3) (.cst (.int 4))) (.cons false (.call i_l_next (.cons false (.var 0) (.cons false (.cst (.int 3)) .nil))) .nil))) .nil))) (.call i_l_next (.cons false (.var 0) (.cons false (.cst (.int 2)) .nil)))) .nil)))) .nil)) .nil) (.cons (.ret (.var 1)) .nil)))
def f_l_steps : Fi := ⟨1, 4, a_l_steps⟩
def a_l_parent : Sms := (.cons (.asg (.v 1) (.cst .non)) (.cons (.try_ (.cons (.asg (.v 1) (.fld n_steps (.met n_parent (.var 0) .nil))) .nil) (.cons c_NoPlace (some 2) (.cons (.asg (.v 1) (.lst (.cons false (.fld n_steps (.xfl n_address)) (.cons false (.xis c_PartError) .nil)))) .nil) .nil)) (.cons (.ret (.var 1)) .nil)))
def f_l_parent : Fi := ⟨1, 3, a_l_parent⟩
def a_law_k05 : Sms := (.cons (.asg (.v 1) (.call i_l_mix (.cons false (.var 0) (.cons false (.cst (.int 5)) .nil)))) (.cons (.loop (.v 2) (.rng1 (.cst (.int 12))) (.cons (.asg (.t (.cons (.v 3) (.cons (.v 4) .nil))) (.tup (.cons false (.call i_l_steps (.cons false (.var 1) .nil)) (.cons false (.call i_l_steps (.cons false (.var 1) .nil)) .nil)))) (.cons (.iff (.cmp .eq (.call i_l_next (.cons false (.var 1) (.cons false (.cst (.int 3)) .nil))) (.cst (.int 0))) (.cons (.asg (.v 4) (.bin .add (.var 3) (.var 4))) .nil) .nil) (.cons (.iff (.cmp .eq (.call i_l_next (.cons false (.var 1) (.cons false (.cst (.int 4)) .nil))) (.cst (.int 0))) (.cons (.asg (.v 3) (.var 4)) .nil) .nil) (.cons (.asg (.t (.cons (.v 5) (.cons (.v 6) .nil))) (.tup (.cons false (.new c_Address (.cons false (.var 3) .nil)) (.cons false (.new c_Address (.cons false (.var 4) .nil)) .nil)))) (.cons (.asg (.t (.cons (.v 7) (.cons (.v 8) .nil))) (.tup (.cons false (.call i_l_before (.cons false (.var 3) (.cons false (.var 4) .nil))) (.cons false (.call i_l_before (.cons false (.var 4) (.cons false (.var 3) .nil))) .nil)))) (.cons (.asg (.v 9) (.lst (.cons false (.cmp .eq (.var 5) (.var 6)) (.cons false (.cmp .lt (.var 5) (.var 6)) (.cons false (.cmp .le (.var 5) (.var 6)) (.cons false (.cmp .gt (.var 5) (.var 6)) (.cons false (.cmp .ge (.var 5) (.var 6)) .nil))))))) (.cons (.iff (.not (.call i_l_alike (.cons false (.var 9) (.cons false (.lst (.cons false (.cmp .eq (.var 3) (.var 4)) (.cons false (.var 7) (.cons false (.not (.var 8)) (.cons false (.var 8) (.cons false (.not (.var 7)) .nil)))))) .nil)))) (.cons (.ret (.cst (.bl false))) .nil) .nil) (.cons (.asg (.v 10) (.and (.cmp .lt (.blt .len (.cons false (.var 3) .nil)) (.blt .len (.cons false (.var 4) .nil))) (.cmp .eq (.slR (.var 4) (.blt .len (.cons false (.var 3) .nil))) (.var 3)))) (.cons (.asg (.v 11) (.and (.cmp .lt (.blt .len (.cons false (.var 4) .nil)) (.blt .len (.cons false (.var 3) .nil))) (.cmp .eq (.slR (.var 3) (.blt .len (.cons false (.var 4) .nil))) (.var 4)))) (.cons (.iff (.not (.call i_l_alike (.cons false (.lst (.cons false (.met n_is_above (.var 5) (.cons false (.var 6) .nil)) (.cons false (.met n_is_above (.var 6) (.cons false (.var 5) .nil)) .nil))) (.cons false (.lst (.cons false (.var 10) (.cons false (.var 11) .nil))) .nil)))) (.cons (.ret (.cst (.bl false))) .nil) .nil) (.cons (.iff (.not (.call i_l_alike (.cons false (.met n_is_apart (.var 5) (.cons false (.var 6) .nil)) (.cons false (.and (.cmp .ne (.var 3) (.var 4)) (.and (.not (.var 10)) (.not (.var 11)))) .nil)))) (.cons (.ret (.cst (.bl false))) .nil) .nil) (.cons (.asg (.v 12) (.sub (.tup (.cons false (.tup (.cons false (.cst (.int 1)) .nil)) (.cons false (.tup (.cons false (.cst (.int 2)) (.cons false (.cst (.int 3)) .nil))) .nil))) (.call i_l_next (.cons false (.var 1) (.cons false (.cst (.int 2)) .nil))))) (.cons (.iff (.not (.call i_l_alike (.cons false (.lst (.cons false (.fld n_steps (.bin .add (.var 5) (.var 12))) (.cons false (.fld n_steps (.bin .add (.var 12) (.var 5))) (.cons false (.fld n_steps (.var 5)) .nil)))) (.cons false (.lst (.cons false (.bin .add (.var 3) (.tup (.cons false (.var 12) .nil))) (.cons false (.bin .add (.tup (.cons false (.var 12) .nil)) (.var 3)) (.cons false (.var 3) .nil)))) .nil)))) (.cons (.ret (.cst (.bl false))) .nil) .nil) (.cons (.iff (.not (.call i_l_alike (.cons false (.call i_l_parent (.cons false (.var 5) .nil)) (.cons false (.ite (.cmp .ne (.var 3) (.tup .nil)) (.slR (.var 3) (.cst (.int (-1)))) (.lst (.cons false (.tup .nil) (.cons false (.cst (.bl true)) .nil)))) .nil)))) (.cons (.ret (.cst (.bl false))) .nil) .nil) (.cons (.iff (.or (.not (.call i_l_alike (.cons false (.blt .len (.cons false (.var 5) .nil)) (.cons false (.blt .len (.cons false (.var 3) .nil)) .nil)))) (.or (.not (.cmp .eq (.met n_parent (.bin .add (.var 5) (.var 12)) .nil) (.var 5))) (.cmp .eq (.var 5) (.var 3)))) (.cons (.ret (.cst (.bl false))) .nil) .nil) .nil))))))))))))))) .nil) (.cons (.ret (.call i_l_alike (.cons false (.lst (.cons false (.fld n_steps (.new c_Address .nil)) (.cons false (.blt .len (.cons false (.new c_Address .nil) .nil)) .nil))) (.cons false (.lst (.cons false (.tup .nil) (.cons false (.cst (.int 0)) .nil))) .nil)))) .nil)))
def f_law_k05 : Fi := ⟨1, 13, a_law_k05⟩
end Pw
set_option Elab.async false
set_option linter.all false
set_option maxRecDepth 100000
set_option autoImplicit false
/-! Runs of the interpreter, by wishes: what is wanted of a result. Plain Lean, no program. -/
namespace Pw
open PySem (Str)
def Wp {α : Type} (r : Res α) (Q : α → Mem → Prop) (E : Xc → Mem → Prop) : Prop := match r with
  | .ok a m => Q a m
  | .exc x m => E x m
  | .bad => False
def WpS (r : SR) (nx : Sg → Mem → Prop) (rt : D → Mem → Prop) (xc : Xc → Sg → Mem → Prop) (bk ct : Sg → Mem → Prop) : Prop := match r with
  | .nx σ m => nx σ m
  | .ret d m => rt d m
  | .exc x σ m => xc x σ m
  | .brk σ m => bk σ m
  | .cnt σ m => ct σ m
  | .bad => False
section
variable {α β : Type} {r : Res α} {f : α → Mem → Res β} {Q Q' : α → Mem → Prop} {P : β → Mem → Prop} {E E' : Xc → Mem → Prop} {a : α} {m : Mem}
theorem Wp.ok (q : Q a m) : Wp (.ok a m) Q E := q
theorem Wp.eq (e : r = .ok a m) (q : Q a m) : Wp r Q E := by rw [e]; exact q
theorem Wp.exc {x : Xc} (q : E x m) : Wp (.exc x m : Res α) Q E := q
theorem Wp.bind (h : Wp r (fun a m => Wp (f a m) P E) E) : Wp (r.bind f) P E := by
  cases r <;> exact h
theorem Wp.mono (h : Wp r Q E) (i : ∀ a m, Q a m → Q' a m) (j : ∀ x m, E x m → E' x m) : Wp r Q' E' := by
  cases r with
  | ok a m => exact i _ _ h
  | exc x m => exact j _ _ h
  | bad => exact h
theorem Wp.imp (h : Wp r Q E) (i : ∀ a m, Q a m → Q' a m) : Wp r Q' E := h.mono i fun _ _ e => e
theorem Wp.get (h : Wp r Q fun _ _ => False) : ∃ a m, r = .ok a m ∧ Q a m := by
  cases r with
  | ok a m => exact ⟨a, m, rfl, h⟩
  | exc x m => exact h.elim
  | bad => exact h.elim
theorem Wp.orBad {o : Option α} (h : ∃ a, o = some a ∧ Q a m) : Wp (orBad o m) Q E := by
  obtain ⟨a, rfl, h⟩ := h
  exact h
end
section
variable {nx nx' : Sg → Mem → Prop} {rt rt' : D → Mem → Prop} {xc xc' : Xc → Sg → Mem → Prop} {bk ct bk' ct' : Sg → Mem → Prop} {r : SR}
theorem WpS.mono (h : WpS r nx rt xc bk ct) (h1 : ∀ σ m, nx σ m → nx' σ m) (h2 : ∀ d m, rt d m → rt' d m) (h3 : ∀ x σ m, xc x σ m → xc' x σ m) (h4 : ∀ σ m, bk σ m → bk' σ m) (h5 : ∀ σ m, ct σ m → ct' σ m) : WpS r nx' rt' xc' bk' ct' := by
  cases r with
  | nx σ m => exact h1 _ _ h
  | ret d m => exact h2 _ _ h
  | exc x σ m => exact h3 _ _ _ h
  | brk σ m => exact h4 _ _ h
  | cnt σ m => exact h5 _ _ h
  | bad => exact h
theorem WpS.of {α : Type} {e : Res α} {σ : Sg} {f : α → Mem → SR} (h : Wp e (fun d m => WpS (f d m) nx rt xc bk ct) fun x m => xc x σ m) : WpS (SR.of e σ f) nx rt xc bk ct := by
  cases e <;> exact h
end
theorem br_f {k : Bool} {A B : Prop} (e : k = false) (h : B) : (k = true → A) ∧ (k = false → B) := ⟨fun z => (by rw [e] at z; cases z), fun _ => h⟩
theorem br_t {k : Bool} {A B : Prop} (e : k = true) (h : A) : (k = true → A) ∧ (k = false → B) := ⟨fun _ => h, fun z => by rw [e] at z; cases z⟩
/-! ### expressions -/
section
variable {C : Cl} {x : Option Xc} {σ : Sg} {m : Mem} {Q : D → Mem → Prop} {QS : List D → Mem → Prop} {QI : Walk → Mem → Prop} {E : Xc → Mem → Prop} {a b c e : Ex} {es : Exs} {d : D} {i : Nat}
theorem w_var (h : σ[i]? = some (some d)) (q : Q d m) : Wp (ev C x (.var i) σ m) Q E := by
  simp only [ev, h]
  exact q
theorem w_cst (q : Q d m) : Wp (ev C x (.cst d) σ m) Q E := q
theorem w_bin {o : BOp} (h : Wp (ev C x a σ m) (fun d m => Wp (ev C x b σ m) (fun e m => Wp (binD C o d e m) Q E) E) E) : Wp (ev C x (.bin o a b) σ m) Q E := by
  simp only [ev]
  exact Wp.bind (h.imp fun _ _ h => Wp.bind h)
theorem w_cmp {o : COp} (h : Wp (ev C x a σ m) (fun d m => Wp (ev C x b σ m) (fun e m => Wp (cmpD C o d e m) Q E) E) E) : Wp (ev C x (.cmp o a b) σ m) Q E := by
  simp only [ev]
  exact Wp.bind (h.imp fun _ _ h => Wp.bind h)
theorem w_chn {o o' : COp} (h : Wp (ev C x a σ m) (fun d m => Wp (ev C x b σ m) (fun e m => Wp (cmpD C o d e m) (fun r m => ∃ k, r = .bl k ∧ (k = true → Wp (ev C x c σ m) (fun g m => Wp (cmpD C o' e g m) Q E) E) ∧ (k = false → Q (.bl false) m)) E) E) E) : Wp (ev C x (.chn o o' a b c) σ m) Q E := by
  simp only [ev]
  refine Wp.bind (h.imp fun _ _ h => Wp.bind (h.imp fun _ _ h => Wp.bind (h.imp fun r m h => ?_)))
  obtain ⟨k, rfl, h1, h2⟩ := h
  cases k with
  | true => exact Wp.bind (h1 rfl)
  | false => exact h2 rfl
theorem w_isn {n : Bool} (h : Wp (ev C x a σ m) (fun d m => Q (.bl (D.isNon d != n)) m) E) : Wp (ev C x (.isn a n) σ m) Q E := by
  simp only [ev]
  exact Wp.bind h
theorem w_and (h : Wp (ev C x a σ m) (fun d m => ∃ k, d = .bl k ∧ (k = true → Wp (ev C x b σ m) Q E) ∧ (k = false → Q (.bl false) m)) E) : Wp (ev C x (.and a b) σ m) Q E := by
  simp only [ev]
  refine Wp.bind (h.imp fun d m h => ?_)
  obtain ⟨k, rfl, h1, h2⟩ := h
  cases k with
  | true => exact h1 rfl
  | false => exact h2 rfl
/-- both are tests that change nothing -/
theorem w_andB (h : Wp (ev C x a σ m) (fun d m => ∃ k k2, d = .bl k ∧ (k = true → Wp (ev C x b σ m) (fun e m' => e = .bl k2 ∧ m' = m) E) ∧ Q (.bl (k && k2)) m) E) : Wp (ev C x (.and a b) σ m) Q E := by
  refine w_and (h.imp fun d m h => ?_)
  obtain ⟨k, k2, rfl, h1, h2⟩ := h
  refine ⟨k, rfl, fun e => ?_, fun e => ?_⟩
  · subst e
    refine (h1 rfl).imp fun e m' h => ?_
    obtain ⟨rfl, rfl⟩ := h
    simpa using h2
  · subst e
    simpa using h2
theorem w_or (h : Wp (ev C x a σ m) (fun d m => ∃ k, d = .bl k ∧ (k = true → Q (.bl true) m) ∧ (k = false → Wp (ev C x b σ m) Q E)) E) : Wp (ev C x (.or a b) σ m) Q E := by
  simp only [ev]
  refine Wp.bind (h.imp fun d m h => ?_)
  obtain ⟨k, rfl, h1, h2⟩ := h
  cases k with
  | true => exact h1 rfl
  | false => exact h2 rfl
theorem w_not (h : Wp (ev C x a σ m) (fun d m => ∃ k, d = .bl k ∧ Q (.bl (!k)) m) E) : Wp (ev C x (.not a) σ m) Q E := by
  simp only [ev]
  refine Wp.bind (h.imp fun d m h => ?_)
  obtain ⟨k, rfl, h1⟩ := h
  exact h1
theorem w_ite (h : Wp (ev C x c σ m) (fun d m => ∃ k, d = .bl k ∧ (k = true → Wp (ev C x a σ m) Q E) ∧ (k = false → Wp (ev C x b σ m) Q E)) E) : Wp (ev C x (.ite c a b) σ m) Q E := by
  simp only [ev]
  refine Wp.bind (h.imp fun d m h => ?_)
  obtain ⟨k, rfl, h1, h2⟩ := h
  cases k with
  | true => exact h1 rfl
  | false => exact h2 rfl
theorem w_tupR {ds : List D} (h : ds.length ≤ LIM) (q : Q (.tup ds) m) : Wp (tupR ds m) Q E := by
  unfold tupR
  rw [if_pos h]
  exact q
theorem w_new1 {ds : List D} (h : ds.length ≤ LIM) (q : Q (.ref m.length) (m ++ [.lst ds])) : Wp (new1 ds m) Q E := by
  unfold new1
  rw [if_pos h]
  exact q
theorem w_tup (h : Wp (evs C x es σ m) (fun ds m => ds.length ≤ LIM ∧ Q (.tup ds) m) E) : Wp (ev C x (.tup es) σ m) Q E := by
  simp only [ev]
  exact Wp.bind (h.imp fun _ _ h => w_tupR h.1 h.2)
theorem w_lst (h : Wp (evs C x es σ m) (fun ds m => ds.length ≤ LIM ∧ Q (.ref m.length) (m ++ [.lst ds])) E) : Wp (ev C x (.lst es) σ m) Q E := by
  simp only [ev]
  exact Wp.bind (h.imp fun _ _ h => w_new1 h.1 h.2)
theorem w_sub (h : Wp (ev C x a σ m) (fun d m => Wp (ev C x b σ m) (fun e m => Wp (subD d e m) Q E) E) E) : Wp (ev C x (.sub a b) σ m) Q E := by
  simp only [ev]
  exact Wp.bind (h.imp fun _ _ h => Wp.bind h)
theorem w_slL (h : Wp (ev C x a σ m) (fun d m => Wp (ev C x b σ m) (fun e m => ∃ i, e = .int i ∧ Wp (slcD d (some i) none m) Q E) E) E) : Wp (ev C x (.slL a b) σ m) Q E := by
  simp only [ev]
  refine Wp.bind (h.imp fun _ _ h => Wp.bind (h.imp fun _ _ h => ?_))
  obtain ⟨i, rfl, h⟩ := h
  exact h
theorem w_slR (h : Wp (ev C x a σ m) (fun d m => Wp (ev C x b σ m) (fun e m => ∃ i, e = .int i ∧ Wp (slcD d none (some i) m) Q E) E) E) : Wp (ev C x (.slR a b) σ m) Q E := by
  simp only [ev]
  refine Wp.bind (h.imp fun _ _ h => Wp.bind (h.imp fun _ _ h => ?_))
  obtain ⟨i, rfl, h⟩ := h
  exact h
theorem w_slB (h : Wp (ev C x a σ m) (fun d m => Wp (ev C x b σ m) (fun e m => ∃ i, e = .int i ∧ Wp (ev C x c σ m) (fun g m => ∃ j, g = .int j ∧ Wp (slcD d (some i) (some j) m) Q E) E) E) E) : Wp (ev C x (.slB a b c) σ m) Q E := by
  simp only [ev]
  refine Wp.bind (h.imp fun _ _ h => Wp.bind (h.imp fun _ _ h => ?_))
  obtain ⟨i, rfl, h⟩ := h
  refine Wp.bind (h.imp fun _ _ h => ?_)
  obtain ⟨j, rfl, h⟩ := h
  exact h
theorem w_call {f : Nat} (h : Wp (evs C x es σ m) (fun ds m => Wp (C.call f ds m) Q E) E) : Wp (ev C x (.call f es) σ m) Q E := by
  simp only [ev]
  exact Wp.bind h
theorem w_newA {k : Nat} (hk : k = C.adrC) (h : Wp (evs C x es σ m) (fun ds m => (ds = [] ∧ Q (.adr (.tup [])) m) ∨ ∃ d, ds = [d] ∧ Q (.adr d) m) E) : Wp (ev C x (.new k es) σ m) Q E := by
  simp only [ev, hk, if_true]
  refine Wp.bind (h.imp fun ds m h => ?_)
  rcases h with ⟨rfl, h⟩ | ⟨d, rfl, h⟩ <;> exact h
theorem w_blt {k : Blt} (h : Wp (evs C x es σ m) (fun ds m => Wp (bltD C k ds m) Q E) E) : Wp (ev C x (.blt k es) σ m) Q E := by
  simp only [ev]
  exact Wp.bind h
theorem w_isi {ts : List Ty} (h : Wp (ev C x a σ m) (fun d m => ∃ t, tyD C m d = some t ∧ Q (.bl (ts.any (isDT C t))) m) E) : Wp (ev C x (.isi a ts) σ m) Q E := by
  simp only [ev]
  refine Wp.bind (h.imp fun d m h => ?_)
  obtain ⟨t, h1, h2⟩ := h
  rw [h1]
  exact h2
theorem w_met {k : Nat} (h : Wp (ev C x a σ m) (fun d m => ∃ r, rcv C k d m = some r ∧ Wp (evs C x es σ m) (fun ds m => Wp (metD C r d ds m) Q E) E) E) : Wp (ev C x (.met k a es) σ m) Q E := by
  simp only [ev]
  refine Wp.bind (h.imp fun d m h => ?_)
  obtain ⟨r, h1, h2⟩ := h
  rw [h1]
  exact Wp.bind h2
theorem w_fld {f : Nat} (h : Wp (ev C x a σ m) (fun d m => Wp (fldD C f d m) Q E) E) : Wp (ev C x (.fld f a) σ m) Q E := by
  simp only [ev]
  exact Wp.bind h
theorem w_lc {tg : Tg} {vs : List Nat} {it : It} (h : Wp (evIt C x it σ m) (fun w m => Wp (lcL m.length (lcF C x tg vs c e σ) w.st w.xs (m ++ [.lst []])) Q E) E) : Wp (ev C x (.lc tg vs it c e) σ m) Q E := by
  simp only [ev]
  exact Wp.bind h
theorem w_xfl {xe : Xc} {f : Nat} (h : (C.xfs xe.c).contains f = true) (h2 : xe.fs.lookup f = some d) (q : Q d m) : Wp (ev C (some xe) (.xfl f) σ m) Q E := by
  simp only [ev, h, if_true, h2]
  exact q
theorem w_xis {xe : Xc} {k : Nat} (h : C.isX xe.c = true) (q : Q (.bl (C.isA xe.c k)) m) : Wp (ev C (some xe) (.xis k) σ m) Q E := by
  simp only [ev, h, if_true]
  exact q
theorem ws_nil (q : QS [] m) : Wp (evs C x .nil σ m) QS E := q
theorem ws_cons (h : Wp (ev C x e σ m) (fun d m => Wp (evs C x es σ m) (fun ds m => QS (d :: ds) m) E) E) : Wp (evs C x (.cons false e es) σ m) QS E := by
  simp only [evs]
  exact Wp.bind (h.imp fun _ _ h => Wp.bind h)
theorem ws_star (h : Wp (ev C x e σ m) (fun d m => ∃ xs, items m d = some xs ∧ Wp (evs C x es σ m) (fun ds m => QS (xs ++ ds) m) E) E) : Wp (evs C x (.cons true e es) σ m) QS E := by
  simp only [evs]
  refine Wp.bind (h.imp fun d m h => ?_)
  obtain ⟨xs, h1, h2⟩ := h
  simp only [h1]
  exact Wp.bind h2
theorem wi_e (h : Wp (ev C x e σ m) (fun d m => Wp (walkOf d m) QI E) E) : Wp (evIt C x (.e e) σ m) QI E := by
  simp only [evIt]
  exact Wp.bind h
theorem wi_rng1 (h : Wp (ev C x a σ m) (fun d m => ∃ i, d = .int i ∧ Wp (rangeOf 0 i m) QI E) E) : Wp (evIt C x (.rng1 a) σ m) QI E := by
  simp only [evIt]
  refine Wp.bind (h.imp fun d m h => ?_)
  obtain ⟨i, rfl, h⟩ := h
  exact h
theorem wi_rng2 (h : Wp (ev C x a σ m) (fun d m => Wp (ev C x b σ m) (fun e m => ∃ i j, d = .int i ∧ e = .int j ∧ Wp (rangeOf i j m) QI E) E) E) : Wp (evIt C x (.rng2 a b) σ m) QI E := by
  simp only [evIt]
  refine Wp.bind (h.imp fun d m h => Wp.bind (h.imp fun e m h => ?_))
  obtain ⟨i, j, rfl, rfl, h⟩ := h
  exact h
/-! what is walked -/
theorem wk_tup {xs : List D} (q : QI ⟨xs, fun _ => true⟩ m) : Wp (walkOf (.tup xs) m) QI E := q
theorem wk_lst {xs : List D} (q : QI ⟨xs, fun _ => true⟩ m) : Wp (walkOf (.lst xs) m) QI E := q
theorem wk_ref {n : Nat} {xs : List D} (h : m[n]? = some (.lst xs)) (q : QI ⟨xs, still (.ref n) xs⟩ m) : Wp (walkOf (.ref n) m) QI E := by
  simp only [walkOf, items, h]
  exact q
theorem wk_range {lo hi : Int} (h1 : -4611686018427387904 ≤ lo) (h2 : hi < 4611686018427387904) (h3 : lo < 4611686018427387904) (h4 : -4611686018427387904 ≤ hi) (q : QI ⟨(List.range (hi - lo).toNat).map fun (i : Nat) => D.int (lo + (i : Int)), fun _ => true⟩ m) : Wp (rangeOf lo hi m) QI E := by
  unfold rangeOf
  rw [if_pos ⟨h1, h3, h4, h2⟩]
  exact q
end
/-! ### statements -/
section
variable {C : Cl} {x : Option Xc} {σ : Sg} {m : Mem} {nx : Sg → Mem → Prop} {rt : D → Mem → Prop} {xc : Xc → Sg → Mem → Prop} {bk ct : Sg → Mem → Prop} {a b c e : Ex} {es : Exs} {d : D} {i : Nat} {s : Sm} {ss s1 s2 : Sms}
theorem z_nil (h : nx σ m) : WpS (exms C x .nil σ m) nx rt xc bk ct := h
theorem z_cons (h : WpS (exm C x s σ m) (fun σ m => WpS (exms C x ss σ m) nx rt xc bk ct) rt xc bk ct) : WpS (exms C x (.cons s ss) σ m) nx rt xc bk ct := by
  simp only [exms]
  cases hh : exm C x s σ m <;> rw [hh] at h <;> exact h
/-- one statement, then the others from what is said in between -/
theorem z_seq (P : Sg → Mem → Prop) (h1 : WpS (exm C x s σ m) P rt xc bk ct) (h2 : ∀ σ m, P σ m → WpS (exms C x ss σ m) nx rt xc bk ct) : WpS (exms C x (.cons s ss) σ m) nx rt xc bk ct :=
  z_cons (h1.mono h2 (fun _ _ h => h) (fun _ _ _ h => h) (fun _ _ h => h) fun _ _ h => h)
theorem z_asg {tg : Tg} (h : Wp (ev C x e σ m) (fun d m => ∃ σ', asgT tg d σ = some σ' ∧ nx σ' m) fun y m => xc y σ m) : WpS (exm C x (.asg tg e) σ m) nx rt xc bk ct := by
  simp only [exm]
  refine WpS.of (h.imp fun d m h => ?_)
  obtain ⟨σ', h1, h2⟩ := h
  rw [h1]
  exact h2
theorem z_asgv (h : Wp (ev C x e σ m) (fun d m => nx (σ.set i (some d)) m) fun y m => xc y σ m) : WpS (exm C x (.asg (.v i) e) σ m) nx rt xc bk ct :=
  z_asg (h.imp fun d m h => ⟨_, rfl, h⟩)
theorem z_ret (h : Wp (ev C x e σ m) rt fun y m => xc y σ m) : WpS (exm C x (.ret e) σ m) nx rt xc bk ct := by
  simp only [exm]
  exact WpS.of h
theorem z_exp (h : Wp (ev C x e σ m) (fun _ m => nx σ m) fun y m => xc y σ m) : WpS (exm C x (.exp e) σ m) nx rt xc bk ct := by
  simp only [exm]
  exact WpS.of h
theorem z_pass (h : nx σ m) : WpS (exm C x .pass σ m) nx rt xc bk ct := h
theorem z_brk (h : bk σ m) : WpS (exm C x .brk σ m) nx rt xc bk ct := h
theorem z_cnt (h : ct σ m) : WpS (exm C x .cnt σ m) nx rt xc bk ct := h
theorem z_iff (h : Wp (ev C x c σ m) (fun d m => ∃ k, d = .bl k ∧ (k = true → WpS (exms C x s1 σ m) nx rt xc bk ct) ∧ (k = false → WpS (exms C x s2 σ m) nx rt xc bk ct)) fun y m => xc y σ m) : WpS (exm C x (.iff c s1 s2) σ m) nx rt xc bk ct := by
  simp only [exm]
  refine WpS.of (h.imp fun d m h => ?_)
  obtain ⟨k, rfl, h1, h2⟩ := h
  cases k with
  | true => exact h1 rfl
  | false => exact h2 rfl
theorem z_aug {o : BOp} (hd : σ[i]? = some (some d)) (h : Wp (ev C x e σ m) (fun a m => Wp (augD o d a m) (fun r m => nx (σ.set i (some r)) m) fun y m => xc y σ m) fun y m => xc y σ m) : WpS (exm C x (.aug o i e) σ m) nx rt xc bk ct := by
  simp only [exm, hd]
  refine WpS.of (Wp.orBad ⟨d, rfl, WpS.of (h.imp fun a m h => WpS.of h)⟩)
theorem z_sts (h : Wp (ev C x e σ m) (fun d m => Wp (ev C x a σ m) (fun o m => Wp (ev C x b σ m) (fun k m => ∃ n i xs j, o = .ref n ∧ k = .int i ∧ m[n]? = some (.lst xs) ∧ ixOf xs.length i = some j ∧ nx σ (m.set n (.lst (xs.set j d)))) fun y m => xc y σ m) fun y m => xc y σ m) fun y m => xc y σ m) : WpS (exm C x (.sts a b e) σ m) nx rt xc bk ct := by
  simp only [exm]
  refine WpS.of (h.imp fun d m h => WpS.of (h.imp fun o m h => WpS.of (h.imp fun k m h => ?_)))
  obtain ⟨n, i, xs, j, rfl, rfl, h1, h2, h3⟩ := h
  simp only [h1, h2]
  exact h3
theorem z_loop {tg : Tg} {it : It} {b : Sms} (h : Wp (evIt C x it σ m) (fun w m => WpS (forL (fun d σ m => match asgT tg d σ with
        | some σ' => exms C x b σ' m
        | none => .bad) w.st w.xs σ m) nx rt xc bk ct) fun y m => xc y σ m) : WpS (exm C x (.loop tg it b .nil) σ m) nx rt xc bk ct := by
  simp only [exm]
  exact WpS.of h
theorem for_inv {f : D → Sg → Mem → SR} {st : Mem → Bool} (I : List D → Sg → Mem → Prop) : ∀ (ds : List D) (σ : Sg) (m : Mem), I ds σ m →
    (∀ d ds σ m, I (d :: ds) σ m → st m = true ∧ WpS (f d σ m) (I ds) rt xc nx (I ds)) → (∀ σ m, I [] σ m → st m = true ∧ nx σ m) → WpS (forL f st ds σ m) nx rt xc bk ct
  | [], σ, m, h, _, k => by
    obtain ⟨h1, h2⟩ := k σ m h
    unfold forL
    rw [if_pos h1]
    exact h2
  | d :: ds, σ, m, h, g, k => by
    obtain ⟨h1, h2⟩ := g d ds σ m h
    unfold forL
    rw [if_pos h1]
    cases hh : f d σ m with
    | nx σ' m' => rw [hh] at h2; exact for_inv I ds σ' m' h2 g k
    | cnt σ' m' => rw [hh] at h2; exact for_inv I ds σ' m' h2 g k
    | brk σ' m' => rw [hh] at h2; exact h2
    | ret d m' => rw [hh] at h2; exact h2
    | exc y σ' m' => rw [hh] at h2; exact h2
    | bad => rw [hh] at h2; exact h2
theorem whl_inv {cd : Sg → Mem → Res D} {f : Sg → Mem → SR} (I : Nat → Sg → Mem → Prop) : ∀ (n : Nat) (σ : Sg) (m : Mem), (∃ k, k < n ∧ I k σ m) →
    (∀ k σ m, I k σ m → Wp (cd σ m) (fun d m => ∃ b, d = .bl b ∧ (b = true → WpS (f σ m) (fun σ m => ∃ j, j < k ∧ I j σ m) rt xc nx (fun σ m => ∃ j, j < k ∧ I j σ m)) ∧ (b = false → nx σ m)) fun y m => xc y σ m) → WpS (whlL cd f n σ m) nx rt xc bk ct
  | 0, σ, m, ⟨k, h, _⟩, _ => by omega
  | n + 1, σ, m, ⟨k, hk, h⟩, g => by
    have h1 := g k σ m h
    unfold whlL
    cases hh : cd σ m with
    | ok d m' =>
      rw [hh] at h1
      obtain ⟨b, rfl, h2, h3⟩ := h1
      cases b with
      | false => exact h3 rfl
      | true =>
        have h2 := h2 rfl
        dsimp only
        have go : ∀ σ m, (∃ j, j < k ∧ I j σ m) → WpS (whlL cd f n σ m) nx rt xc bk ct := fun σ m ⟨j, hj, h⟩ => whl_inv I n σ m ⟨j, by omega, h⟩ g
        cases hf : f σ m' with
        | nx σ' m' => rw [hf] at h2; exact go _ _ h2
        | cnt σ' m' => rw [hf] at h2; exact go _ _ h2
        | brk σ' m' => rw [hf] at h2; exact h2
        | ret d m' => rw [hf] at h2; exact h2
        | exc y σ' m' => rw [hf] at h2; exact h2
        | bad => rw [hf] at h2; exact h2
    | exc y m' => rw [hh] at h1; exact h1
    | bad => rw [hh] at h1; exact h1
theorem z_whl {b : Sms} (h : WpS (whlL (ev C x c) (exms C x b) C.fuel σ m) nx rt xc bk ct) : WpS (exm C x (.whl c b) σ m) nx rt xc bk ct := by
  simp only [exm]
  exact h
theorem z_raise {k : Nat} (h : Wp (evs C x es σ m) (fun ds m => ds.length = (C.xfs k).length ∧ ds.length ≤ 900 ∧ xc ⟨k, (C.xfs k).zip ds⟩ σ m) fun y m => xc y σ m) : WpS (exm C x (.raise k es) σ m) nx rt xc bk ct := by
  simp only [exm]
  refine WpS.of (h.imp fun ds m h => ?_)
  rw [if_pos ⟨h.1, h.2.1⟩]
  exact h.2.2
/-- try with one handler that has a name -/
theorem z_try1 {k j : Nat} {hb : Sms} (h : WpS (exms C x ss σ m) nx rt (fun e σ m => C.isX e.c = true ∧ (C.isA e.c k = true → j < σ.length ∧ WpS (exms C (some e) hb (σ.set j none) m) (fun σ m => nx (σ.set j none) m) rt (fun _ _ _ => False) (fun σ m => bk (σ.set j none) m) (fun σ m => ct (σ.set j none) m)) ∧ (C.isA e.c k = false → xc e σ m)) bk ct) :
    WpS (exm C x (.try_ ss (.cons k (some j) hb .nil)) σ m) nx rt xc bk ct := by
  simp only [exm]
  cases hh : exms C x ss σ m with
  | exc e σ' m' =>
    rw [hh] at h
    obtain ⟨h1, h2, h3⟩ := h
    simp only [exh, h1, if_true]
    cases hA : C.isA e.c k with
    | true =>
      obtain ⟨h4, h5⟩ := h2 hA
      have ok : okI (some j) σ' = true := by simp [okI, h4]
      simp only [ok, if_true, unsetO]
      cases hb' : exms C (some e) hb (σ'.set j none) m' <;> rw [hb'] at h5 <;> exact h5
    | false => exact h3 hA
  | nx σ' m' => rw [hh] at h; exact h
  | ret d m' => rw [hh] at h; exact h
  | brk σ' m' => rw [hh] at h; exact h
  | cnt σ' m' => rw [hh] at h; exact h
  | bad => rw [hh] at h; exact h
end
/-! ### comprehensions -/
section
variable {C : Cl} {x : Option Xc} {σ : Sg} {Q : D → Mem → Prop} {E : Xc → Mem → Prop}
/-- the list at n grows: I says what holds when ds are left and acc stands at n -/
theorem lc_inv {n : Nat} {f : D → Mem → Res (Option D)} {st : Mem → Bool} (I : List D → List D → Mem → Prop) : ∀ (ds acc : List D) (m : Mem), m[n]? = some (.lst acc) → I ds acc m →
    (∀ d ds acc m, m[n]? = some (.lst acc) → I (d :: ds) acc m → st m = true ∧ Wp (f d m) (fun o m' => m'[n]? = some (.lst acc) ∧ match o with
      | none => I ds acc m'
      | some y => acc.length < LIM ∧ I ds (acc ++ [y]) (m'.set n (.lst (acc ++ [y])))) fun _ _ => False) →
    (∀ acc m, m[n]? = some (.lst acc) → I [] acc m → st m = true ∧ Q (.ref n) m) → Wp (lcL n f st ds m) Q E
  | [], acc, m, hn, h, _, k => by
    obtain ⟨h1, h2⟩ := k acc m hn h
    unfold lcL
    rw [if_pos h1]
    exact h2
  | d :: ds, acc, m, hn, h, g, k => by
    obtain ⟨h1, h2⟩ := g d ds acc m hn h
    unfold lcL
    rw [if_pos h1]
    cases hh : f d m with
    | ok o m' =>
      rw [hh] at h2
      obtain ⟨h3, h4⟩ := h2
      cases o with
      | none => exact lc_inv I ds acc m' h3 h4 g k
      | some y =>
        dsimp only
        rw [h3]
        dsimp only
        rw [if_pos h4.1]
        refine lc_inv I ds (acc ++ [y]) _ ?_ h4.2 g k
        rw [List.getElem?_set_self (List.getElem?_eq_some_iff.mp h3).1]
    | exc y m' => rw [hh] at h2; exact h2.elim
    | bad => rw [hh] at h2; exact h2.elim
theorem w_lcF {tg : Tg} {vs : List Nat} {c e : Ex} {d : D} {m : Mem} {σ' : Sg} {P : Option D → Mem → Prop} (ha : asgT tg d (wipeD σ vs) = some σ') (h : Wp (ev C x c σ' m) (fun b m => ∃ k, b = .bl k ∧ (k = true → Wp (ev C x e σ' m) (fun d m => P (some d) m) E) ∧ (k = false → P none m)) E) : Wp (lcF C x tg vs c e σ d m) P E := by
  unfold lcF
  rw [ha]
  refine Wp.bind (h.imp fun b m h => ?_)
  obtain ⟨k, rfl, h1, h2⟩ := h
  cases k with
  | true => exact Wp.bind (h1 rfl)
  | false => exact h2 rfl
end
/-! ### calls -/
section
variable {C : Cl} {fis : Nat → Option Fi} {k f ar n : Nat} {body : Sms} {ds : List D} {m : Mem} {Q : D → Mem → Prop} {E : Xc → Mem → Prop}
theorem c_call (hf : fis f = some ⟨ar, n, body⟩) (hl : ds.length = ar) {σ : Sg} (hσ : startD n ds = σ) (h : WpS (exms (clK C fis k) none body σ m) (fun _ m => Q .non m) Q (fun y _ m => E y m) (fun _ _ => False) (fun _ _ => False)) : Wp (callK C fis (k + 1) f ds m) Q E := by
  simp only [callK, hf]
  unfold runF
  rw [if_pos hl]
  dsimp only
  rw [hσ]
  show Wp (resOf (exms (clK C fis k) none body σ m)) Q E
  cases hh : exms (clK C fis k) none body σ m <;> rw [hh] at h <;> exact h
theorem w_callN {o : Option Nat} (ho : o = some f) (h : Wp (C.call f ds m) Q fun _ _ => False) : Wp (callN C o ds m) Q E := by
  unfold callN callM
  rw [ho]
  dsimp only
  cases hh : C.call f ds m with
  | ok d m => rw [hh] at h; exact h
  | exc y m => rw [hh] at h; exact h.elim
  | bad => rw [hh] at h; exact h.elim
end
/-! ### stores that grow -/
/-- from m to m' nothing changes but at S -/
structure Gr (S : List Nat) (m m' : Mem) : Prop where
  len : m.length ≤ m'.length
  at_ : ∀ i, i < m.length → i ∉ S → m'[i]? = m[i]?
section
variable {S T : List Nat} {m m1 m2 : Mem}
theorem Gr.refl : Gr S m m := ⟨Nat.le_refl _, fun _ _ _ => rfl⟩
theorem Gr.trans (a : Gr S m m1) (b : Gr S m1 m2) : Gr S m m2 := ⟨Nat.le_trans a.len b.len, fun i h1 h2 => (b.at_ i (Nat.lt_of_lt_of_le h1 a.len) h2).trans (a.at_ i h1 h2)⟩
theorem Gr.sub (a : Gr S m m1) (h : ∀ i ∈ S, i ∈ T) : Gr T m m1 := ⟨a.len, fun i h1 h2 => a.at_ i h1 fun z => h2 (h i z)⟩
theorem Gr.any (a : Gr [] m m1) : Gr T m m1 := a.sub (by simp)
theorem Gr.push (o : MO) : Gr S m (m ++ [o]) := ⟨by simp, fun i h _ => by rw [List.getElem?_append_left h]⟩
theorem Gr.put {n : Nat} {o : MO} (h : n ∈ S) : Gr S m (m.set n o) := ⟨by simp, fun i _ h2 => by rw [List.getElem?_set_ne (fun e => h2 (by rw [← e]; exact h))]⟩
/-- what was made since m may be written -/
theorem Gr.new {n : Nat} {o : MO} (a : Gr S m m1) (h : m.length ≤ n) : Gr S m (m1.set n o) := ⟨by simpa using a.len, fun i h1 h2 => by rw [List.getElem?_set_ne (by omega)]; exact a.at_ i h1 h2⟩
theorem Gr.get (a : Gr S m m1) {i : Nat} {o : MO} (h : m[i]? = some o) (hi : i ∉ S) : m1[i]? = some o := by
  rw [a.at_ i (List.getElem?_eq_some_iff.mp h).1 hi]
  exact h
end
end Pw
set_option Elab.async false
set_option linter.all false
set_option maxRecDepth 100000
set_option autoImplicit false
/-! Operators of the interpreter, by wishes; data that stand without the store. -/
namespace Pw
open PySem (Str)
section
variable {C : Cl} {m : Mem} {Q : D → Mem → Prop} {E : Xc → Mem → Prop} {i j : Int}
theorem b_add (q : Q (.int (i + j)) m) : Wp (binD C .add (.int i) (.int j) m) Q E := q
theorem b_sub (q : Q (.int (i - j)) m) : Wp (binD C .sub (.int i) (.int j) m) Q E := q
theorem b_mulR (h : -18446744073709551616 < j ∧ j < 18446744073709551616) (q : Q (.int (i * j)) m) : Wp (binD C .mul (.int i) (.int j) m) Q E := by
  simp only [binD]
  rw [if_pos (.inr h)]
  exact q
theorem b_mulL (h : -18446744073709551616 < i ∧ i < 18446744073709551616) (q : Q (.int (i * j)) m) : Wp (binD C .mul (.int i) (.int j) m) Q E := by
  simp only [binD]
  rw [if_pos (.inl h)]
  exact q
theorem b_fdiv (h : 0 < j ∧ j < 1073741824) (q : Q (.int (i / j)) m) : Wp (binD C .fdiv (.int i) (.int j) m) Q E := by
  simp only [binD]
  rw [if_pos h]
  exact q
theorem b_mod (h : 0 < j) (q : Q (.int (i % j)) m) : Wp (binD C .mod (.int i) (.int j) m) Q E := by
  simp only [binD]
  rw [if_pos h]
  exact q
theorem b_pow (h : 0 ≤ j ∧ j ≤ 1000000 ∧ i.natAbs < 18446744073709551616) (q : Q (.int (i ^ j.toNat)) m) : Wp (binD C .pow (.int i) (.int j) m) Q E := by
  simp only [binD]
  rw [if_pos h]
  exact q
theorem b_tup {xs ys : List D} (h : xs.length + ys.length ≤ LIM) (q : Q (.tup (xs ++ ys)) m) : Wp (binD C .add (.tup xs) (.tup ys) m) Q E :=
  w_tupR (by simpa using h) q
theorem b_lst {n k : Nat} {xs ys : List D} (h1 : m[n]? = some (.lst xs)) (h2 : m[k]? = some (.lst ys)) (h : xs.length + ys.length ≤ LIM) (q : Q (.ref m.length) (m ++ [.lst (xs ++ ys)])) : Wp (binD C .add (.ref n) (.ref k) m) Q E := by
  simp only [binD, h1, h2]
  exact w_new1 (by simpa using h) q
theorem b_adr {f : Nat} {x : D} {ys : List D} (hf : C.mth C.adrC nAdd = some f) (h : Wp (C.call f [.adr x, .tup ys] m) Q fun _ _ => False) : Wp (binD C .add (.adr x) (.tup ys) m) Q E := w_callN hf h
theorem b_rad {f : Nat} {y : D} {xs : List D} (hf : C.mth C.adrC nRadd = some f) (h : Wp (C.call f [.adr y, .tup xs] m) Q fun _ _ => False) : Wp (binD C .add (.tup xs) (.adr y) m) Q E := w_callN hf h
/-! comparisons -/
theorem c_lt (q : Q (.bl (decide (i < j))) m) : Wp (cmpD C .lt (.int i) (.int j) m) Q E := q
theorem c_le (q : Q (.bl (decide (i ≤ j))) m) : Wp (cmpD C .le (.int i) (.int j) m) Q E := q
theorem c_gt (q : Q (.bl (decide (j < i))) m) : Wp (cmpD C .gt (.int i) (.int j) m) Q E := q
theorem c_ge (q : Q (.bl (decide (j ≤ i))) m) : Wp (cmpD C .ge (.int i) (.int j) m) Q E := q
theorem c_eqI (q : Q (.bl (i == j)) m) : Wp (cmpD C .eq (.int i) (.int j) m) Q E := q
theorem c_neI (q : Q (.bl (!(i == j))) m) : Wp (cmpD C .ne (.int i) (.int j) m) Q E := q
theorem c_eqS {s t : Str} (q : Q (.bl (s == t)) m) : Wp (cmpD C .eq (.str s) (.str t) m) Q E := q
theorem c_neS {s t : Str} (q : Q (.bl (!(s == t))) m) : Wp (cmpD C .ne (.str s) (.str t) m) Q E := q
theorem eqD_res {d e x y : D} (h1 : resolve m 64 d = some x) (h2 : resolve m 64 e = some y) : eqD C d e m = .ok (.bl (D.eqv x y)) m := by
  unfold eqD
  split
  · rw [show resolve m 64 (.adr _) = none from rfl] at h1; cases h1
  · cases h1; cases h2; rfl
  · cases h1; cases h2; rfl
  · rw [h1, h2]
theorem c_eqR {d e x y : D} (h1 : resolve m 64 d = some x) (h2 : resolve m 64 e = some y) (q : Q (.bl (D.eqv x y)) m) : Wp (cmpD C .eq d e m) Q E := by
  refine Wp.eq ?_ q
  show eqT C d e m = _
  unfold eqT
  split
  · rw [show resolve m 64 (.adr _) = none from rfl] at h1; cases h1
  · exact eqD_res h1 h2
theorem c_neR {d e x y : D} (h1 : resolve m 64 d = some x) (h2 : resolve m 64 e = some y) (q : Q (.bl (!D.eqv x y)) m) : Wp (cmpD C .ne d e m) Q E := by
  refine Wp.eq ?_ q
  show notR (eqD C d e m) = _
  rw [eqD_res h1 h2]
  rfl
theorem ordD_res {o : COp} {d e x y : D} (h1 : resolve m 64 d = some x) (h2 : resolve m 64 e = some y) (ha : D.alk x y = true) (hn : D.isNon x = false) (ho : o = .lt ∨ o = .le ∨ o = .gt ∨ o = .ge) (hi : ∀ i j, ¬(d = .int i ∧ e = .int j)) : ordD C o d e m = .ok (.bl (match o with | .lt => D.lt x y | .le => !D.lt y x | .gt => D.lt y x | _ => !D.lt x y)) m := by
  have g : ordG o d e m = .ok (.bl (match o with | .lt => D.lt x y | .le => !D.lt y x | .gt => D.lt y x | _ => !D.lt x y)) m := by
    unfold ordG
    rw [h1, h2]
    dsimp only
    rw [ha, hn]
    rcases ho with rfl | rfl | rfl | rfl <;> rfl
  unfold ordD
  split
  · exact absurd ⟨rfl, rfl⟩ (hi _ _)
  · rw [show resolve m 64 (.adr _) = none from rfl] at h1; cases h1
  · exact g
/-- addresses -/
theorem c_adr {o : COp} {k f : Nat} {x y : D} (ho : (o = .eq ∧ k = nEq) ∨ (o = .lt ∧ k = nLt) ∨ (o = .le ∧ k = nLe) ∨ (o = .gt ∧ k = nGt) ∨ (o = .ge ∧ k = nGe)) (hf : C.mth C.adrC k = some f) (h : Wp (C.call f [.adr x, .adr y] m) Q fun _ _ => False) : Wp (cmpD C o (.adr x) (.adr y) m) Q E := by
  rcases ho with ⟨rfl, rfl⟩ | ⟨rfl, rfl⟩ | ⟨rfl, rfl⟩ | ⟨rfl, rfl⟩ | ⟨rfl, rfl⟩ <;> exact w_callN hf h
theorem c_adrT {f : Nat} {x : D} {ys : List D} (hf : C.mth C.adrC nEq = some f) (h : Wp (C.call f [.adr x, .tup ys] m) Q fun _ _ => False) : Wp (cmpD C .eq (.adr x) (.tup ys) m) Q E := w_callN hf h
theorem c_adrN {f : Nat} {x y : D} (hf : C.mth C.adrC nEq = some f) (h : Wp (C.call f [.adr x, .adr y] m) (fun d m => ∃ k, d = .bl k ∧ Q (.bl (!k)) m) fun _ _ => False) : Wp (cmpD C .ne (.adr x) (.adr y) m) Q E := by
  show Wp (notR (callN C (C.mth C.adrC nEq) [.adr x, .adr y] m)) Q E
  refine Wp.bind (w_callN hf (h.imp fun d m h => ?_))
  obtain ⟨k, rfl, h⟩ := h
  exact h
/-! items, slices, built-ins -/
theorem x_tup {xs : List D} {d : D} (h : (ixOf xs.length i).bind (fun k => xs[k]?) = some d) (q : Q d m) : Wp (subD (.tup xs) (.int i) m) Q E := Wp.orBad ⟨d, h, q⟩
theorem x_lst {n : Nat} {xs : List D} {d : D} (hn : m[n]? = some (.lst xs)) (h : (ixOf xs.length i).bind (fun k => xs[k]?) = some d) (q : Q d m) : Wp (subD (.ref n) (.int i) m) Q E := by
  simp only [subD, hn]
  exact Wp.orBad ⟨d, h, q⟩
theorem ix_nat {α : Type} {xs : List α} {k : Nat} {d : α} (h : xs[k]? = some d) : (ixOf xs.length (k : Int)).bind (fun k => xs[k]?) = some d := by
  have hl := (List.getElem?_eq_some_iff.mp h).1
  unfold ixOf
  rw [if_pos (by omega), if_pos (by omega)]
  simpa using h
theorem ix_int {α : Type} {xs : List α} {i : Int} {d : α} (h0 : 0 ≤ i) (h : xs[i.toNat]? = some d) : (ixOf xs.length i).bind (fun k => xs[k]?) = some d := by
  have := ix_nat h
  rw [show ((i.toNat : Nat) : Int) = i by omega] at this
  exact this
theorem n_tup {xs : List D} (q : Q (.int xs.length) m) : Wp (bltD C .len [.tup xs] m) Q E := q
theorem n_lst {n : Nat} {xs : List D} (hn : m[n]? = some (.lst xs)) (q : Q (.int xs.length) m) : Wp (bltD C .len [.ref n] m) Q E := by
  simp only [bltD, lenD, hn]
  exact q
theorem n_frz {xs : List D} (q : Q (.int xs.length) m) : Wp (bltD C .len [.lst xs] m) Q E := q
theorem n_adr {f : Nat} {x : D} (hf : C.mth C.adrC nLen = some f) (h : Wp (C.call f [.adr x] m) (fun d m => ∃ i, d = .int i ∧ 0 ≤ i ∧ i ≤ LIM ∧ Q (.int i) m) fun _ _ => False) : Wp (bltD C .len [.adr x] m) Q E := by
  simp only [bltD]
  refine Wp.bind (w_callN hf (h.imp fun d m h => ?_))
  obtain ⟨i, rfl, h1, h2, h3⟩ := h
  dsimp only
  rw [if_pos ⟨h1, h2⟩]
  exact h3
theorem n_list {d : D} {xs : List D} (h : items m d = some xs) (hl : xs.length ≤ LIM) (q : Q (.ref m.length) (m ++ [.lst xs])) : Wp (bltD C .list [d] m) Q E := by
  unfold bltD
  simp only [h]
  exact w_new1 hl q
theorem n_tuple {d : D} {xs : List D} (h : items m d = some xs) (hl : xs.length ≤ LIM) (q : Q (.tup xs) m) : Wp (bltD C .tuple [d] m) Q E := by
  unfold bltD
  simp only [h]
  exact w_tupR hl q
theorem n_int (q : Q (.int i) m) : Wp (bltD C .int [.int i] m) Q E := q
theorem n_bool {b : Bool} (q : Q (.int (if b then 1 else 0)) m) : Wp (bltD C .int [.bl b] m) Q E := q
theorem n_max (q : Q (.int (if j > i then j else i)) m) : Wp (bltD C .max [.int i, .int j] m) Q E := q
theorem n_min (q : Q (.int (if j < i then j else i)) m) : Wp (bltD C .min [.int i, .int j] m) Q E := q
theorem l_tup {xs : List D} {lo hi : Option Int} (q : Q (.tup (cut xs lo hi)) m) : Wp (slcD (.tup xs) lo hi m) Q E := q
theorem l_lst {n : Nat} {xs : List D} {lo hi : Option Int} (hn : m[n]? = some (.lst xs)) (hl : (cut xs lo hi).length ≤ LIM) (q : Q (.ref m.length) (m ++ [.lst (cut xs lo hi)])) : Wp (slcD (.ref n) lo hi m) Q E := by
  simp only [slcD, hn]
  exact w_new1 hl q
theorem f_adr {x : D} (q : Q x m) : Wp (fldD C nSteps (.adr x) m) Q E := by
  simp only [fldD, if_true]
  exact q
end
/-! sequences of any kind -/
theorem x_any {m : Mem} {Q : D → Mem → Prop} {E : Xc → Mem → Prop} {s d : D} {xs : List D} {i : Int} (hs : items m s = some xs) (h : (ixOf xs.length i).bind (fun k => xs[k]?) = some d) (q : Q d m) : Wp (subD s (.int i) m) Q E := by
  cases s with
  | tup ys => cases hs; exact x_tup h q
  | lst ys => cases hs; exact Wp.orBad ⟨d, h, q⟩
  | ref n =>
    simp only [items] at hs
    cases hm : m[n]? with
    | none => rw [hm] at hs; cases hs
    | some o =>
      rw [hm] at hs
      cases o with
      | lst ys => cases hs; exact x_lst hm h q
      | _ => cases hs
  | _ => cases hs
theorem n_any {C : Cl} {m : Mem} {Q : D → Mem → Prop} {E : Xc → Mem → Prop} {s : D} {xs : List D} (hs : items m s = some xs) (q : Q (.int xs.length) m) : Wp (bltD C .len [s] m) Q E := by
  cases s with
  | tup ys => cases hs; exact q
  | lst ys => cases hs; exact q
  | ref n =>
    simp only [items] at hs
    cases hm : m[n]? with
    | none => rw [hm] at hs; cases hs
    | some o =>
      rw [hm] at hs
      cases o with
      | lst ys => cases hs; exact n_lst hm q
      | _ => cases hs
  | _ => cases hs
theorem ty_any {C : Cl} {m : Mem} {s : D} {xs : List D} (hs : items m s = some xs) : (∃ ys, s = .tup ys ∧ tyD C m s = some .tuple) ∨ ((∀ ys, s ≠ .tup ys) ∧ tyD C m s = some .list) := by
  cases s with
  | tup ys => exact .inl ⟨ys, rfl, rfl⟩
  | lst ys => exact .inr ⟨fun _ h => (by cases h), rfl⟩
  | ref n =>
    simp only [items] at hs
    cases hm : m[n]? with
    | none => rw [hm] at hs; cases hs
    | some o =>
      rw [hm] at hs
      cases o with
      | lst ys => exact .inr ⟨fun _ h => (by cases h), by simp only [tyD, hm]⟩
      | _ => cases hs
  | _ => cases hs
theorem items_gr {m m' : Mem} (g : Gr [] m m') {s : D} {xs : List D} (hs : items m s = some xs) : items m' s = some xs := by
  cases s with
  | ref n =>
    simp only [items] at hs ⊢
    cases hm : m[n]? with
    | none => rw [hm] at hs; cases hs
    | some o =>
      rw [hm] at hs
      cases o with
      | lst ys => rw [g.get hm (by simp)]; exact hs
      | _ => cases hs
  | _ => exact hs
/-! ### data that stand without the store -/
mutual
/-- how deep a tree is -/
def D.dep : D → Nat
  | .tup xs => D.deps xs + 1
  | .lst xs => D.deps xs + 1
  | _ => 1
def D.deps : List D → Nat
  | [] => 0
  | x :: xs => max (D.dep x) (D.deps xs)
end
mutual
theorem resolve_pl {m : Mem} : ∀ (d : D) (n : Nat), d.pl = true → d.dep ≤ n → resolve m n d = some d
  | d, 0, _, h => by cases d <;> simp [D.dep] at h
  | .non, _ + 1, _, _ => rfl
  | .bl _, _ + 1, _, _ => rfl
  | .int _, _ + 1, _, _ => rfl
  | .str _, _ + 1, _, _ => rfl
  | .tup xs, n + 1, h, hd => by
    simp only [D.dep] at hd
    simp only [D.pl] at h
    simp only [resolve, resolve_pls xs n h (by omega), Option.map_some]
  | .lst xs, n + 1, h, hd => by
    simp only [D.dep] at hd
    simp only [D.pl] at h
    simp only [resolve, resolve_pls xs n h (by omega), Option.map_some]
  | .ref _, _ + 1, h, _ => by simp [D.pl] at h
  | .adr _, _ + 1, h, _ => by simp [D.pl] at h
  | .fn _, _ + 1, h, _ => by simp [D.pl] at h
theorem resolve_pls {m : Mem} : ∀ (ds : List D) (n : Nat), D.pls ds = true → D.deps ds ≤ n → ds.mapM (resolve m n) = some ds
  | [], _, _, _ => rfl
  | d :: ds, n, h, hd => by
    simp only [D.pls, Bool.and_eq_true] at h
    simp only [D.deps] at hd
    rw [List.mapM_cons, resolve_pl d n h.1 (by omega), resolve_pls ds n h.2 (by omega)]
    rfl
end
mutual
theorem eqv_refl : ∀ d : D, d.pl = true → D.eqv d d = true
  | .non, _ => rfl
  | .bl _, _ => by simp [D.eqv]
  | .int _, _ => by simp [D.eqv]
  | .str _, _ => by simp [D.eqv]
  | .tup xs, h => by simp only [D.eqv]; exact eqvs_refl xs (by simpa [D.pl] using h)
  | .lst xs, h => by simp only [D.eqv]; exact eqvs_refl xs (by simpa [D.pl] using h)
  | .ref _, h => by simp [D.pl] at h
  | .adr _, h => by simp [D.pl] at h
  | .fn _, h => by simp [D.pl] at h
theorem eqvs_refl : ∀ ds : List D, D.pls ds = true → D.eqvs ds ds = true
  | [], _ => rfl
  | d :: ds, h => by
    simp only [D.pls, Bool.and_eq_true] at h
    simp only [D.eqvs, eqv_refl d h.1, eqvs_refl ds h.2, Bool.and_self]
end
/-- the store has grown: what is read off it stays -/
theorem resolve_gr {m m' : Mem} (g : ∀ (i : Nat) xs, m[i]? = some (.lst xs) → m'[i]? = some (.lst xs)) : ∀ (n : Nat) (d x : D), resolve m n d = some x → resolve m' n d = some x
  | 0, _, _, h => by simp [resolve] at h
  | n + 1, d, x, h => by
    have many : ∀ (ds xs : List D), ds.mapM (resolve m n) = some xs → ds.mapM (resolve m' n) = some xs := by
      intro ds
      induction ds with
      | nil => intro xs h; exact h
      | cons d ds ih =>
        intro xs h
        rw [List.mapM_cons] at h ⊢
        cases hx : resolve m n d with
        | none => rw [hx] at h; cases h
        | some y =>
          rw [hx] at h
          cases hr : ds.mapM (resolve m n) with
          | none => rw [hr] at h; cases h
          | some zs =>
            rw [hr] at h
            rw [resolve_gr g n d y hx, ih zs hr]
            exact h
    cases d with
    | tup ds =>
      simp only [resolve, Option.map_eq_some_iff] at h ⊢
      obtain ⟨xs, h1, h2⟩ := h
      exact ⟨xs, many ds xs h1, h2⟩
    | lst ds =>
      simp only [resolve, Option.map_eq_some_iff] at h ⊢
      obtain ⟨xs, h1, h2⟩ := h
      exact ⟨xs, many ds xs h1, h2⟩
    | ref k =>
      simp only [resolve] at h ⊢
      cases hm : m[k]? with
      | none => rw [hm] at h; cases h
      | some o =>
        rw [hm] at h
        cases o with
        | lst ys =>
          rw [g k ys hm]
          simp only [Option.map_eq_some_iff] at h ⊢
          obtain ⟨xs, h1, h2⟩ := h
          exact ⟨xs, many ys xs h1, h2⟩
        | _ => cases h
    | _ => exact h
theorem Gr.res {m m' : Mem} (g : Gr [] m m') {n : Nat} {d x : D} (h : resolve m n d = some x) : resolve m' n d = some x := resolve_gr (fun i xs e => g.get e (by simp)) n d x h
theorem resolve_pl' {m : Mem} : ∀ (n : Nat) (d x : D), resolve m n d = some x → x.pl = true ∧ x.dep ≤ n
  | 0, _, _, h => by simp [resolve] at h
  | n + 1, d, x, h => by
    have many : ∀ (ds xs : List D), ds.mapM (resolve m n) = some xs → D.pls xs = true ∧ D.deps xs ≤ n := by
      intro ds
      induction ds with
      | nil => intro xs h; simp at h; subst h; exact ⟨rfl, by simp [D.deps]⟩
      | cons d ds ih =>
        intro xs h
        rw [List.mapM_cons] at h
        cases hx : resolve m n d with
        | none => rw [hx] at h; cases h
        | some y =>
          rw [hx] at h
          cases hr : ds.mapM (resolve m n) with
          | none => rw [hr] at h; cases h
          | some zs =>
            rw [hr] at h
            cases h
            obtain ⟨a, b⟩ := resolve_pl' n d y hx
            obtain ⟨a2, b2⟩ := ih zs hr
            refine ⟨by simp only [D.pls, a, a2, Bool.and_self], ?_⟩
            simp only [D.deps]
            omega
    cases d with
    | non => cases h; exact ⟨rfl, by simp [D.dep]⟩
    | bl _ => cases h; exact ⟨rfl, by simp [D.dep]⟩
    | int _ => cases h; exact ⟨rfl, by simp [D.dep]⟩
    | str _ => cases h; exact ⟨rfl, by simp [D.dep]⟩
    | adr _ => cases h
    | fn _ => cases h
    | tup ds =>
      simp only [resolve, Option.map_eq_some_iff] at h
      obtain ⟨xs, h1, rfl⟩ := h
      obtain ⟨a, b⟩ := many ds xs h1
      exact ⟨by simpa [D.pl] using a, by simp only [D.dep]; omega⟩
    | lst ds =>
      simp only [resolve, Option.map_eq_some_iff] at h
      obtain ⟨xs, h1, rfl⟩ := h
      obtain ⟨a, b⟩ := many ds xs h1
      exact ⟨by simpa [D.pl] using a, by simp only [D.dep]; omega⟩
    | ref k =>
      simp only [resolve] at h
      cases hm : m[k]? with
      | none => rw [hm] at h; cases h
      | some o =>
        rw [hm] at h
        cases o with
        | lst ds =>
          simp only [Option.map_eq_some_iff] at h
          obtain ⟨xs, h1, rfl⟩ := h
          obtain ⟨a, b⟩ := many ds xs h1
          exact ⟨by simpa [D.pl] using a, by simp only [D.dep]; omega⟩
        | _ => cases h
theorem res_list {m : Mem} {r n : Nat} {ds : List D} (h : m[r]? = some (.lst ds)) (hp : D.pls ds = true) (hd : D.deps ds ≤ n) : resolve m (n + 1) (.ref r) = some (.lst ds) := by
  simp only [resolve, h, resolve_pls ds n hp hd, Option.map_some]
mutual
/-- no sequence is longer than a million -/
def D.len4 : D → Prop
  | .tup xs => xs.length ≤ 1000000 ∧ D.len4s xs
  | .lst xs => xs.length ≤ 1000000 ∧ D.len4s xs
  | _ => True
def D.len4s : List D → Prop
  | [] => True
  | x :: xs => D.len4 x ∧ D.len4s xs
end
theorem D.len4s_at : ∀ {xs : List D}, D.len4s xs → ∀ {j : Nat} {y : D}, xs[j]? = some y → D.len4 y
  | [], _, _, _, h => by simp at h
  | _ :: _, h, 0, _, e => by simp at e; subst e; exact h.1
  | _ :: _, h, j + 1, _, e => D.len4s_at h.2 (by simpa using e)
/-- what a value is told by: the kinds of results -/
theorem res_tup {m : Mem} {n : Nat} {d : D} {xs : List D} (h : resolve m (n + 1) d = some (.tup xs)) : ∃ ds, d = .tup ds ∧ ds.mapM (resolve m n) = some xs := by
  cases d with
  | tup ds => simp only [resolve, Option.map_eq_some_iff, D.tup.injEq] at h; obtain ⟨_, h1, rfl⟩ := h; exact ⟨ds, rfl, h1⟩
  | lst ds => simp only [resolve, Option.map_eq_some_iff] at h; obtain ⟨_, _, h⟩ := h; cases h
  | ref k =>
    simp only [resolve] at h
    cases hm : m[k]? with
    | none => rw [hm] at h; cases h
    | some o =>
      rw [hm] at h
      cases o with
      | lst ys => simp only [Option.map_eq_some_iff] at h; obtain ⟨_, _, h⟩ := h; cases h
      | _ => cases h
  | _ => cases h
theorem res_lst {m : Mem} {n : Nat} {d : D} {xs : List D} (h : resolve m (n + 1) d = some (.lst xs)) : ∃ ds, items m d = some ds ∧ (∀ ys, d ≠ .tup ys) ∧ ds.mapM (resolve m n) = some xs := by
  cases d with
  | tup ds => simp only [resolve, Option.map_eq_some_iff] at h; obtain ⟨_, _, h⟩ := h; cases h
  | lst ds => simp only [resolve, Option.map_eq_some_iff, D.lst.injEq] at h; obtain ⟨_, h1, rfl⟩ := h; exact ⟨ds, rfl, fun _ h => (by cases h), h1⟩
  | ref k =>
    simp only [resolve] at h
    cases hm : m[k]? with
    | none => rw [hm] at h; cases h
    | some o =>
      rw [hm] at h
      cases o with
      | lst ys => simp only [Option.map_eq_some_iff, D.lst.injEq] at h; obtain ⟨_, h1, rfl⟩ := h; exact ⟨ys, by simp only [items, hm], fun _ h => (by cases h), h1⟩
      | _ => cases h
  | _ => cases h
theorem res_sc {m : Mem} {n : Nat} {d x : D} (h : resolve m (n + 1) d = some x) (h1 : ∀ xs, x ≠ .tup xs) (h2 : ∀ xs, x ≠ .lst xs) : d = x := by
  cases d with
  | tup ds => simp only [resolve, Option.map_eq_some_iff] at h; obtain ⟨_, _, h⟩ := h; exact absurd h.symm (h1 _)
  | lst ds => simp only [resolve, Option.map_eq_some_iff] at h; obtain ⟨_, _, h⟩ := h; exact absurd h.symm (h2 _)
  | ref k =>
    simp only [resolve] at h
    cases hm : m[k]? with
    | none => rw [hm] at h; cases h
    | some o =>
      rw [hm] at h
      cases o with
      | lst ys => simp only [Option.map_eq_some_iff] at h; obtain ⟨_, _, h⟩ := h; exact absurd h.symm (h2 _)
      | _ => cases h
  | adr _ => cases h
  | fn _ => cases h
  | _ => cases h; rfl
end Pw
set_option Elab.async false
set_option linter.all false
set_option maxRecDepth 100000
set_option autoImplicit false
set_option maxHeartbeats 1000000
/-! The laws' common helpers: _law_mix, _law_next, _law_alike. -/
namespace Pw
open PySem (Str)
local macro_rules | `(tactic| isplit) => `(tactic| first
  | with_reducible refine z_cons ?_ | with_reducible refine z_nil ?_ | with_reducible refine z_asgv ?_ | with_reducible refine z_asg ?_ | with_reducible refine z_ret ?_ | with_reducible refine z_exp ?_ | with_reducible refine z_iff ?_
  | with_reducible refine z_sts ?_ | with_reducible refine z_loop ?_ | with_reducible refine z_whl ?_ | with_reducible refine z_raise ?_ | with_reducible refine z_try1 ?_ | with_reducible refine z_pass ?_ | with_reducible refine z_brk ?_ | with_reducible refine z_cnt ?_
  | ((with_reducible refine z_aug (d := ?d) ?h ?_); (case h => exact rfl))
  | ((with_reducible refine w_var (d := ?d) ?h ?_); (case h => exact rfl)) | with_reducible refine w_cst ?_ | with_reducible refine ws_cons ?_ | with_reducible refine ws_nil ?_ | with_reducible refine ws_star ?_
  | with_reducible refine w_bin ?_ | with_reducible refine w_cmp ?_ | with_reducible refine w_chn ?_ | with_reducible refine w_isn ?_ | with_reducible refine w_and ?_ | with_reducible refine w_or ?_ | with_reducible refine w_not ?_ | with_reducible refine w_ite ?_
  | with_reducible refine w_tup ?_ | with_reducible refine w_lst ?_ | with_reducible refine w_sub ?_ | with_reducible refine w_slL ?_ | with_reducible refine w_slR ?_ | with_reducible refine w_slB ?_ | with_reducible refine w_call ?_
  | with_reducible refine w_blt ?_ | with_reducible refine w_isi ?_ | with_reducible refine w_met ?_ | with_reducible refine w_fld ?_ | with_reducible refine w_lc ?_
  | with_reducible refine wi_e ?_ | with_reducible refine wi_rng1 ?_ | with_reducible refine wi_rng2 ?_
  | with_reducible refine b_add ?_ | with_reducible refine b_sub ?_ | with_reducible refine c_lt ?_ | with_reducible refine c_le ?_ | with_reducible refine c_gt ?_ | with_reducible refine c_ge ?_ | with_reducible refine c_eqI ?_ | with_reducible refine c_neI ?_ | with_reducible refine c_eqS ?_ | with_reducible refine c_neS ?_
  | with_reducible refine n_int ?_ | with_reducible refine n_max ?_ | with_reducible refine n_min ?_ | with_reducible refine n_tup ?_ | with_reducible refine n_frz ?_ | with_reducible refine f_adr ?_ | with_reducible refine l_tup ?_ | with_reducible refine wk_tup ?_ | with_reducible refine wk_lst ?_
  | ((with_reducible refine And.intro ?ha ?_); (case ha => exact of_decide_eq_true rfl)))
local macro_rules | `(tactic| one_sign) => `(tactic| repeat isplit)
structure GBase (fis : Nat → Option Fi) : Prop where
  mix : fis i_l_mix = some f_l_mix
  next : fis i_l_next = some f_l_next
  alike : fis i_l_alike = some f_l_alike
/-- a source of draws stands at n, its cells at c -/
structure Hh (m : Mem) (n c : Nat) : Prop where
  ne : n ≠ c
  ex : ∃ (s i : Int) (cells : List Int), m[n]? = some (.lst [.int s, .ref c, .int i]) ∧ m[c]? = some (.lst (cells.map D.int)) ∧ cells.length ≤ 63
theorem Hh.gr {m m' : Mem} {n c : Nat} {S : List Nat} (h : Hh m n c) (g : Gr S m m') (h1 : n ∉ S) (h2 : c ∉ S) : Hh m' n c := by
  obtain ⟨s, i, cells, e1, e2, l⟩ := h.ex
  exact ⟨h.ne, s, i, cells, g.get e1 h1, g.get e2 h2, l⟩
theorem Hh.lt {m : Mem} {n c : Nat} (h : Hh m n c) : n < m.length ∧ c < m.length := by
  obtain ⟨s, i, cells, e1, e2, l⟩ := h.ex
  exact ⟨(List.getElem?_eq_some_iff.mp e1).1, (List.getElem?_eq_some_iff.mp e2).1⟩
section
variable {C : Cl} {fis : Nat → Option Fi} {k : Nat} {m : Mem} {Q : D → Mem → Prop} {E : Xc → Mem → Prop}
theorem mix_wp (g : GBase fis) {ns : List Int} (hl : ns.length ≤ 63) {s0 : Int} (q : ∀ m', Hh m' (m.length + 1) m.length → Gr [] m m' → m'.length = m.length + 2 → Q (.ref (m.length + 1)) m') : Wp (callK C fis (k + 1) i_l_mix [.lst (ns.map D.int), .int s0] m) Q E := by
  refine c_call g.mix rfl rfl ?_
  unfold a_l_mix
  one_sign
  refine for_inv (fun ds σ m' => m' = m ∧ (∃ l, ds = List.map D.int l) ∧ ∃ s o, σ = [some (.lst (ns.map D.int)), some (.int s0), some (.int s), o]) _ _ _ ⟨rfl, ⟨ns, rfl⟩, s0, none, rfl⟩ ?_ ?_
  · rintro d ds σ m' ⟨rfl, ⟨l, hd⟩, s, o, rfl⟩
    refine ⟨rfl, ?_⟩
    cases l with
    | nil => cases hd
    | cons n l =>
      simp only [List.map_cons, List.cons.injEq] at hd
      obtain ⟨rfl, rfl⟩ := hd
      show WpS (exms _ _ _ [some _, some _, some _, some (D.int n)] m') _ _ _ _ _
      one_sign
      refine b_mulR (by decide) ?_
      one_sign
      refine b_mod (by decide) ?_
      one_sign
      refine b_mod (by decide) ?_
      one_sign
      exact ⟨rfl, ⟨l, rfl⟩, _, _, rfl⟩
  · rintro σ m' ⟨rfl, _, s, o, rfl⟩
    refine ⟨rfl, ?_⟩
    one_sign
    refine n_list (xs := ns.map D.int) rfl (by rw [List.length_map]; unfold LIM; omega) ?_
    one_sign
    have e : (m' ++ [MO.lst (ns.map D.int)]).length = m'.length + 1 := by simp
    rw [e]
    refine q _ ⟨by omega, s, 0, ns, ?_, ?_, hl⟩ ((Gr.push _).trans (Gr.push _)) (by simp)
    · rw [List.getElem?_append_right (by simp)]
      simp
    · rw [List.getElem?_append_left (by simp), List.getElem?_append_right (by simp)]
      simp
theorem next_wp (g : GBase fis) {n c : Nat} (h : Hh m n c) {cap : Int} (hc : 0 < cap ∧ cap < 1073741824) (q : ∀ v m', 0 ≤ v → v < cap → Hh m' n c → Gr [n, c] m m' → Q (.int v) m') : Wp (callK C fis (k + 1) i_l_next [.ref n, .int cap] m) Q E := by
  obtain ⟨hne, s, i, cells, e1, e2, hl⟩ := h
  refine c_call g.next rfl rfl ?_
  unfold a_l_next
  one_sign
  refine x_lst e1 (d := .ref c) (by rfl) ?_
  one_sign
  refine b_lst (m := m ++ [.lst [.int 0]]) (n := c) (k := m.length) (xs := cells.map D.int) (ys := [.int 0]) ?_ ?_ ?_ ?_
  · rw [List.getElem?_append_left (List.getElem?_eq_some_iff.mp e2).1]; exact e2
  · simp
  · simp [LIM]; omega
  one_sign
  have hm2 : ∀ (j : Nat) (o : MO), m[j]? = some o → ((m ++ [MO.lst [.int 0]]) ++ [MO.lst (cells.map D.int ++ [.int 0])])[j]? = some o := fun j o e => by
    rw [List.getElem?_append_left (by have := (List.getElem?_eq_some_iff.mp e).1; simp; omega), List.getElem?_append_left (List.getElem?_eq_some_iff.mp e).1]
    exact e
  have hm3 : ((m ++ [MO.lst [.int 0]]) ++ [MO.lst (cells.map D.int ++ [.int 0])])[(m ++ [MO.lst [.int 0]]).length]? = some (MO.lst (cells.map D.int ++ [.int 0])) := by simp
  generalize hM : (m ++ [MO.lst [.int 0]]) ++ [MO.lst (cells.map D.int ++ [.int 0])] = M at hm2 hm3 ⊢
  have gM : Gr [n, c] m M := by rw [← hM]; exact (Gr.push _).trans (Gr.push _)
  have e1M := hm2 _ _ e1
  have e2M := hm2 _ _ e2
  refine x_lst e1M (d := .int i) (by rfl) ?_
  one_sign
  refine x_lst e1M (d := .ref c) (by rfl) ?_
  one_sign
  refine n_lst e2M ?_
  one_sign
  have hmx : ∃ w : Nat, (if ((cells.map D.int).length : Int) > 1 then ((cells.map D.int).length : Int) else 1) = w ∧ 0 < w ∧ w ≤ cells.length + 1 ∧ (cells.length = 0 → w = 1) ∧ (cells.length ≠ 0 → w = cells.length) := by
    rw [List.length_map]
    by_cases hz : (cells.length : Int) > 1
    · exact ⟨cells.length, by rw [if_pos hz], by omega, by omega, by omega, by omega⟩
    · exact ⟨1, by rw [if_neg hz]; rfl, by omega, by omega, by omega, by omega⟩
  obtain ⟨w, hw, hw0, hw1, hw2, hw3⟩ := hmx
  rw [hw]
  refine b_mod (by omega) ?_
  -- the cell
  have hi0 : 0 ≤ i % (w : Int) := Int.emod_nonneg _ (by omega)
  have hi1 : i % (w : Int) < w := Int.emod_lt_of_pos _ (by omega)
  obtain ⟨cell, hcell, hbig⟩ : ∃ cell : Int, (cells.map D.int ++ [D.int 0])[(i % (w : Int)).toNat]? = some (.int cell) ∧ (cells.length = 0 → cell = 0) := by
    by_cases hz : (i % (w : Int)).toNat < cells.length
    · refine ⟨cells[(i % (w : Int)).toNat], ?_, fun z => by omega⟩
      rw [List.getElem?_append_left (by simpa using hz)]
      simp [hz]
    · refine ⟨0, ?_, fun _ => rfl⟩
      have e : (i % (w : Int)).toNat = (cells.map D.int).length := by simp; omega
      rw [e]
      simp
  refine x_lst hm3 (d := .int cell) (ix_int hi0 hcell) ?_
  one_sign
  refine b_pow (by decide) ?_
  one_sign
  refine ⟨_, rfl, fun hk => ?_, fun hk => ?_⟩
  · have hk : (10 : Int) ^ (18 : Int).toNat ≤ cell := of_decide_eq_true hk
    have hpow : (10 : Int) ^ (18 : Int).toNat = 1000000000000000000 := by decide
    rw [hpow] at hk
    have hz : cells.length ≠ 0 := fun z => by
      have := hbig z
      omega
    one_sign
    refine b_fdiv hc ?_
    one_sign
    refine x_lst e1M (d := .ref c) (by rfl) ?_
    one_sign
    refine x_lst e1M (d := .int i) (by rfl) ?_
    one_sign
    refine x_lst e1M (d := .ref c) (by rfl) ?_
    one_sign
    refine n_lst e2M ?_
    refine b_mod (by rw [List.length_map]; omega) ?_
    have hj0 : 0 ≤ i % ((cells.map D.int).length : Int) := Int.emod_nonneg _ (by rw [List.length_map]; omega)
    have hj1 : i % ((cells.map D.int).length : Int) < ((cells.map D.int).length : Int) := Int.emod_lt_of_pos _ (by rw [List.length_map]; omega)
    refine ⟨c, i % ((cells.map D.int).length : Int), cells.map D.int, (i % ((cells.map D.int).length : Int)).toNat, rfl, rfl, e2M, ?_, ?_⟩
    · unfold ixOf
      rw [if_pos hj0, if_pos hj1]
    one_sign
    refine b_mod hc.1 (q _ _ (Int.emod_nonneg _ (by omega)) (Int.emod_lt_of_pos _ hc.1) ?_ (gM.trans (Gr.put (by simp))))
    refine ⟨hne, s, i, cells.set (i % ((cells.map D.int).length : Int)).toNat (cell / cap), ?_, ?_, by simpa using hl⟩
    · rw [List.getElem?_set_ne (Ne.symm hne)]
      exact e1M
    · rw [List.getElem?_set_self (List.getElem?_eq_some_iff.mp e2M).1, List.map_set]
  · one_sign
    refine x_lst e1M (d := .int s) (by rfl) ?_
    one_sign
    refine b_mulR (by decide) ?_
    one_sign
    refine b_mulR (by decide) ?_
    one_sign
    refine b_mod (by decide) ?_
    one_sign
    refine ⟨n, 0, _, 0, rfl, rfl, e1M, rfl, ?_⟩
    have hn1 : n < M.length := (List.getElem?_eq_some_iff.mp e1M).1
    one_sign
    refine x_lst (xs := [.int ((s * 48271 + cell * 69621 + 11) % 2147483647), .ref c, .int i]) (d := .int i) (List.getElem?_set_self hn1) (by rfl) ?_
    one_sign
    refine ⟨n, 2, _, 2, rfl, rfl, List.getElem?_set_self hn1, rfl, ?_⟩
    one_sign
    refine x_lst (xs := [.int ((s * 48271 + cell * 69621 + 11) % 2147483647), .ref c, .int (i + 1)]) (d := .int ((s * 48271 + cell * 69621 + 11) % 2147483647)) (List.getElem?_set_self (by simpa using hn1)) (by rfl) ?_
    one_sign
    refine b_fdiv (by decide) ?_
    one_sign
    refine b_mod hc.1 (q _ _ (Int.emod_nonneg _ (by omega)) (Int.emod_lt_of_pos _ hc.1) ?_ ((gM.trans (Gr.put (by simp))).trans (Gr.put (by simp))))
    refine ⟨hne, (s * 48271 + cell * 69621 + 11) % 2147483647, i + 1, cells, ?_, ?_, hl⟩
    · rw [List.getElem?_set_self (by simpa using hn1)]
      rfl
    · rw [List.getElem?_set_ne hne, List.getElem?_set_ne hne]
      exact e2M
theorem mapM_at {f : D → Option D} {ds xs : List D} (h : ds.mapM f = some xs) {j : Nat} {x : D} (hx : xs[j]? = some x) : ∃ d, ds[j]? = some d ∧ f d = some x := by
  obtain ⟨h1, h2⟩ := mapM_some h
  have hl : j < ds.length := by rw [h1]; exact (List.getElem?_eq_some_iff.mp hx).1
  obtain ⟨y, h3, h4⟩ := h2 j ds[j] (List.getElem?_eq_getElem hl)
  rw [hx] at h3
  cases h3
  exact ⟨ds[j], List.getElem?_eq_getElem hl, h4⟩
/-- no frozen list: the library's `tuple, list` test knows lists of the store and frozen ones alike -/
theorem alike_wp (g : GBase fis) : ∀ (N : Nat) (d e x : D) (m : Mem) (k : Nat) (Q : D → Mem → Prop) (E : Xc → Mem → Prop), N ≤ 64 → resolve m N d = some x → resolve m N e = some x → x.len4 → N ≤ k → (∀ m', Gr [] m m' → Q (.bl true) m') → Wp (callK C fis (k + 1) i_l_alike [d, e] m) Q E
  | 0, _, _, _, _, _, _, _, _, h, _, _, _, _ => by simp [resolve] at h
  | N + 1, d, e, x, m, k, Q, E, hN, hd, he, h4, hk, q => by
    refine c_call g.alike rfl rfl ?_
    have sc : (∀ xs, x ≠ .tup xs) → (∀ xs, x ≠ .lst xs) → d = x ∧ e = x := fun h1 h2 => ⟨res_sc hd h1 h2, res_sc he h1 h2⟩
    have seq : ∀ (ds es xs : List D) (t : DT), (t = .tuple ∨ t = .list) → items m d = some ds → items m e = some es → tyD (clK C fis k) m d = some t → tyD (clK C fis k) m e = some t → ds.mapM (resolve m N) = some xs → es.mapM (resolve m N) = some xs → xs.length ≤ 1000000 → D.len4s xs → WpS (exms (clK C fis k) none a_l_alike (startD 3 [d, e]) m) (fun _ m => Q .non m) Q (fun y _ m => E y m) (fun _ _ => False) (fun _ _ => False) := by
      intro ds es xs t ht i1 i2 t1 t2 m1 m2 hl h4
      have l1 := (mapM_some m1).1
      have l2 := (mapM_some m2).1
      unfold a_l_alike
      one_sign
      refine ⟨t, t2, _, rfl, br_f (by rcases ht with rfl | rfl <;> rfl) ?_⟩
      one_sign
      refine ⟨t, t2, _, rfl, br_t (by rcases ht with rfl | rfl <;> rfl) ?_⟩
      one_sign
      refine ⟨t, t1, _, rfl, _, rfl, br_f (by rcases ht with rfl | rfl <;> rfl) ?_⟩
      one_sign
      refine ⟨t, t1, ?_⟩
      one_sign
      refine ⟨t, t2, c_neR rfl rfl ?_⟩
      refine ⟨_, rfl, br_f (by simp [D.eqv]) ?_⟩
      one_sign
      refine n_any i1 ?_
      one_sign
      refine n_any i2 ?_
      one_sign
      refine ⟨_, rfl, br_f (by rw [l1, l2]; simp) ?_⟩
      one_sign
      refine n_any i2 ?_
      refine ⟨(es.length : Int), rfl, ?_⟩
      with_reducible refine wk_range ?ra ?rb ?rc ?rd ?re
      case ra => omega
      case rb => rw [l2]; omega
      case rc => omega
      case rd => omega
      refine lc_inv (fun dd acc m' => acc = [] ∧ Gr [] m m' ∧ ∃ j, dd = ((List.range (((es.length : Int)) - 0).toNat).map fun (i : Nat) => D.int (0 + (i : Int))).drop j) _ [] _ (by simp) ⟨rfl, Gr.push _, 0, rfl⟩ ?_ ?_
      · rintro dd ds' acc m' hn ⟨rfl, gm, j, hj⟩
        refine ⟨rfl, ?_⟩
        have hjl : j < es.length := by
          have := congrArg List.length hj
          simp at this
          omega
        have e1 : dd = .int (j : Int) := by
          have := congrArg (fun l : List D => l[0]?) hj
          simp [hjl] at this
          exact this
        have e2 : ds' = ((List.range (((es.length : Int)) - 0).toNat).map fun (i : Nat) => D.int (0 + (i : Int))).drop (j + 1) := by
          have := congrArg List.tail hj
          simpa using this
        subst e1
        refine w_lcF rfl ?_
        obtain ⟨y, hy⟩ : ∃ y, xs[j]? = some y := ⟨xs[j]'(by omega), List.getElem?_eq_getElem (by omega)⟩
        obtain ⟨a, ha, ra⟩ := mapM_at m1 hy
        obtain ⟨b, hb, rb⟩ := mapM_at m2 hy
        one_sign
        refine x_any (items_gr gm i1) (ix_nat ha) ?_
        one_sign
        refine x_any (items_gr gm i2) (ix_nat hb) ?_
        one_sign
        obtain ⟨k', rfl⟩ : ∃ k', k = k' + 1 := ⟨k - 1, by omega⟩
        refine alike_wp g N a b y m' k' _ _ (by omega) (gm.res ra) (gm.res rb) (D.len4s_at h4 hy) (by omega) fun m2 g2 => ?_
        refine ⟨_, rfl, _, rfl, br_f rfl ⟨?_, rfl, gm.trans g2, j + 1, e2⟩⟩
        exact g2.get hn (by simp)
      · rintro acc m' hn ⟨rfl, gm, _⟩
        refine ⟨rfl, ?_⟩
        one_sign
        have hn' : (m' ++ [MO.lst []])[m.length]? = some (.lst []) := by
          rw [List.getElem?_append_left (List.getElem?_eq_some_iff.mp hn).1]
          exact hn
        refine c_eqR (x := .lst []) (y := .lst []) ?_ ?_ (q _ (gm.trans (Gr.push _)))
        · simp only [resolve, hn']; rfl
        · simp [resolve]
    cases x with
    | tup xs =>
      obtain ⟨ds, rfl, m1⟩ := res_tup hd
      obtain ⟨es, rfl, m2⟩ := res_tup he
      exact seq ds es xs .tuple (.inl rfl) rfl rfl rfl rfl m1 m2 h4.1 h4.2
    | lst xs =>
      obtain ⟨ds, i1, n1, m1⟩ := res_lst hd
      obtain ⟨es, i2, n2, m2⟩ := res_lst he
      have t1 : tyD (clK C fis k) m d = some .list := by
        rcases ty_any (C := clK C fis k) i1 with ⟨ys, h, _⟩ | ⟨_, h⟩
        · exact absurd h (n1 ys)
        · exact h
      have t2 : tyD (clK C fis k) m e = some .list := by
        rcases ty_any (C := clK C fis k) i2 with ⟨ys, h, _⟩ | ⟨_, h⟩
        · exact absurd h (n2 ys)
        · exact h
      exact seq ds es xs .list (.inr rfl) i1 i2 t1 t2 m1 m2 h4.1 h4.2
    | non =>
      obtain ⟨rfl, rfl⟩ := sc (by simp) (by simp)
      unfold a_l_alike
      one_sign
      refine ⟨_, rfl, _, rfl, br_f rfl ?_⟩
      one_sign
      refine ⟨_, rfl, _, rfl, br_f rfl ?_⟩
      one_sign
      refine ⟨_, rfl, br_t rfl ?_⟩
      refine ⟨_, rfl, br_t rfl ?_⟩
      one_sign
      refine c_eqR rfl rfl ⟨_, rfl, br_t rfl ?_⟩
      one_sign
      refine ⟨_, rfl, ?_⟩
      one_sign
      exact ⟨_, rfl, c_eqR rfl rfl (q _ Gr.refl)⟩
    | bl b =>
      obtain ⟨rfl, rfl⟩ := sc (by simp) (by simp)
      unfold a_l_alike
      one_sign
      refine ⟨_, rfl, _, rfl, br_f rfl ?_⟩
      one_sign
      refine ⟨_, rfl, _, rfl, br_f rfl ?_⟩
      one_sign
      refine ⟨_, rfl, br_f rfl ?_⟩
      one_sign
      refine ⟨_, rfl, _, rfl, br_f rfl ?_⟩
      one_sign
      refine ⟨_, rfl, _, rfl, br_t rfl ?_⟩
      one_sign
      refine ⟨_, rfl, ?_⟩
      one_sign
      refine ⟨_, rfl, c_eqR rfl rfl ⟨_, rfl, br_t rfl ?_⟩⟩
      one_sign
      refine c_eqR rfl rfl ?_
      simp only [D.eqv, beq_self_eq_true]
      exact q _ Gr.refl
    | int b =>
      obtain ⟨rfl, rfl⟩ := sc (by simp) (by simp)
      unfold a_l_alike
      one_sign
      refine ⟨_, rfl, _, rfl, br_f rfl ?_⟩
      one_sign
      refine ⟨_, rfl, _, rfl, br_f rfl ?_⟩
      one_sign
      refine ⟨_, rfl, br_f rfl ?_⟩
      one_sign
      refine ⟨_, rfl, _, rfl, br_f rfl ?_⟩
      one_sign
      refine ⟨_, rfl, _, rfl, br_t rfl ?_⟩
      one_sign
      refine ⟨_, rfl, ?_⟩
      one_sign
      refine ⟨_, rfl, c_eqR rfl rfl ⟨_, rfl, br_t rfl ?_⟩⟩
      one_sign
      rw [beq_self_eq_true]
      exact q _ Gr.refl
    | str b =>
      obtain ⟨rfl, rfl⟩ := sc (by simp) (by simp)
      unfold a_l_alike
      one_sign
      refine ⟨_, rfl, _, rfl, br_f rfl ?_⟩
      one_sign
      refine ⟨_, rfl, _, rfl, br_f rfl ?_⟩
      one_sign
      refine ⟨_, rfl, br_f rfl ?_⟩
      one_sign
      refine ⟨_, rfl, _, rfl, br_t rfl ?_⟩
      one_sign
      refine ⟨_, rfl, br_t (by simp) ?_⟩
      one_sign
      refine ⟨_, rfl, ?_⟩
      one_sign
      exact ⟨_, rfl, c_eqR rfl rfl (q _ Gr.refl)⟩
    | _ => exact absurd (resolve_pl' _ _ _ hd).1 (by simp [D.pl])
end
end Pw
set_option Elab.async false
set_option linter.all false
set_option maxRecDepth 100000
set_option autoImplicit false
set_option maxHeartbeats 1000000
/-! Addresses' own methods. -/
namespace Pw
open PySem (Str)
local macro_rules | `(tactic| isplit) => `(tactic| first
  | with_reducible refine z_cons ?_ | with_reducible refine z_nil ?_ | with_reducible refine z_asgv ?_ | with_reducible refine z_asg ?_ | with_reducible refine z_ret ?_ | with_reducible refine z_exp ?_ | with_reducible refine z_iff ?_
  | with_reducible refine z_sts ?_ | with_reducible refine z_loop ?_ | with_reducible refine z_whl ?_ | with_reducible refine z_raise ?_ | with_reducible refine z_try1 ?_ | with_reducible refine z_pass ?_ | with_reducible refine z_brk ?_ | with_reducible refine z_cnt ?_
  | ((with_reducible refine z_aug (d := ?d) ?h ?_); (case h => exact rfl))
  | ((with_reducible refine w_var (d := ?d) ?h ?_); (case h => exact rfl)) | with_reducible refine w_cst ?_ | with_reducible refine ws_cons ?_ | with_reducible refine ws_nil ?_ | with_reducible refine ws_star ?_
  | with_reducible refine w_bin ?_ | with_reducible refine w_cmp ?_ | with_reducible refine w_chn ?_ | with_reducible refine w_isn ?_ | with_reducible refine w_and ?_ | with_reducible refine w_or ?_ | with_reducible refine w_not ?_ | with_reducible refine w_ite ?_
  | with_reducible refine w_tup ?_ | with_reducible refine w_lst ?_ | with_reducible refine w_sub ?_ | with_reducible refine w_slL ?_ | with_reducible refine w_slR ?_ | with_reducible refine w_slB ?_ | with_reducible refine w_call ?_
  | with_reducible refine w_blt ?_ | with_reducible refine w_isi ?_ | with_reducible refine w_met ?_ | with_reducible refine w_fld ?_ | with_reducible refine w_lc ?_
  | with_reducible refine wi_e ?_ | with_reducible refine wi_rng1 ?_ | with_reducible refine wi_rng2 ?_
  | with_reducible refine b_add ?_ | with_reducible refine b_sub ?_ | with_reducible refine c_lt ?_ | with_reducible refine c_le ?_ | with_reducible refine c_gt ?_ | with_reducible refine c_ge ?_ | with_reducible refine c_eqI ?_ | with_reducible refine c_neI ?_ | with_reducible refine c_eqS ?_ | with_reducible refine c_neS ?_
  | with_reducible refine n_int ?_ | with_reducible refine n_max ?_ | with_reducible refine n_min ?_ | with_reducible refine n_tup ?_ | with_reducible refine n_frz ?_ | with_reducible refine f_adr ?_ | with_reducible refine l_tup ?_ | with_reducible refine wk_tup ?_ | with_reducible refine wk_lst ?_
  | ((with_reducible refine And.intro ?ha ?_); (case ha => exact of_decide_eq_true rfl)))
local macro_rules | `(tactic| one_sign) => `(tactic| repeat isplit)

/-- steps: plain data -/
structure Pl (xs : List D) : Prop where
  pl : D.pls xs = true
  dep : D.deps xs ≤ 60
  len : xs.length ≤ 1000000
theorem deps_append : ∀ (a b : List D), D.deps (a ++ b) = max (D.deps a) (D.deps b)
  | [], b => by simp [D.deps]
  | x :: a, b => by simp only [List.cons_append, D.deps, deps_append a b]; omega
theorem pls_append : ∀ (a b : List D), D.pls (a ++ b) = (D.pls a && D.pls b)
  | [], b => by simp [D.pls]
  | x :: a, b => by simp only [List.cons_append, D.pls, pls_append a b, Bool.and_assoc]
theorem pls_take : ∀ (a : List D) (n : Nat), D.pls a = true → D.pls (a.take n) = true
  | _, 0, _ => rfl
  | [], _ + 1, _ => rfl
  | x :: a, n + 1, h => by
    simp only [D.pls, Bool.and_eq_true] at h
    simp only [List.take_succ_cons, D.pls, h.1, pls_take a n h.2, Bool.and_self]
theorem deps_take : ∀ (a : List D) (n : Nat), D.deps (a.take n) ≤ D.deps a
  | a, 0 => by simp [D.deps]
  | [], _ + 1 => by simp [D.deps]
  | x :: a, n + 1 => by
    have := deps_take a n
    simp only [List.take_succ_cons, D.deps]
    omega
theorem Pl.append {a b : List D} (h : Pl a) (k : Pl b) (hl : a.length + b.length ≤ 1000000) : Pl (a ++ b) := ⟨by rw [pls_append, h.pl, k.pl]; rfl, by rw [deps_append]; have := h.dep; have := k.dep; omega, by simpa using hl⟩
theorem Pl.take {a : List D} (h : Pl a) (n : Nat) : Pl (a.take n) := ⟨pls_take a n h.pl, Nat.le_trans (deps_take a n) h.dep, by have := h.len; simp; omega⟩
theorem Pl.res {xs : List D} (h : Pl xs) {m : Mem} : resolve m 64 (.tup xs) = some (.tup xs) := resolve_pl _ _ (by simpa [D.pl] using h.pl) (by simp only [D.dep]; have := h.dep; omega)
theorem cut_hi {xs : List D} {n : Nat} : cut xs none (some (n : Int)) = xs.take n := by
  unfold cut bnd
  dsimp only
  rw [if_neg (by omega)]
  simp only [List.drop_zero, Nat.sub_zero, Int.toNat_natCast]
  by_cases h : n ≤ xs.length
  · rw [Nat.min_eq_left h]
  · rw [Nat.min_eq_right (by omega), List.take_of_length_le (by omega), List.take_of_length_le (by omega)]
theorem cut_last {xs : List D} : cut xs none (some (-1)) = xs.take (xs.length - 1) := by
  unfold cut bnd
  dsimp only
  rw [if_pos (by omega)]
  simp only [List.drop_zero, Nat.sub_zero]
  congr 1
  omega
/-- steps are tuples of ints -/
def stepD (s : List Int) : D := .tup (s.map D.int)
theorem alks_ints : ∀ (a b : List Int), D.alks (a.map D.int) (b.map D.int) = true
  | [], _ => by simp [D.alks]
  | _ :: _, [] => by simp [D.alks]
  | _ :: a, _ :: b => by simp only [List.map_cons, D.alks, D.alk, alks_ints a b, Bool.and_self]
theorem alks_steps : ∀ (a b : List (List Int)), D.alks (a.map stepD) (b.map stepD) = true
  | [], _ => by simp [D.alks]
  | _ :: _, [] => by simp [D.alks]
  | x :: a, y :: b => by simp only [List.map_cons, D.alks, stepD, D.alk, alks_ints x y, Bool.true_and]; exact alks_steps a b
theorem pls_ints : ∀ (a : List Int), D.pls (a.map D.int) = true
  | [] => rfl
  | _ :: a => by simp only [List.map_cons, D.pls, D.pl, pls_ints a, Bool.and_self]
theorem deps_ints : ∀ (a : List Int), D.deps (a.map D.int) ≤ 1
  | [] => by simp [D.deps]
  | _ :: a => by have := deps_ints a; simp only [List.map_cons, D.deps, D.dep]; omega
theorem pls_steps : ∀ (a : List (List Int)), D.pls (a.map stepD) = true
  | [] => rfl
  | x :: a => by simp only [List.map_cons, D.pls, stepD, D.pl, pls_ints x, Bool.true_and]; exact pls_steps a
theorem deps_steps : ∀ (a : List (List Int)), D.deps (a.map stepD) ≤ 2
  | [] => by simp [D.deps]
  | x :: a => by have := deps_steps a; have := deps_ints x; simp only [List.map_cons, D.deps, stepD, D.dep] at this ⊢; omega
theorem Pl.steps {a : List (List Int)} (h : a.length ≤ 1000000) : Pl (a.map stepD) := ⟨pls_steps a, by have := deps_steps a; omega, by simpa using h⟩
structure GAdr (C : Cl) (fis : Nat → Option Fi) : Prop where
  adrC : C.adrC = c_Address
  isA : C.isA c_Address c_Address = true
  m_eq : C.mth c_Address nEq = some i_m_Address_eq
  m_lt : C.mth c_Address nLt = some i_m_Address_lt
  m_le : C.mth c_Address nLe = some i_m_Address_le
  m_gt : C.mth c_Address nGt = some i_m_Address_gt
  m_ge : C.mth c_Address nGe = some i_m_Address_ge
  m_add : C.mth c_Address nAdd = some i_m_Address_add
  m_radd : C.mth c_Address nRadd = some i_m_Address_radd
  m_len : C.mth c_Address nLen = some i_m_Address_len
  eq : fis i_m_Address_eq = some f_m_Address_eq
  lt : fis i_m_Address_lt = some f_m_Address_lt
  le : fis i_m_Address_le = some f_m_Address_le
  gt : fis i_m_Address_gt = some f_m_Address_gt
  ge : fis i_m_Address_ge = some f_m_Address_ge
  add : fis i_m_Address_add = some f_m_Address_add
  radd : fis i_m_Address_radd = some f_m_Address_radd
  len : fis i_m_Address_len = some f_m_Address_len
section
variable {C : Cl} {fis : Nat → Option Fi} {k : Nat} {m : Mem} {Q : D → Mem → Prop} {E : Xc → Mem → Prop} {xs ys : List D}
theorem adr_eq (g : GAdr C fis) (hx : Pl xs) (hy : Pl ys) (q : Q (.bl (D.eqvs xs ys)) m) : Wp (callK C fis (k + 1) i_m_Address_eq [.adr (.tup xs), .adr (.tup ys)] m) Q E := by
  refine c_call g.eq rfl rfl ?_
  unfold a_m_Address_eq
  one_sign
  refine ⟨_, rfl, _, rfl, br_t (by show (C.isA C.adrC c_Address || false) = true; rw [g.adrC, g.isA]; rfl) ?_⟩
  one_sign
  exact c_eqR hx.res hy.res q
theorem adr_eqT (g : GAdr C fis) (q : Q (.bl false) m) : Wp (callK C fis (k + 1) i_m_Address_eq [.adr (.tup xs), .tup ys] m) Q E := by
  refine c_call g.eq rfl rfl ?_
  unfold a_m_Address_eq
  one_sign
  exact ⟨_, rfl, _, rfl, br_f rfl q⟩
theorem ord_steps {o : COp} {a b : List (List Int)} (ha : a.length ≤ 1000000) (hb : b.length ≤ 1000000) (ho : o = .lt ∨ o = .le ∨ o = .gt ∨ o = .ge) (q : Q (.bl (match o with | .lt => D.lts (a.map stepD) (b.map stepD) | .le => !D.lts (b.map stepD) (a.map stepD) | .gt => D.lts (b.map stepD) (a.map stepD) | _ => !D.lts (a.map stepD) (b.map stepD))) m) :
    Wp (cmpD C o (.tup (a.map stepD)) (.tup (b.map stepD)) m) Q E := by
  refine Wp.eq (a := _) ?_ q
  have := ordD_res (C := C) (m := m) (o := o) (Pl.steps ha).res (Pl.steps hb).res (by simp only [D.alk]; exact alks_steps a b) rfl ho (fun _ _ h => by cases h.1)
  rcases ho with rfl | rfl | rfl | rfl <;> exact this
theorem adr_lt (g : GAdr C fis) {a b : List (List Int)} (ha : a.length ≤ 1000000) (hb : b.length ≤ 1000000) (q : Q (.bl (D.lts (a.map stepD) (b.map stepD))) m) : Wp (callK C fis (k + 1) i_m_Address_lt [.adr (.tup (a.map stepD)), .adr (.tup (b.map stepD))] m) Q E := by
  refine c_call g.lt rfl rfl ?_
  unfold a_m_Address_lt
  one_sign
  exact ord_steps ha hb (by simp) q
theorem adr_le (g : GAdr C fis) {a b : List (List Int)} (ha : a.length ≤ 1000000) (hb : b.length ≤ 1000000) (q : Q (.bl (!D.lts (b.map stepD) (a.map stepD))) m) : Wp (callK C fis (k + 1) i_m_Address_le [.adr (.tup (a.map stepD)), .adr (.tup (b.map stepD))] m) Q E := by
  refine c_call g.le rfl rfl ?_
  unfold a_m_Address_le
  one_sign
  exact ord_steps ha hb (by simp) q
theorem adr_gt (g : GAdr C fis) {a b : List (List Int)} (ha : a.length ≤ 1000000) (hb : b.length ≤ 1000000) (q : Q (.bl (D.lts (b.map stepD) (a.map stepD))) m) : Wp (callK C fis (k + 1) i_m_Address_gt [.adr (.tup (a.map stepD)), .adr (.tup (b.map stepD))] m) Q E := by
  refine c_call g.gt rfl rfl ?_
  unfold a_m_Address_gt
  one_sign
  exact ord_steps ha hb (by simp) q
theorem adr_ge (g : GAdr C fis) {a b : List (List Int)} (ha : a.length ≤ 1000000) (hb : b.length ≤ 1000000) (q : Q (.bl (!D.lts (a.map stepD) (b.map stepD))) m) : Wp (callK C fis (k + 1) i_m_Address_ge [.adr (.tup (a.map stepD)), .adr (.tup (b.map stepD))] m) Q E := by
  refine c_call g.ge rfl rfl ?_
  unfold a_m_Address_ge
  one_sign
  exact ord_steps ha hb (by simp) q
theorem adr_len (g : GAdr C fis) (q : Q (.int xs.length) m) : Wp (callK C fis (k + 1) i_m_Address_len [.adr (.tup xs)] m) Q E := by
  refine c_call g.len rfl rfl ?_
  unfold a_m_Address_len
  one_sign
theorem adr_add (g : GAdr C fis) {s : D} (hl : xs.length + 1 ≤ LIM) (q : Q (.adr (.tup (xs ++ [s]))) m) : Wp (callK C fis (k + 1) i_m_Address_add [.adr (.tup xs), s] m) Q E := by
  refine c_call g.add rfl rfl ?_
  unfold a_m_Address_add
  one_sign
  refine w_newA g.adrC.symm ?_
  one_sign
  refine ⟨xs, rfl, ?_⟩
  one_sign
  exact ⟨by simpa using hl, .inr ⟨_, rfl, q⟩⟩
theorem adr_radd (g : GAdr C fis) {s : D} (hl : xs.length + 1 ≤ LIM) (q : Q (.adr (.tup (s :: xs))) m) : Wp (callK C fis (k + 1) i_m_Address_radd [.adr (.tup xs), s] m) Q E := by
  refine c_call g.radd rfl rfl ?_
  unfold a_m_Address_radd
  one_sign
  refine w_newA g.adrC.symm ?_
  one_sign
  refine ⟨xs, rfl, ?_⟩
  one_sign
  exact ⟨by simpa using hl, .inr ⟨_, rfl, by simpa using q⟩⟩
theorem adr_parent (g : GAdr C fis) (gp : fis i_m_Address_parent_2 = some f_m_Address_parent_2) (hf : C.xfs c_NoPlace = [n_address]) (hx : Pl xs) (q : xs ≠ [] → Q (.adr (.tup (xs.take (xs.length - 1)))) m) (e : xs = [] → E ⟨c_NoPlace, [(n_address, .adr (.tup []))]⟩ m) : Wp (callK C fis (k + 1) i_m_Address_parent_2 [.adr (.tup xs)] m) Q E := by
  refine c_call gp rfl rfl ?_
  unfold a_m_Address_parent_2
  one_sign
  refine c_eqR hx.res rfl ⟨_, rfl, fun h => ?_, fun h => ?_⟩
  · have hn : xs = [] := by
      cases xs with
      | nil => rfl
      | cons x xs => simp [D.eqv, D.eqvs] at h
    subst hn
    one_sign
    refine ⟨by show 1 = (C.xfs c_NoPlace).length; rw [hf]; rfl, by decide, ?_⟩
    show E ⟨c_NoPlace, (C.xfs c_NoPlace).zip [.adr (.tup [])]⟩ m
    rw [hf]
    exact e rfl
  · have hn : xs ≠ [] := fun z => by
      subst z
      simp [D.eqv, D.eqvs] at h
    one_sign
    refine w_newA g.adrC.symm ?_
    one_sign
    refine ⟨-1, rfl, ?_⟩
    one_sign
    refine .inr ⟨_, rfl, ?_⟩
    rw [cut_last]
    exact q hn
theorem adr_above (ga : fis i_m_Address_is_above_2 = some f_m_Address_is_above_2) (hx : Pl xs) (hy : Pl ys) (q : Q (.bl (decide (xs.length < ys.length) && D.eqvs (ys.take xs.length) xs)) m) : Wp (callK C fis (k + 1) i_m_Address_is_above_2 [.adr (.tup xs), .adr (.tup ys)] m) Q E := by
  refine c_call ga rfl rfl ?_
  unfold a_m_Address_is_above_2
  one_sign
  refine ⟨_, rfl, fun h => ?_, fun h => ?_⟩
  · one_sign
    refine ⟨_, rfl, ?_⟩
    one_sign
    rw [cut_hi]
    refine c_eqR (hy.take _).res hx.res ?_
    have h' : xs.length < ys.length := by simpa using h
    simp only [h', decide_true, Bool.true_and] at q
    exact q
  · have h' : ¬ xs.length < ys.length := by simpa using h
    simp only [h', decide_false, Bool.false_and] at q
    exact q
end
end Pw
set_option Elab.async false
set_option linter.all false
set_option maxRecDepth 100000
set_option maxHeartbeats 0
/-! Printed by gen.py: the tables of a law, the checks, the end. -/
namespace Pw.K05
open PySem PySem.Spec PyProof.Rows L2
def pw : PySem.Program := PySem.Challenge.pw_partwords_k05_addresses_in_order
def top (i : Nat) : PySem.Stmt := pw.main.body.getD i (.Pass ⟨0, 0, 0, 0⟩)
def mth (i j : Nat) : PySem.Stmt := match top i with
  | .ClassDef _ _ _ b _ _ _ _ _ _ _ => b.getD j (.Pass ⟨0, 0, 0, 0⟩)
  | _ => .Pass ⟨0, 0, 0, 0⟩
def d0 : He.DefD := ⟨("Address", some "__len__"), "__len__", "Address.__len__", defArgs (mth 5 2), defBody (mth 5 2), defScope (mth 5 2), [], []⟩
def g0 : Fn := ⟨i_m_Address_len, d0, ["self"], ["self"], a_m_Address_len⟩
def d1 : He.DefD := ⟨("Address", some "__eq__"), "__eq__", "Address.__eq__", defArgs (mth 5 3), defBody (mth 5 3), defScope (mth 5 3), [], []⟩
def g1 : Fn := ⟨i_m_Address_eq, d1, ["self", "other"], ["self", "other"], a_m_Address_eq⟩
def d2 : He.DefD := ⟨("Address", some "__lt__"), "__lt__", "Address.__lt__", defArgs (mth 5 4), defBody (mth 5 4), defScope (mth 5 4), [], []⟩
def g2 : Fn := ⟨i_m_Address_lt, d2, ["self", "other"], ["self", "other"], a_m_Address_lt⟩
def d3 : He.DefD := ⟨("Address", some "__le__"), "__le__", "Address.__le__", defArgs (mth 5 5), defBody (mth 5 5), defScope (mth 5 5), [], []⟩
def g3 : Fn := ⟨i_m_Address_le, d3, ["self", "other"], ["self", "other"], a_m_Address_le⟩
def d4 : He.DefD := ⟨("Address", some "__gt__"), "__gt__", "Address.__gt__", defArgs (mth 5 6), defBody (mth 5 6), defScope (mth 5 6), [], []⟩
def g4 : Fn := ⟨i_m_Address_gt, d4, ["self", "other"], ["self", "other"], a_m_Address_gt⟩
def d5 : He.DefD := ⟨("Address", some "__ge__"), "__ge__", "Address.__ge__", defArgs (mth 5 7), defBody (mth 5 7), defScope (mth 5 7), [], []⟩
def g5 : Fn := ⟨i_m_Address_ge, d5, ["self", "other"], ["self", "other"], a_m_Address_ge⟩
def d6 : He.DefD := ⟨("Address", some "__add__"), "__add__", "Address.__add__", defArgs (mth 5 8), defBody (mth 5 8), defScope (mth 5 8), [], []⟩
def g6 : Fn := ⟨i_m_Address_add, d6, ["self", "step"], ["self", "step"], a_m_Address_add⟩
def d7 : He.DefD := ⟨("Address", some "__radd__"), "__radd__", "Address.__radd__", defArgs (mth 5 9), defBody (mth 5 9), defScope (mth 5 9), [], []⟩
def g7 : Fn := ⟨i_m_Address_radd, d7, ["self", "step"], ["self", "step"], a_m_Address_radd⟩
def d8 : He.DefD := ⟨("Address", some "parent"), "parent", "Address.parent", defArgs (mth 5 10), defBody (mth 5 10), defScope (mth 5 10), [], []⟩
def g8 : Fn := ⟨i_m_Address_parent_2, d8, ["self"], ["self"], a_m_Address_parent_2⟩
def d9 : He.DefD := ⟨("Address", some "is_above"), "is_above", "Address.is_above", defArgs (mth 5 11), defBody (mth 5 11), defScope (mth 5 11), [], []⟩
def g9 : Fn := ⟨i_m_Address_is_above_2, d9, ["self", "other"], ["self", "other"], a_m_Address_is_above_2⟩
def d10 : He.DefD := ⟨("Address", some "is_apart"), "is_apart", "Address.is_apart", defArgs (mth 5 12), defBody (mth 5 12), defScope (mth 5 12), [], []⟩
def g10 : Fn := ⟨i_m_Address_is_apart_2, d10, ["self", "other"], ["self", "other"], a_m_Address_is_apart_2⟩
def d11 : He.DefD := ⟨("_law_mix", none), "_law_mix", "_law_mix", defArgs (top 7), defBody (top 7), defScope (top 7), [], []⟩
def g11 : Fn := ⟨i_l_mix, d11, ["_law_script", "_law_seed"], ["_law_script", "_law_seed", "_law_state", "_law_cell"], a_l_mix⟩
def d12 : He.DefD := ⟨("_law_next", none), "_law_next", "_law_next", defArgs (top 8), defBody (top 8), defScope (top 8), [], []⟩
def g12 : Fn := ⟨i_l_next, d12, ["_law_h", "_law_cap"], ["_law_h", "_law_cap", "_law_cell"], a_l_next⟩
def d13 : He.DefD := ⟨("_law_alike", none), "_law_alike", "_law_alike", defArgs (top 9), defBody (top 9), defScope (top 9), [], []⟩
def g13 : Fn := ⟨i_l_alike, d13, ["_law_found", "_law_due"], ["_law_found", "_law_due", "_law_k"], a_l_alike⟩
def d14 : He.DefD := ⟨("_law_before", none), "_law_before", "_law_before", defArgs (top 10), defBody (top 10), defScope (top 10), [], []⟩
def g14 : Fn := ⟨i_l_before, d14, ["_law_one", "_law_other"], ["_law_one", "_law_other", "_law_k"], a_l_before⟩
def d15 : He.DefD := ⟨("_law_steps", none), "_law_steps", "_law_steps", defArgs (top 11), defBody (top 11), defScope (top 11), [], []⟩
def g15 : Fn := ⟨i_l_steps, d15, ["_law_h"], ["_law_h", "_law_found", "_law_k", "_law_i"], a_l_steps⟩
def d16 : He.DefD := ⟨("_law_parent", none), "_law_parent", "_law_parent", defArgs (top 12), defBody (top 12), defScope (top 12), [], []⟩
def g16 : Fn := ⟨i_l_parent, d16, ["_law_address"], ["_law_address", "_law_told", "error"], a_l_parent⟩
def d17 : He.DefD := ⟨("law", none), "law", "law", defArgs (top 13), defBody (top 13), defScope (top 13), [], []⟩
def g17 : Fn := ⟨i_law_k05, d17, ["_law_script"], ["_law_script", "_law_h", "_law_turn", "_law_one", "_law_other", "_law_a", "_law_b", "_law_ahead", "_law_behind", "_law_told", "_law_above", "_law_below", "_law_step"], a_law_k05⟩
def fns : List Fn := g0 :: g1 :: g2 :: g3 :: g4 :: g5 :: g6 :: g7 :: g8 :: g9 :: g10 :: g11 :: g12 :: g13 :: g14 :: g15 :: g16 :: g17 :: []
def ini : He.DefD := ⟨("Address", some "__init__"), "__init__", "Address.__init__", defArgs (mth 5 1), defBody (mth 5 1), defScope (mth 5 1), [.adr (He.dflAt ("Address", some "__init__") 0)], []⟩
def x_NoPlace : XD := ⟨c_NoPlace, ⟨("NoPlace", some "__init__"), "__init__", "NoPlace.__init__", defArgs (mth 3 0), defBody (mth 3 0), defScope (mth 3 0), [], []⟩, "self", [("address", "address")]⟩
def t : Tx := { nm := nmAll, cls := [(c_PartError, "PartError"), (c_NoPlace, "NoPlace"), (c_Address, "Address")], adr := c_Address, fns := fns, mths := ((((c_Address, n_len_, i_m_Address_len) :: (c_Address, n_eq_, i_m_Address_eq) :: (c_Address, n_lt_, i_m_Address_lt) :: (c_Address, n_le_, i_m_Address_le) :: (c_Address, n_gt_, i_m_Address_gt) :: (c_Address, n_ge_, i_m_Address_ge) :: (c_Address, n_add_, i_m_Address_add) :: (c_Address, n_radd_, i_m_Address_radd) :: (c_Address, n_parent, i_m_Address_parent_2) :: (c_Address, n_is_above, i_m_Address_is_above_2) :: (c_Address, n_is_apart, i_m_Address_is_apart_2) :: []) : List (Nat × Nat × Nat))), atts := [], isas := [(c_PartError, c_PartError), (c_NoPlace, c_NoPlace), (c_NoPlace, c_PartError), (c_Address, c_Address)], xcs := [c_PartError, c_NoPlace], xfs := [(c_NoPlace, [n_address])], blts := ["len", "int", "str", "bool", "list", "tuple", "dict", "min", "max", "range", "isinstance", "super"], fuel := 1000000, xds := [x_NoPlace], ini := ini, file := "/claim/cut.py" }
theorem sc0 : FnScope g0.N g0.ps g0.d.scope := ⟨rfl, rfl, rfl, by decide +kernel, rfl, by decide +kernel, by decide +kernel⟩
theorem cs0 : ∃ n, cSs t.T n g0.d.scope g0.N g0.d.body = some g0.body := ⟨60, by kernel_rfl⟩
theorem bd0 (K : PySem.W.Frag) (fd : FuncData) (F : FunD K g0.d.name g0.d.qual g0.d.params g0.d.body g0.d.scope (g0.d.dvs K) [] (He.fAd K g0.d.at_) fd) : Binds K fd g0.ps [] := F.bindsN fun _ _ _ _ _ _ us hl => match us, hl with | [_], _ => rfl
theorem sc1 : FnScope g1.N g1.ps g1.d.scope := ⟨rfl, rfl, rfl, by decide +kernel, rfl, by decide +kernel, by decide +kernel⟩
theorem cs1 : ∃ n, cSs t.T n g1.d.scope g1.N g1.d.body = some g1.body := ⟨60, by kernel_rfl⟩
theorem bd1 (K : PySem.W.Frag) (fd : FuncData) (F : FunD K g1.d.name g1.d.qual g1.d.params g1.d.body g1.d.scope (g1.d.dvs K) [] (He.fAd K g1.d.at_) fd) : Binds K fd g1.ps [] := F.bindsN fun _ _ _ _ _ _ us hl => match us, hl with | [_, _], _ => rfl
theorem sc2 : FnScope g2.N g2.ps g2.d.scope := ⟨rfl, rfl, rfl, by decide +kernel, rfl, by decide +kernel, by decide +kernel⟩
theorem cs2 : ∃ n, cSs t.T n g2.d.scope g2.N g2.d.body = some g2.body := ⟨60, by kernel_rfl⟩
theorem bd2 (K : PySem.W.Frag) (fd : FuncData) (F : FunD K g2.d.name g2.d.qual g2.d.params g2.d.body g2.d.scope (g2.d.dvs K) [] (He.fAd K g2.d.at_) fd) : Binds K fd g2.ps [] := F.bindsN fun _ _ _ _ _ _ us hl => match us, hl with | [_, _], _ => rfl
theorem sc3 : FnScope g3.N g3.ps g3.d.scope := ⟨rfl, rfl, rfl, by decide +kernel, rfl, by decide +kernel, by decide +kernel⟩
theorem cs3 : ∃ n, cSs t.T n g3.d.scope g3.N g3.d.body = some g3.body := ⟨60, by kernel_rfl⟩
theorem bd3 (K : PySem.W.Frag) (fd : FuncData) (F : FunD K g3.d.name g3.d.qual g3.d.params g3.d.body g3.d.scope (g3.d.dvs K) [] (He.fAd K g3.d.at_) fd) : Binds K fd g3.ps [] := F.bindsN fun _ _ _ _ _ _ us hl => match us, hl with | [_, _], _ => rfl
theorem sc4 : FnScope g4.N g4.ps g4.d.scope := ⟨rfl, rfl, rfl, by decide +kernel, rfl, by decide +kernel, by decide +kernel⟩
theorem cs4 : ∃ n, cSs t.T n g4.d.scope g4.N g4.d.body = some g4.body := ⟨60, by kernel_rfl⟩
theorem bd4 (K : PySem.W.Frag) (fd : FuncData) (F : FunD K g4.d.name g4.d.qual g4.d.params g4.d.body g4.d.scope (g4.d.dvs K) [] (He.fAd K g4.d.at_) fd) : Binds K fd g4.ps [] := F.bindsN fun _ _ _ _ _ _ us hl => match us, hl with | [_, _], _ => rfl
theorem sc5 : FnScope g5.N g5.ps g5.d.scope := ⟨rfl, rfl, rfl, by decide +kernel, rfl, by decide +kernel, by decide +kernel⟩
theorem cs5 : ∃ n, cSs t.T n g5.d.scope g5.N g5.d.body = some g5.body := ⟨60, by kernel_rfl⟩
theorem bd5 (K : PySem.W.Frag) (fd : FuncData) (F : FunD K g5.d.name g5.d.qual g5.d.params g5.d.body g5.d.scope (g5.d.dvs K) [] (He.fAd K g5.d.at_) fd) : Binds K fd g5.ps [] := F.bindsN fun _ _ _ _ _ _ us hl => match us, hl with | [_, _], _ => rfl
theorem sc6 : FnScope g6.N g6.ps g6.d.scope := ⟨rfl, rfl, rfl, by decide +kernel, rfl, by decide +kernel, by decide +kernel⟩
theorem cs6 : ∃ n, cSs t.T n g6.d.scope g6.N g6.d.body = some g6.body := ⟨60, by kernel_rfl⟩
theorem bd6 (K : PySem.W.Frag) (fd : FuncData) (F : FunD K g6.d.name g6.d.qual g6.d.params g6.d.body g6.d.scope (g6.d.dvs K) [] (He.fAd K g6.d.at_) fd) : Binds K fd g6.ps [] := F.bindsN fun _ _ _ _ _ _ us hl => match us, hl with | [_, _], _ => rfl
theorem sc7 : FnScope g7.N g7.ps g7.d.scope := ⟨rfl, rfl, rfl, by decide +kernel, rfl, by decide +kernel, by decide +kernel⟩
theorem cs7 : ∃ n, cSs t.T n g7.d.scope g7.N g7.d.body = some g7.body := ⟨60, by kernel_rfl⟩
theorem bd7 (K : PySem.W.Frag) (fd : FuncData) (F : FunD K g7.d.name g7.d.qual g7.d.params g7.d.body g7.d.scope (g7.d.dvs K) [] (He.fAd K g7.d.at_) fd) : Binds K fd g7.ps [] := F.bindsN fun _ _ _ _ _ _ us hl => match us, hl with | [_, _], _ => rfl
theorem sc8 : FnScope g8.N g8.ps g8.d.scope := ⟨rfl, rfl, rfl, by decide +kernel, rfl, by decide +kernel, by decide +kernel⟩
theorem cs8 : ∃ n, cSs t.T n g8.d.scope g8.N g8.d.body = some g8.body := ⟨60, by kernel_rfl⟩
theorem bd8 (K : PySem.W.Frag) (fd : FuncData) (F : FunD K g8.d.name g8.d.qual g8.d.params g8.d.body g8.d.scope (g8.d.dvs K) [] (He.fAd K g8.d.at_) fd) : Binds K fd g8.ps [] := F.bindsN fun _ _ _ _ _ _ us hl => match us, hl with | [_], _ => rfl
theorem sc9 : FnScope g9.N g9.ps g9.d.scope := ⟨rfl, rfl, rfl, by decide +kernel, rfl, by decide +kernel, by decide +kernel⟩
theorem cs9 : ∃ n, cSs t.T n g9.d.scope g9.N g9.d.body = some g9.body := ⟨60, by kernel_rfl⟩
theorem bd9 (K : PySem.W.Frag) (fd : FuncData) (F : FunD K g9.d.name g9.d.qual g9.d.params g9.d.body g9.d.scope (g9.d.dvs K) [] (He.fAd K g9.d.at_) fd) : Binds K fd g9.ps [] := F.bindsN fun _ _ _ _ _ _ us hl => match us, hl with | [_, _], _ => rfl
theorem sc10 : FnScope g10.N g10.ps g10.d.scope := ⟨rfl, rfl, rfl, by decide +kernel, rfl, by decide +kernel, by decide +kernel⟩
theorem cs10 : ∃ n, cSs t.T n g10.d.scope g10.N g10.d.body = some g10.body := ⟨60, by kernel_rfl⟩
theorem bd10 (K : PySem.W.Frag) (fd : FuncData) (F : FunD K g10.d.name g10.d.qual g10.d.params g10.d.body g10.d.scope (g10.d.dvs K) [] (He.fAd K g10.d.at_) fd) : Binds K fd g10.ps [] := F.bindsN fun _ _ _ _ _ _ us hl => match us, hl with | [_, _], _ => rfl
theorem sc11 : FnScope g11.N g11.ps g11.d.scope := ⟨rfl, rfl, rfl, by decide +kernel, rfl, by decide +kernel, by decide +kernel⟩
theorem cs11 : ∃ n, cSs t.T n g11.d.scope g11.N g11.d.body = some g11.body := ⟨60, by kernel_rfl⟩
theorem bd11 (K : PySem.W.Frag) (fd : FuncData) (F : FunD K g11.d.name g11.d.qual g11.d.params g11.d.body g11.d.scope (g11.d.dvs K) [] (He.fAd K g11.d.at_) fd) : Binds K fd g11.ps [] := F.bindsN fun _ _ _ _ _ _ us hl => match us, hl with | [_, _], _ => rfl
theorem sc12 : FnScope g12.N g12.ps g12.d.scope := ⟨rfl, rfl, rfl, by decide +kernel, rfl, by decide +kernel, by decide +kernel⟩
theorem cs12 : ∃ n, cSs t.T n g12.d.scope g12.N g12.d.body = some g12.body := ⟨60, by kernel_rfl⟩
theorem bd12 (K : PySem.W.Frag) (fd : FuncData) (F : FunD K g12.d.name g12.d.qual g12.d.params g12.d.body g12.d.scope (g12.d.dvs K) [] (He.fAd K g12.d.at_) fd) : Binds K fd g12.ps [] := F.bindsN fun _ _ _ _ _ _ us hl => match us, hl with | [_, _], _ => rfl
theorem sc13 : FnScope g13.N g13.ps g13.d.scope := ⟨rfl, rfl, rfl, by decide +kernel, rfl, by decide +kernel, by decide +kernel⟩
theorem cs13 : ∃ n, cSs t.T n g13.d.scope g13.N g13.d.body = some g13.body := ⟨60, by kernel_rfl⟩
theorem bd13 (K : PySem.W.Frag) (fd : FuncData) (F : FunD K g13.d.name g13.d.qual g13.d.params g13.d.body g13.d.scope (g13.d.dvs K) [] (He.fAd K g13.d.at_) fd) : Binds K fd g13.ps [] := F.bindsN fun _ _ _ _ _ _ us hl => match us, hl with | [_, _], _ => rfl
theorem sc14 : FnScope g14.N g14.ps g14.d.scope := ⟨rfl, rfl, rfl, by decide +kernel, rfl, by decide +kernel, by decide +kernel⟩
theorem cs14 : ∃ n, cSs t.T n g14.d.scope g14.N g14.d.body = some g14.body := ⟨60, by kernel_rfl⟩
theorem bd14 (K : PySem.W.Frag) (fd : FuncData) (F : FunD K g14.d.name g14.d.qual g14.d.params g14.d.body g14.d.scope (g14.d.dvs K) [] (He.fAd K g14.d.at_) fd) : Binds K fd g14.ps [] := F.bindsN fun _ _ _ _ _ _ us hl => match us, hl with | [_, _], _ => rfl
theorem sc15 : FnScope g15.N g15.ps g15.d.scope := ⟨rfl, rfl, rfl, by decide +kernel, rfl, by decide +kernel, by decide +kernel⟩
theorem cs15 : ∃ n, cSs t.T n g15.d.scope g15.N g15.d.body = some g15.body := ⟨60, by kernel_rfl⟩
theorem bd15 (K : PySem.W.Frag) (fd : FuncData) (F : FunD K g15.d.name g15.d.qual g15.d.params g15.d.body g15.d.scope (g15.d.dvs K) [] (He.fAd K g15.d.at_) fd) : Binds K fd g15.ps [] := F.bindsN fun _ _ _ _ _ _ us hl => match us, hl with | [_], _ => rfl
theorem sc16 : FnScope g16.N g16.ps g16.d.scope := ⟨rfl, rfl, rfl, by decide +kernel, rfl, by decide +kernel, by decide +kernel⟩
theorem cs16 : ∃ n, cSs t.T n g16.d.scope g16.N g16.d.body = some g16.body := ⟨60, by kernel_rfl⟩
theorem bd16 (K : PySem.W.Frag) (fd : FuncData) (F : FunD K g16.d.name g16.d.qual g16.d.params g16.d.body g16.d.scope (g16.d.dvs K) [] (He.fAd K g16.d.at_) fd) : Binds K fd g16.ps [] := F.bindsN fun _ _ _ _ _ _ us hl => match us, hl with | [_], _ => rfl
theorem sc17 : FnScope g17.N g17.ps g17.d.scope := ⟨rfl, rfl, rfl, by decide +kernel, rfl, by decide +kernel, by decide +kernel⟩
theorem cs17 : ∃ n, cSs t.T n g17.d.scope g17.N g17.d.body = some g17.body := ⟨60, by kernel_rfl⟩
theorem bd17 (K : PySem.W.Frag) (fd : FuncData) (F : FunD K g17.d.name g17.d.qual g17.d.params g17.d.body g17.d.scope (g17.d.dvs K) [] (He.fAd K g17.d.at_) fd) : Binds K fd g17.ps [] := F.bindsN fun _ _ _ _ _ _ us hl => match us, hl with | [_], _ => rfl
open PySem.Pwx in
theorem xs_NoPlace : XShape x_NoPlace := ⟨rfl, rfl, ⟨_, _, rfl, rfl, fun _ _ _ _ _ _ _ _ us hl => match us, hl with | [_], _ => rfl⟩, ⟨_, _, _, _, _, _, _, _, _, by rfl, rfl, Asgs.cons _ _ _ _ _ _ (Asgs.nil)⟩, by decide +kernel, by decide +kernel, by decide +kernel, by decide +kernel, by decide⟩
theorem defs_ok : DefsOk t where
  nd := by decide +kernel
  kwd := show ∀ p ∈ fns, _ from all_cons (rfl) <| all_cons (rfl) <| all_cons (rfl) <| all_cons (rfl) <| all_cons (rfl) <| all_cons (rfl) <| all_cons (rfl) <| all_cons (rfl) <| all_cons (rfl) <| all_cons (rfl) <| all_cons (rfl) <| all_cons (rfl) <| all_cons (rfl) <| all_cons (rfl) <| all_cons (rfl) <| all_cons (rfl) <| all_cons (rfl) <| all_cons (rfl) <| all_nil
  sc := show ∀ p ∈ fns, _ from all_cons (sc0) <| all_cons (sc1) <| all_cons (sc2) <| all_cons (sc3) <| all_cons (sc4) <| all_cons (sc5) <| all_cons (sc6) <| all_cons (sc7) <| all_cons (sc8) <| all_cons (sc9) <| all_cons (sc10) <| all_cons (sc11) <| all_cons (sc12) <| all_cons (sc13) <| all_cons (sc14) <| all_cons (sc15) <| all_cons (sc16) <| all_cons (sc17) <| all_nil
  cs := show ∀ p ∈ fns, _ from all_cons (cs0) <| all_cons (cs1) <| all_cons (cs2) <| all_cons (cs3) <| all_cons (cs4) <| all_cons (cs5) <| all_cons (cs6) <| all_cons (cs7) <| all_cons (cs8) <| all_cons (cs9) <| all_cons (cs10) <| all_cons (cs11) <| all_cons (cs12) <| all_cons (cs13) <| all_cons (cs14) <| all_cons (cs15) <| all_cons (cs16) <| all_cons (cs17) <| all_nil
  bd := fun K => show ∀ p ∈ fns, _ from all_cons (bd0 K) <| all_cons (bd1 K) <| all_cons (bd2 K) <| all_cons (bd3 K) <| all_cons (bd4 K) <| all_cons (bd5 K) <| all_cons (bd6 K) <| all_cons (bd7 K) <| all_cons (bd8 K) <| all_cons (bd9 K) <| all_cons (bd10 K) <| all_cons (bd11 K) <| all_cons (bd12 K) <| all_cons (bd13 K) <| all_cons (bd14 K) <| all_cons (bd15 K) <| all_cons (bd16 K) <| all_cons (bd17 K) <| all_nil
  xs := show ∀ x ∈ [x_NoPlace], _ from all_cons xs_NoPlace <| all_nil
  xa := xa_of (by decide +kernel)
  ia := ⟨rfl, rfl, rfl⟩
  ib := ⟨_, _, _, _, rfl⟩
  isc := ⟨rfl, rfl, rfl, by decide +kernel, rfl, by decide +kernel, by decide +kernel⟩
  i1 := fun _ _ _ _ _ _ _ us its hl hi => match us, its, hl, hi with | [_], [_], _, _ => ⟨_, rfl, rfl⟩
  i2 := fun _ _ _ _ _ _ _ us its hl hi => match us, its, hl, hi with | [_, _], [_], _, _ => ⟨_, rfl, rfl⟩
abbrev R : PySem.W.OpenRow := PySem.W.OpenLaw.row PySem.Challenge.rw_partwords_k05_addresses_in_order
abbrev hk : PySem.W.Hook := hookT 5 t
def ob (s : PySem.W.SharedT) : AlT := obsTG 5 t (HandSHeadRun.getT s)
theorem ob_eq (s : PySem.W.SharedT) : ob s = hk.obs s.abs := obsTG_eq (HandSHeadRun.getT_eq s)
def loose : List Str := (("_wall" :: "PartError" :: "NoPlace" :: "Address" :: "_law_mix" :: "_law_next" :: "_law_alike" :: "_law_before" :: "_law_steps" :: "_law_parent" :: []) : List Str)
theorem run (w : World) : HandSHeadRun.RunEq R (PySem.W.view R.prog [13]) hk ob 2780 loose w := by
  intro os
  kernel_rfl
abbrev C : Cl := t.C
abbrev fis : Nat → Option Fi := t.fis
end Pw.K05
open PySem PySem.W PySem.Calls PyProof.Rows
theorem Pw.K05.holds_of {k : Nat} (hr : L2.Room (Pw.lvK k) callerA) (hlaw : ∀ ns : List Int, ns.length ≤ 63 → ∃ m, Pw.callK Pw.K05.C Pw.K05.fis k Pw.i_law_k05 [.lst (ns.map Pw.D.int)] [] = .ok (.bl true) m) : PySem.Challenge.rw_partwords_k05_addresses_in_order.Holds := by
  w_on; o_law
  refine HandSHeadRun.head_any (r := OpenLaw.row PySem.Challenge.rw_partwords_k05_addresses_in_order) (q := view (OpenLaw.row PySem.Challenge.rw_partwords_k05_addresses_in_order).prog [13]) (H := Pw.K05.hk) (ob := Pw.K05.ob) (M := 2780) (loose := Pw.K05.loose) (d := HandSHeadRun.topDef (OpenLaw.row PySem.Challenge.rw_partwords_k05_addresses_in_order).prog 13) (kwd := []) Pw.K05.ob_eq
    (by kernel_rfl) (fun s => by kernel_rfl) Pw.K05.run (by kernel_rfl) (by kernel_rfl) (by kernel_rfl) (by rfl) (by first | assumption | decide +kernel) (by decide +kernel) ⟨rfl, rfl, rfl, rfl, rfl, by decide +kernel⟩ ?hw ?hc
  case hw => w_witness2
  case hc =>
    refine L2.walk_ofE (l := PySem.Challenge.rw_partwords_k05_addresses_in_order) (n := 63) (k := Pw.lvK k) (x := "_law_script") (CX := L2.CX0) rfl (by decide) (by kernel_rfl) hr ?F (fun _ _ _ _ z => z)
    intro w mg fa h Y G hmg0
    obtain ⟨K, KX, c⟩ := Y
    have hmg : mg ("law" : PySem.Str) = some (.ref fa) := by
      have e : (HandSHeadRun.topDef (OpenLaw.row PySem.Challenge.rw_partwords_k05_addresses_in_order).prog 13).name = ("law" : PySem.Str) := by kernel_rfl
      rw [← e]
      exact hmg0
    obtain ⟨fd, sp, hb, hs, hF⟩ := Pw.law_F (P := (PySem.Challenge.rw_partwords_k05_addresses_in_order).prog) (w := w) (p := Pw.K05.g17) (k := k) (n := 63) KX G c Pw.K05.defs_ok (by kernel_rfl) (by kernel_rfl) (by kernel_rfl) rfl (by kernel_rfl) hmg (fun fd F s u => (L2.FunD.bindsA (ps := ["_law_script"]) F fun _ _ _ _ _ _ us hl => match us, hl with | [_], _ => rfl) s [u] rfl) hlaw
    exact ⟨K, fd, sp, KX, hb, hs, hF⟩
set_option Elab.async false
set_option linter.all false
set_option maxRecDepth 100000
set_option autoImplicit false
set_option maxHeartbeats 4000000
/-! law_k05, in plain Lean. -/
namespace Pw
open PySem (Str)
local macro_rules | `(tactic| isplit) => `(tactic| first
  | with_reducible refine z_cons ?_ | with_reducible refine z_nil ?_ | with_reducible refine z_asgv ?_ | with_reducible refine z_asg ?_ | with_reducible refine z_ret ?_ | with_reducible refine z_exp ?_ | with_reducible refine z_iff ?_
  | with_reducible refine z_sts ?_ | with_reducible refine z_loop ?_ | with_reducible refine z_whl ?_ | with_reducible refine z_raise ?_ | with_reducible refine z_try1 ?_ | with_reducible refine z_pass ?_ | with_reducible refine z_brk ?_ | with_reducible refine z_cnt ?_
  | ((with_reducible refine z_aug (d := ?d) ?h ?_); (case h => exact rfl))
  | ((with_reducible refine w_var (d := ?d) ?h ?_); (case h => exact rfl)) | with_reducible refine w_cst ?_ | with_reducible refine ws_cons ?_ | with_reducible refine ws_nil ?_ | with_reducible refine ws_star ?_
  | with_reducible refine w_bin ?_ | with_reducible refine w_cmp ?_ | with_reducible refine w_chn ?_ | with_reducible refine w_isn ?_ | with_reducible refine w_not ?_ | with_reducible refine w_ite ?_
  | with_reducible refine w_tup ?_ | with_reducible refine w_lst ?_ | with_reducible refine w_sub ?_ | with_reducible refine w_slL ?_ | with_reducible refine w_slR ?_ | with_reducible refine w_slB ?_ | with_reducible refine w_call ?_
  | with_reducible refine w_blt ?_ | with_reducible refine w_isi ?_ | with_reducible refine w_met ?_ | with_reducible refine w_fld ?_ | with_reducible refine w_lc ?_
  | with_reducible refine wi_e ?_ | with_reducible refine wi_rng1 ?_ | with_reducible refine wi_rng2 ?_
  | with_reducible refine b_add ?_ | with_reducible refine b_sub ?_ | with_reducible refine c_lt ?_ | with_reducible refine c_le ?_ | with_reducible refine c_gt ?_ | with_reducible refine c_ge ?_ | with_reducible refine c_eqI ?_ | with_reducible refine c_neI ?_ | with_reducible refine c_eqS ?_ | with_reducible refine c_neS ?_
  | with_reducible refine n_int ?_ | with_reducible refine n_max ?_ | with_reducible refine n_min ?_ | with_reducible refine n_tup ?_ | with_reducible refine n_frz ?_ | with_reducible refine f_adr ?_ | with_reducible refine l_tup ?_ | with_reducible refine wk_tup ?_ | with_reducible refine wk_lst ?_
  | ((with_reducible refine And.intro ?ha ?_); (case ha => exact of_decide_eq_true rfl)))
local macro_rules | `(tactic| one_sign) => `(tactic| repeat isplit)

structure G05 (C : Cl) (fis : Nat → Option Fi) : Prop where
  b : GBase fis
  a : GAdr C fis
  m_parent : C.mth c_Address n_parent = some i_m_Address_parent_2
  m_above : C.mth c_Address n_is_above = some i_m_Address_is_above_2
  m_apart : C.mth c_Address n_is_apart = some i_m_Address_is_apart_2
  parent : fis i_m_Address_parent_2 = some f_m_Address_parent_2
  above : fis i_m_Address_is_above_2 = some f_m_Address_is_above_2
  apart : fis i_m_Address_is_apart_2 = some f_m_Address_is_apart_2
  before : fis i_l_before = some f_l_before
  steps : fis i_l_steps = some f_l_steps
  lpar : fis i_l_parent = some f_l_parent
  law : fis i_law_k05 = some f_law_k05
  xf : C.xfs c_NoPlace = [n_address]
  xn : C.isX c_NoPlace = true
  i1 : C.isA c_NoPlace c_NoPlace = true
  i2 : C.isA c_NoPlace c_PartError = true
section
variable {C : Cl} {fis : Nat → Option Fi} {k : Nat} {m : Mem} {Q : D → Mem → Prop} {E : Xc → Mem → Prop} {xs ys : List D}
theorem rcv_adr (g : GAdr C fis) {n f : Nat} {d : D} (h : C.mth c_Address n = some f) : rcv (clK C fis k) n (.adr d) m = some (.fn f) := by
  show (C.mth C.adrC n).map Rcv.fn = _
  rw [g.adrC, h]
  rfl
theorem adr_apart (g : G05 C fis) (hx : Pl xs) (hy : Pl ys) (q : Q (.bl (!D.eqvs xs ys && (!(decide (xs.length < ys.length) && D.eqvs (ys.take xs.length) xs) && !(decide (ys.length < xs.length) && D.eqvs (xs.take ys.length) ys)))) m) : Wp (callK C fis (k + 2) i_m_Address_is_apart_2 [.adr (.tup xs), .adr (.tup ys)] m) Q E := by
  refine c_call g.apart rfl rfl ?_
  unfold a_m_Address_is_apart_2
  one_sign
  refine w_and ?_
  one_sign
  refine c_adrN (f := i_m_Address_eq) (by show C.mth C.adrC _ = _; rw [g.a.adrC]; exact g.a.m_eq) ?_
  refine adr_eq g.a hx hy ⟨_, rfl, _, rfl, fun h => ?_, fun h => ?_⟩
  · rw [h, Bool.true_and] at q
    refine w_and ?_
    one_sign
    refine ⟨_, rcv_adr g.a g.m_above, ?_⟩
    one_sign
    refine adr_above g.above hx hy ⟨_, rfl, _, rfl, fun h2 => ?_, fun h2 => ?_⟩
    · rw [h2, Bool.true_and] at q
      one_sign
      refine ⟨_, rcv_adr g.a g.m_above, ?_⟩
      one_sign
      exact adr_above g.above hy hx ⟨_, rfl, q⟩
    · rw [h2, Bool.false_and] at q
      exact q
  · rw [h, Bool.false_and] at q
    exact q
theorem before_wp (g : G05 C fis) {a b : List (List Int)} (ha : a.length ≤ 1000000) (hb : b.length ≤ 1000000) (q : Q (.bl (D.lts (a.map stepD) (b.map stepD))) m) : Wp (callK C fis (k + 1) i_l_before [.tup (a.map stepD), .tup (b.map stepD)] m) Q E := by
  refine c_call g.before rfl rfl ?_
  unfold a_l_before
  one_sign
  refine ⟨_, rfl, ?_⟩
  obtain ⟨n, hn, hn2⟩ : ∃ n : Nat, (if ((b.map stepD).length : Int) < ((a.map stepD).length : Int) then ((b.map stepD).length : Int) else ((a.map stepD).length : Int)) = n ∧ n = min a.length b.length := by
    simp only [List.length_map]
    by_cases h : (b.length : Int) < a.length
    · exact ⟨b.length, by rw [if_pos h], by omega⟩
    · exact ⟨a.length, by rw [if_neg h], by omega⟩
  rw [hn]
  with_reducible refine wk_range ?ra ?rb ?rc ?rd ?re
  case ra => omega
  case rb => omega
  case rc => omega
  case rd => omega
  refine for_inv (fun ds σ m' => m' = m ∧ ∃ j o, j ≤ n ∧ σ = [some (.tup (a.map stepD)), some (.tup (b.map stepD)), o] ∧ ds = ((List.range ((n : Int) - 0).toNat).map fun (i : Nat) => D.int (0 + (i : Int))).drop j ∧ D.lts (a.map stepD) (b.map stepD) = D.lts ((a.drop j).map stepD) ((b.drop j).map stepD)) _ _ _ ⟨rfl, 0, none, by omega, rfl, rfl, rfl⟩ ?_ ?_
  · rintro d ds σ m' ⟨rfl, j, o, hj0, rfl, hj, hlt⟩
    refine ⟨rfl, ?_⟩
    have hjl : j < n := by
      have := congrArg List.length hj
      simp at this
      omega
    have e1 : d = .int (j : Int) := by
      have := congrArg (fun l : List D => l[0]?) hj
      simp [hjl] at this
      exact this
    have e2 : ds = ((List.range ((n : Int) - 0).toNat).map fun (i : Nat) => D.int (0 + (i : Int))).drop (j + 1) := by
      have := congrArg List.tail hj
      simpa using this
    subst e1
    obtain ⟨x, hx⟩ : ∃ x, a[j]? = some x := ⟨a[j]'(by omega), List.getElem?_eq_getElem (by omega)⟩
    obtain ⟨y, hy⟩ : ∃ y, b[j]? = some y := ⟨b[j]'(by omega), List.getElem?_eq_getElem (by omega)⟩
    have hx' : (a.map stepD)[j]? = some (stepD x) := by rw [List.getElem?_map, hx]; rfl
    have hy' : (b.map stepD)[j]? = some (stepD y) := by rw [List.getElem?_map, hy]; rfl
    have da : a.drop j = x :: a.drop (j + 1) := by rw [List.drop_eq_getElem_cons (by omega)]; rw [List.getElem?_eq_getElem (by omega)] at hx; cases hx; rfl
    have db : b.drop j = y :: b.drop (j + 1) := by rw [List.drop_eq_getElem_cons (by omega)]; rw [List.getElem?_eq_getElem (by omega)] at hy; cases hy; rfl
    rw [da, db] at hlt
    simp only [List.map_cons, D.lts] at hlt
    have rx : ∀ (z : List Int) (m : Mem), resolve m 64 (stepD z) = some (stepD z) := fun z m => resolve_pl _ _ (by simpa [D.pl, stepD] using pls_ints z) (by have := deps_ints z; simp only [stepD, D.dep]; omega)
    show WpS (exms _ _ _ [some _, some _, some (D.int j)] m') _ _ _ _ _
    one_sign
    refine x_tup (ix_nat hx') ?_
    one_sign
    refine x_tup (ix_nat hy') ?_
    refine c_neR (rx x _) (rx y _) ⟨_, rfl, fun h => ?_, fun h => ?_⟩
    · have h' : D.eqv (stepD x) (stepD y) = false := by simpa using h
      rw [h', if_neg (by simp)] at hlt
      rw [hlt] at q
      one_sign
      refine x_tup (ix_nat hx') ?_
      one_sign
      refine x_tup (ix_nat hy') ?_
      refine Wp.eq ?_ q
      exact ordD_res (C := clK C fis k) (o := .lt) (rx x _) (rx y _) (by simp only [stepD, D.alk]; exact alks_ints x y) rfl (by simp) (fun _ _ h => by cases h.1)
    · have h' : D.eqv (stepD x) (stepD y) = true := by simpa using h
      rw [h', if_pos rfl] at hlt
      one_sign
      exact ⟨rfl, j + 1, _, by omega, rfl, e2, hlt⟩
  · rintro σ m' ⟨rfl, j, o, hj0, rfl, hj, hlt⟩
    refine ⟨rfl, ?_⟩
    have hjl : j = n := by
      have := congrArg List.length hj
      simp at this
      omega
    subst hjl
    one_sign
    have e : D.lts ((a.drop j).map stepD) ((b.drop j).map stepD) = decide (((a.map stepD).length : Int) < ((b.map stepD).length : Int)) := by
      simp only [List.length_map]
      by_cases h : a.length < b.length
      · have h1 : a.drop j = [] := List.drop_eq_nil_of_le (by omega)
        rw [h1, decide_eq_true (by omega)]
        cases hb' : b.drop j with
        | nil =>
          have := congrArg List.length hb'
          simp at this
          omega
        | cons y r => simp [D.lts]
      · have h1 : b.drop j = [] := List.drop_eq_nil_of_le (by omega)
        rw [h1, decide_eq_false (by omega)]
        cases a.drop j <;> simp [D.lts]
    rw [hlt, e] at q
    exact q
theorem steps_wp (g : GBase fis) (gs : fis i_l_steps = some f_l_steps) {n c : Nat} (h : Hh m n c) (q : ∀ (a : List (List Int)) m', a.length ≤ 4 → (∀ x ∈ a, x.length ≤ 2) → Hh m' n c → Gr [n, c] m m' → Q (.tup (a.map stepD)) m') : Wp (callK C fis (k + 2) i_l_steps [.ref n] m) Q E := by
  refine c_call gs rfl rfl ?_
  unfold a_l_steps
  one_sign
  refine next_wp g h (cap := 5) (by decide) ?_
  intro v m1 v0 v1 h1 g1
  refine ⟨v, rfl, ?_⟩
  with_reducible refine wk_range ?ra ?rb ?rc ?rd ?re
  case ra => omega
  case rb => omega
  case rc => omega
  case rd => omega
  refine for_inv (fun ds σ m' => Hh m' n c ∧ Gr [n, c] m m' ∧ ∃ (a : List (List Int)) (o p : Option D), σ = [some (.ref n), some (.tup (a.map stepD)), o, p] ∧ a.length + ds.length ≤ 4 ∧ ∀ x ∈ a, x.length ≤ 2) _ _ _ ⟨h1, g1, [], none, none, rfl, by simp; omega, by simp⟩ ?_ ?_
  · rintro d ds σ m' ⟨hh, gg, a, o, p, rfl, hl, hx⟩
    refine ⟨rfl, ?_⟩
    show WpS (exms _ _ _ [some _, some _, some d, p] m') _ _ _ _ _
    one_sign
    refine next_wp g hh (cap := 3) (by decide) ?_
    intro i m2 i0 i1 h2 g2
    one_sign
    refine next_wp g h2 (cap := 3) (by decide) ?_
    intro j m3 j0 j1 h3 g3
    one_sign
    one_sign
    refine next_wp g h3 (cap := 2) (by decide) ?_
    intro z m4 z0 z1 h4 g4
    obtain ⟨s, hs, ls⟩ : ∃ s : List Int, (ixOf 2 z).bind (fun k => ([.tup [.int i], .tup [.int (i + 4), .int j]] : List D)[k]?) = some (stepD s) ∧ s.length ≤ 2 := by
      have : z = 0 ∨ z = 1 := by omega
      rcases this with rfl | rfl
      · exact ⟨[i], rfl, by simp⟩
      · exact ⟨[i + 4, j], rfl, by simp⟩
    refine x_tup hs ?_
    one_sign
    refine b_tup (by simp only [List.length_map, List.length_cons, List.length_nil] at hl ⊢; unfold LIM; omega) ?_
    one_sign
    refine ⟨h4, ((gg.trans g2).trans g3).trans g4, a ++ [s], some d, some (.int i), ?_, by simp only [List.length_append, List.length_cons, List.length_nil] at hl ⊢; omega, fun x hx' => by
      rcases List.mem_append.mp hx' with h | h
      · exact hx x h
      · simp at h; subst h; exact ls⟩
    show [_, some (D.tup (a.map stepD ++ [stepD s])), _, _] = _
    rw [List.map_append]
    rfl
  · rintro σ m' ⟨hh, gg, a, o, p, rfl, hl, hx⟩
    refine ⟨rfl, ?_⟩
    one_sign
    exact q a m' (by simpa using hl) hx hh gg
theorem par_wp (g : G05 C fis) (hx : Pl xs) (q1 : xs ≠ [] → Q (.tup (xs.take (xs.length - 1))) m) (q2 : xs = [] → Q (.ref m.length) (m ++ [.lst [.tup [], .bl true]])) : Wp (callK C fis (k + 2) i_l_parent [.adr (.tup xs)] m) Q E := by
  refine c_call g.lpar rfl rfl ?_
  unfold a_l_parent
  one_sign
  refine ⟨_, rcv_adr g.a g.m_parent, ?_⟩
  one_sign
  refine adr_parent g.a g.parent g.xf hx (fun h => ?_) (fun h => ?_)
  · one_sign
    exact q1 h
  · refine ⟨g.xn, br_t g.i1 ⟨by show 2 < 3; decide, ?_⟩⟩
    one_sign
    refine w_xfl (d := .adr (.tup [])) (by show (C.xfs c_NoPlace).contains n_address = true; rw [g.xf]; rfl) rfl ?_
    one_sign
    refine w_xis g.xn ?_
    one_sign
    have e : (clK C fis (k + 1)).isA c_NoPlace c_PartError = true := g.i2
    rw [e]
    exact q2 h
/-- a list of bools, a list beside it -/
theorem alike2 (g : GBase fis) {m : Mem} {r1 r2 : Nat} {ds : List D} (h1 : m[r1]? = some (.lst ds)) (h2 : m[r2]? = some (.lst ds)) (hp : Pl ds) (hd : D.deps ds ≤ 5) (h4 : D.len4s ds) (hk : 6 ≤ k) (q : ∀ m', Gr [] m m' → Q (.bl true) m') : Wp (callK C fis (k + 1) i_l_alike [.ref r1, .ref r2] m) Q E :=
  alike_wp g 6 _ _ (.lst ds) m k Q E (by decide) (res_list h1 hp.pl hd) (res_list h2 hp.pl hd) ⟨hp.len, h4⟩ hk q
theorem len4_ints : ∀ (a : List Int), D.len4s (a.map D.int)
  | [] => trivial
  | _ :: a => ⟨trivial, len4_ints a⟩
theorem len4_step {s : List Int} (h : s.length ≤ 1000000) : D.len4 (stepD s) := ⟨by simpa using h, len4_ints s⟩
theorem len4_steps : ∀ {a : List (List Int)}, (∀ x ∈ a, x.length ≤ 2) → D.len4s (a.map stepD)
  | [], _ => trivial
  | x :: a, h => ⟨len4_step (by have := h x List.mem_cons_self; omega), len4_steps fun y hy => h y (List.mem_cons_of_mem _ hy)⟩
theorem stp_tup {a : List (List Int)} : (.tup (a.map stepD) : D).pl = true ∧ (.tup (a.map stepD) : D).dep ≤ 3 := ⟨by simpa [D.pl] using pls_steps a, by have := deps_steps a; simp only [D.dep]; omega⟩
abbrev sg05 (s : D) (o2 o3 o4 o5 o6 o7 o8 o9 o10 o11 o12 : Option D) : Sg := [some s, some (.ref 1), o2, o3, o4, o5, o6, o7, o8, o9, o10, o11, o12]
theorem law05 (g : G05 C fis) (ns : List Int) (hl : ns.length ≤ 63) : Wp (callK C fis 12 i_law_k05 [.lst (ns.map D.int)] []) (fun d _ => d = .bl true) (fun _ _ => False) := by
  refine c_call (k := 11) g.law rfl rfl ?_
  unfold a_law_k05
  one_sign
  refine mix_wp g.b hl fun m hm _ _ => ?_
  one_sign
  refine ⟨12, rfl, ?_⟩
  with_reducible refine wk_range ?ra ?rb ?rc ?rd ?re
  case ra => omega
  case rb => omega
  case rc => omega
  case rd => omega
  refine for_inv (fun ds σ m => Hh m 1 0 ∧ ∃ o2 o3 o4 o5 o6 o7 o8 o9 o10 o11 o12, σ = sg05 (.lst (ns.map D.int)) o2 o3 o4 o5 o6 o7 o8 o9 o10 o11 o12) _ _ _ ⟨hm, none, none, none, none, none, none, none, none, none, none, none, rfl⟩ ?_ ?_
  · rintro d ds σ m ⟨hm, o2, o3, o4, o5, o6, o7, o8, o9, o10, o11, o12, rfl⟩
    refine ⟨rfl, ?_⟩
    show WpS (exms _ _ _ (sg05 (.lst (ns.map D.int)) (some d) o3 o4 o5 o6 o7 o8 o9 o10 o11 o12) m) _ _ _ _ _
    one_sign
    refine steps_wp g.b g.steps hm fun a0 m1 la xa0 h1 g1 => ?_
    one_sign
    refine steps_wp g.b g.steps h1 fun b0 m2 lb xb0 h2 g2 => ?_
    one_sign
    refine ⟨_, rfl, ?_⟩
    refine z_seq (fun σ m => Hh m 1 0 ∧ ∃ b : List (List Int), b.length ≤ 8 ∧ (∀ x ∈ b, x.length ≤ 2) ∧ σ = sg05 (.lst (ns.map D.int)) (some d) (some (.tup (a0.map stepD))) (some (.tup (b.map stepD))) o5 o6 o7 o8 o9 o10 o11 o12) ?_ ?_
    · one_sign
      refine next_wp g.b h2 (cap := 3) (by decide) ?_
      intro v m3 v0 v1 h3 g3
      one_sign
      refine ⟨_, rfl, fun _ => ?_, fun _ => ?_⟩
      · one_sign
        refine b_tup (by simp only [List.length_map]; unfold LIM; omega) ?_
        one_sign
        refine ⟨h3, a0 ++ b0, by simp; omega, fun x hx => (List.mem_append.mp hx).elim (xa0 x) (xb0 x), ?_⟩
        rw [← List.map_append]
        rfl
      · one_sign
        exact ⟨h3, b0, by omega, xb0, rfl⟩
    rintro σ m3 ⟨h3, b, lb8, xb, rfl⟩
    refine z_seq (fun σ m => Hh m 1 0 ∧ ∃ a : List (List Int), a.length ≤ 8 ∧ (∀ x ∈ a, x.length ≤ 2) ∧ σ = sg05 (.lst (ns.map D.int)) (some d) (some (.tup (a.map stepD))) (some (.tup (b.map stepD))) o5 o6 o7 o8 o9 o10 o11 o12) ?_ ?_
    · one_sign
      refine next_wp g.b h3 (cap := 4) (by decide) ?_
      intro v m4 v0 v1 h4 g4
      one_sign
      refine ⟨_, rfl, fun _ => ?_, fun _ => ?_⟩
      · one_sign
        exact ⟨h4, b, lb8, xb, rfl⟩
      · one_sign
        exact ⟨h4, a0, by omega, xa0, rfl⟩
    rintro σ m4 ⟨h4, a, la8, xa, rfl⟩
    have pa : Pl (a.map stepD) := Pl.steps (by omega)
    have pb : Pl (b.map stepD) := Pl.steps (by omega)
    -- the two addresses
    one_sign
    refine w_newA g.a.adrC.symm ?_
    one_sign
    refine .inr ⟨_, rfl, ?_⟩
    one_sign
    refine w_newA g.a.adrC.symm ?_
    one_sign
    refine .inr ⟨_, rfl, ?_⟩
    one_sign
    refine ⟨_, rfl, ?_⟩
    one_sign
    have la6 : a.length ≤ 1000000 := by omega
    have lb6 : b.length ≤ 1000000 := by omega
    refine before_wp g (k := 10) la6 lb6 ?_
    one_sign
    refine before_wp g (k := 10) lb6 la6 ?_
    one_sign
    refine ⟨_, rfl, ?_⟩
    -- what the address tells
    have mA : ∀ {n f}, C.mth c_Address n = some f → C.mth C.adrC n = some f := fun h => by rw [g.a.adrC]; exact h
    one_sign
    refine c_adr (.inl ⟨rfl, rfl⟩) (mA g.a.m_eq) (adr_eq (k := 10) g.a pa pb ?_)
    one_sign
    refine c_adr (.inr (.inl ⟨rfl, rfl⟩)) (mA g.a.m_lt) (adr_lt (k := 10) g.a la6 lb6 ?_)
    one_sign
    refine c_adr (.inr (.inr (.inl ⟨rfl, rfl⟩))) (mA g.a.m_le) (adr_le (k := 10) g.a la6 lb6 ?_)
    one_sign
    refine c_adr (.inr (.inr (.inr (.inl ⟨rfl, rfl⟩)))) (mA g.a.m_gt) (adr_gt (k := 10) g.a la6 lb6 ?_)
    one_sign
    refine c_adr (.inr (.inr (.inr (.inr ⟨rfl, rfl⟩)))) (mA g.a.m_ge) (adr_ge (k := 10) g.a la6 lb6 ?_)
    one_sign
    refine c_eqR pa.res pb.res ?_
    one_sign
    refine ⟨_, rfl, ?_⟩
    one_sign
    refine ⟨_, rfl, ?_⟩
    one_sign
    refine alike2 g.b (k := 10) (ds := [.bl (D.eqvs (a.map stepD) (b.map stepD)), .bl (D.lts (a.map stepD) (b.map stepD)), .bl (!D.lts (b.map stepD) (a.map stepD)), .bl (D.lts (b.map stepD) (a.map stepD)), .bl (!D.lts (a.map stepD) (b.map stepD))]) ?_ ?_ ⟨rfl, of_decide_eq_true rfl, of_decide_eq_true rfl⟩ (of_decide_eq_true rfl) ⟨trivial, trivial, trivial, trivial, trivial, trivial⟩ (by decide) fun m5 g5 => ?_
    · simp
    · simp [D.eqv]
    refine ⟨_, rfl, _, rfl, br_f rfl ?_⟩
    have h5 : Hh m5 1 0 := ((h4.gr (Gr.push (S := []) _) (by simp) (by simp)).gr (Gr.push (S := []) _) (by simp) (by simp)).gr g5 (by simp) (by simp)
    clear g5
    -- above, below
    one_sign
    refine w_andB ?_
    one_sign
    refine ⟨_, D.eqvs ((b.map stepD).take (a.map stepD).length) (a.map stepD), rfl, fun _ => ?_, ?_⟩
    · one_sign
      refine ⟨_, rfl, ?_⟩
      one_sign
      rw [cut_hi]
      exact c_eqR (pb.take _).res pa.res ⟨rfl, rfl⟩
    one_sign
    refine w_andB ?_
    one_sign
    refine ⟨_, D.eqvs ((a.map stepD).take (b.map stepD).length) (b.map stepD), rfl, fun _ => ?_, ?_⟩
    · one_sign
      refine ⟨_, rfl, ?_⟩
      one_sign
      rw [cut_hi]
      exact c_eqR (pa.take _).res pb.res ⟨rfl, rfl⟩
    one_sign
    refine ⟨_, rcv_adr g.a g.m_above, ?_⟩
    one_sign
    refine adr_above (k := 10) g.above pa pb ?_
    one_sign
    refine ⟨_, rcv_adr g.a g.m_above, ?_⟩
    one_sign
    refine adr_above (k := 10) g.above pb pa ?_
    one_sign
    refine alike2 g.b (k := 10) (ds := [.bl (decide ((a.map stepD).length < (b.map stepD).length) && D.eqvs ((b.map stepD).take (a.map stepD).length) (a.map stepD)), .bl (decide ((b.map stepD).length < (a.map stepD).length) && D.eqvs ((a.map stepD).take (b.map stepD).length) (b.map stepD))]) ?_ ?_ ⟨rfl, of_decide_eq_true rfl, of_decide_eq_true rfl⟩ (of_decide_eq_true rfl) ⟨trivial, trivial, trivial⟩ (by decide) fun m6 g6 => ?_
    · simp
    · simp
    refine ⟨_, rfl, _, rfl, br_f rfl ?_⟩
    have h6 : Hh m6 1 0 := ((h5.gr (Gr.push (S := []) _) (by simp) (by simp)).gr (Gr.push (S := []) _) (by simp) (by simp)).gr g6 (by simp) (by simp)
    clear g6
    -- apart
    one_sign
    refine ⟨_, rcv_adr g.a g.m_apart, ?_⟩
    one_sign
    refine adr_apart (k := 9) g pa pb ?_
    one_sign
    refine w_andB ?_
    one_sign
    refine c_neR pa.res pb.res ?_
    refine ⟨_, (!(decide ((a.map stepD).length < (b.map stepD).length) && D.eqvs ((b.map stepD).take (a.map stepD).length) (a.map stepD)) && !(decide ((b.map stepD).length < (a.map stepD).length) && D.eqvs ((a.map stepD).take (b.map stepD).length) (b.map stepD))), rfl, fun _ => ?_, ?_⟩
    · refine w_andB ?_
      one_sign
      refine ⟨_, rfl, ?_⟩
      refine ⟨_, (!(decide ((b.map stepD).length < (a.map stepD).length) && D.eqvs ((a.map stepD).take (b.map stepD).length) (b.map stepD))), rfl, fun _ => ?_, ?_⟩
      · one_sign
        refine ⟨_, rfl, ?_⟩
        simp
      · simp
    one_sign
    refine alike_wp g.b 1 _ _ (.bl (!D.eqvs (a.map stepD) (b.map stepD) && (!(decide ((a.map stepD).length < (b.map stepD).length) && D.eqvs ((b.map stepD).take (a.map stepD).length) (a.map stepD)) && !(decide ((b.map stepD).length < (a.map stepD).length) && D.eqvs ((a.map stepD).take (b.map stepD).length) (b.map stepD))))) _ 10 _ _ (by decide) rfl (by simp [resolve, D.eqv]) trivial (by decide) fun m7 g7 => ?_
    refine ⟨_, rfl, _, rfl, br_f rfl ?_⟩
    have h7 : Hh m7 1 0 := h6.gr g7 (by simp) (by simp)
    clear g7
    -- a step more
    one_sign
    refine next_wp g.b h7 (cap := 2) (by decide) ?_
    intro z m8 z0 z1 h8 g8
    obtain ⟨s, hs, ls⟩ : ∃ s : List Int, (ixOf 2 z).bind (fun k => ([.tup [.int 1], .tup [.int 2, .int 3]] : List D)[k]?) = some (stepD s) ∧ s.length ≤ 2 := by
      have : z = 0 ∨ z = 1 := by omega
      rcases this with rfl | rfl
      · exact ⟨[1], rfl, by decide⟩
      · exact ⟨[2, 3], rfl, by decide⟩
    refine x_tup hs ?_
    have eS : stepD s = .tup (s.map D.int) := rfl
    rw [eS]
    one_sign
    refine b_adr (mA g.a.m_add) (adr_add (k := 10) g.a (by rw [List.length_map]; unfold LIM; omega) ?_)
    one_sign
    refine b_rad (mA g.a.m_radd) (adr_radd (k := 10) g.a (by rw [List.length_map]; unfold LIM; omega) ?_)
    one_sign
    refine b_tup (by simp only [List.length_map, List.length_cons, List.length_nil]; unfold LIM; omega) ?_
    one_sign
    refine b_tup (by simp only [List.length_map, List.length_cons, List.length_nil]; unfold LIM; omega) ?_
    one_sign
    rw [← eS]
    have e1 : a.map stepD ++ [stepD s] = (a ++ [s]).map stepD := by simp
    have e2 : stepD s :: a.map stepD = (s :: a).map stepD := rfl
    have e3 : [stepD s] ++ a.map stepD = (s :: a).map stepD := rfl
    rw [e1, e2, e3]
    have x1 : ∀ x ∈ a ++ [s], x.length ≤ 2 := fun x hx => (List.mem_append.mp hx).elim (xa x) fun h => by simp at h; subst h; exact ls
    have x2 : ∀ x ∈ s :: a, x.length ≤ 2 := fun x hx => (List.mem_cons.mp hx).elim (fun h => by subst h; exact ls) (xa x)
    obtain ⟨p1, d1⟩ := stp_tup (a := a ++ [s])
    obtain ⟨p2, d2⟩ := stp_tup (a := s :: a)
    obtain ⟨p3, d3⟩ := stp_tup (a := a)
    refine alike2 g.b (k := 10) (ds := [.tup ((a ++ [s]).map stepD), .tup ((s :: a).map stepD), .tup (a.map stepD)]) ?_ ?_ ⟨by simp only [D.pls, p1, p2, p3, Bool.and_self], by simp only [D.deps]; omega, of_decide_eq_true rfl⟩ (by simp only [D.deps]; omega) ⟨⟨by rw [List.length_map, List.length_append]; simp; omega, len4_steps x1⟩, ⟨by rw [List.length_map, List.length_cons]; omega, len4_steps x2⟩, ⟨by rw [List.length_map]; omega, len4_steps xa⟩, trivial⟩ (by decide) fun m9 g9 => ?_
    · simp
    · simp
    refine ⟨_, rfl, _, rfl, br_f rfl ?_⟩
    have h9 : Hh m9 1 0 := ((h8.gr (Gr.push (S := []) _) (by simp) (by simp)).gr (Gr.push (S := []) _) (by simp) (by simp)).gr g9 (by simp) (by simp)
    clear g9
    refine z_nil ?_
    -- the parent
    refine z_seq (fun σ m => Hh m 1 0 ∧ ∃ p4 p6 p7 p8 p9 p10 p11, σ = sg05 (.lst (ns.map D.int)) (some d) (some (.tup (a.map stepD))) p4 (some (.adr (.tup (a.map stepD)))) p6 p7 p8 p9 p10 p11 (some (.tup (s.map D.int)))) ?hA ?hB
    case hA =>
      one_sign
      refine par_wp (k := 9) g pa (fun hn => ?_) (fun hn => ?_)
      · one_sign
        refine c_neR pa.res rfl ⟨_, rfl, br_t ?_ ?_⟩
        · cases ha : a.map stepD with
          | nil => exact absurd ha hn
          | cons x r => simp [D.eqv, D.eqvs]
        one_sign
        refine ⟨_, rfl, ?_⟩
        one_sign
        rw [cut_last]
        have xt : ∀ x ∈ a.take ((a.map stepD).length - 1), x.length ≤ 2 := fun x hx => xa x (List.mem_of_mem_take hx)
        rw [← List.map_take]
        obtain ⟨p4, d4⟩ := stp_tup (a := a.take ((a.map stepD).length - 1))
        refine alike_wp g.b 5 _ _ _ _ 10 _ _ (by decide) (resolve_pl _ _ p4 (by omega)) (resolve_pl _ _ p4 (by omega)) ⟨by rw [List.length_map, List.length_take]; omega, len4_steps xt⟩ (by decide) fun m10 g10 => ?_
        refine ⟨_, rfl, _, rfl, br_f rfl ?_⟩
        exact ⟨h9.gr g10 (by simp) (by simp), _, _, _, _, _, _, _, rfl⟩
      · one_sign
        refine c_neR pa.res rfl ⟨_, rfl, br_f (by rw [hn]; rfl) ?_⟩
        one_sign
        refine alike2 g.b (k := 10) (ds := [.tup [], .bl true]) ?_ ?_ ⟨rfl, by decide, by decide⟩ (by decide) ⟨⟨by decide, trivial⟩, trivial, trivial⟩ (by decide) fun m10 g10 => ?_
        · simp
        · simp
        refine ⟨_, rfl, _, rfl, br_f rfl ?_⟩
        exact ⟨((h9.gr (Gr.push (S := []) _) (by simp) (by simp)).gr (Gr.push (S := []) _) (by simp) (by simp)).gr g10 (by simp) (by simp), _, _, _, _, _, _, _, rfl⟩
    rintro σ m10 ⟨h10, p4, p6, p7, p8, p9, p10, p11, rfl⟩
    -- the length, the parent of a child, no tuple
    one_sign
    refine w_or ?_
    one_sign
    refine n_adr (f := i_m_Address_len) (mA g.a.m_len) ?_
    refine adr_len (k := 10) g.a ⟨_, rfl, by omega, by rw [List.length_map]; unfold LIM; omega, ?_⟩
    one_sign
    refine alike_wp g.b 1 _ _ (.int _) _ 10 _ _ (by decide) rfl rfl trivial (by decide) fun m11 g11 => ?_
    refine ⟨_, rfl, _, rfl, br_f rfl ?_⟩
    refine w_or ?_
    one_sign
    refine b_adr (mA g.a.m_add) (adr_add (k := 10) g.a (by rw [List.length_map]; unfold LIM; omega) ?_)
    refine ⟨_, rcv_adr g.a g.m_parent, ?_⟩
    one_sign
    have pas : Pl (a.map stepD ++ [D.tup (s.map D.int)]) := by
      rw [← eS, e1]
      exact Pl.steps (by simp; omega)
    refine adr_parent (k := 10) g.a g.parent g.xf pas (fun _ => ?_) (fun z => ?_)
    · have et : (a.map stepD ++ [D.tup (s.map D.int)]).take ((a.map stepD ++ [D.tup (s.map D.int)]).length - 1) = a.map stepD := by simp
      rw [et]
      one_sign
      refine c_adr (.inl ⟨rfl, rfl⟩) (mA g.a.m_eq) (adr_eq (k := 10) g.a pa pa ?_)
      rw [eqvs_refl _ pa.pl]
      refine ⟨_, rfl, _, rfl, br_f rfl ?_⟩
      one_sign
      refine c_adrT (mA g.a.m_eq) (adr_eqT (k := 10) g.a ?_)
      refine ⟨_, rfl, br_f rfl ?_⟩
      one_sign
      exact ⟨h10.gr g11 (by simp) (by simp), _, _, _, _, _, _, _, _, _, _, _, rfl⟩
    · simp at z
  · rintro σ m ⟨hm, o2, o3, o4, o5, o6, o7, o8, o9, o10, o11, o12, rfl⟩
    refine ⟨rfl, ?_⟩
    one_sign
    refine w_newA g.a.adrC.symm ?_
    one_sign
    refine .inl ⟨rfl, ?_⟩
    one_sign
    refine w_newA g.a.adrC.symm ?_
    one_sign
    refine .inl ⟨rfl, ?_⟩
    one_sign
    refine n_adr (f := i_m_Address_len) (by show C.mth C.adrC _ = _; rw [g.a.adrC]; exact g.a.m_len) ?_
    refine adr_len (k := 10) g.a ⟨_, rfl, by decide, by decide, ?_⟩
    one_sign
    refine alike2 g.b (k := 10) (ds := [.tup [], .int 0]) ?_ ?_ ⟨rfl, by decide, by decide⟩ (by decide) ⟨⟨by decide, trivial⟩, trivial, trivial⟩ (by decide) fun m' _ => rfl
    · simp
    · simp
end
end Pw
set_option Elab.async false
set_option linter.all false
set_option maxRecDepth 100000
set_option maxHeartbeats 4000000
namespace Pw.K05
theorem g05 : G05 C fis := by
  refine ⟨⟨?_, ?_, ?_⟩, ⟨?_, ?_, ?_, ?_, ?_, ?_, ?_, ?_, ?_, ?_, ?_, ?_, ?_, ?_, ?_, ?_, ?_, ?_⟩, ?_, ?_, ?_, ?_, ?_, ?_, ?_, ?_, ?_, ?_, ?_, ?_, ?_, ?_⟩ <;> kernel_rfl
theorem law (ns : List Int) (hl : ns.length ≤ 63) : ∃ m, callK C fis 12 i_law_k05 [.lst (ns.map D.int)] [] = .ok (.bl true) m := by
  obtain ⟨a, m, h1, h2⟩ := (law05 g05 ns hl).get
  exact ⟨m, by rw [h1, h2]⟩
end Pw.K05
set_option maxRecDepth 100000 in
set_option maxHeartbeats 0 in
theorem PySem.Challenge.cw_partwords_k05_addresses_in_order_holds : PySem.Challenge.rw_partwords_k05_addresses_in_order.Holds := by
  exact Pw.K05.holds_of (k := 12) ⟨by decide, by decide, by decide⟩ Pw.K05.law
