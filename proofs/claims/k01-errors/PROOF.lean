import PyProof.Rows.All
import Wide.All
import OpenK.AllK
import Wide.FinOn
import KE.KeyNested
import HandS.List
import HandS.Text
import HandS.ForExc
import HandS.More
import HandS.Flow
import HandS.Style
import HandS.Star
import HandS.TryMany
import HandS.ExcInit
import HandS.ExcField
import HandS.ExcIs
import HandS.CallSlots
import HandS.IsInst
import HandS.Wide
import HandS.Comp
import HandS.Iter
import HandS.Conv
import HandS.Head2
import HandS.HeadHook4
import HandS.HeadWalk
import KE.DataEq
import HandS.TupMul
import HandS.Defaults
import HandS.HeadEnd
import HandS.WordsExc
import KE.KStateDown
import KE.DataCmp
import PySem.Challenge.RW_treestacks_k01_errors
set_option Elab.async false
set_option linter.all false
section
set_option maxRecDepth 100000
namespace PS
open PySem

inductive T where
  | non | bl (b : Bool) | int (i : Int) | str (x : Str)
  | tup (xs : List T) | lst (xs : List T) | dct (tk : Bool) (ks vs : List T)
  | ref (n : Nat) | clo (f : Nat) (caps : List T) | exn (c : Nat) (v : T)
  deriving Inhabited
inductive Cell where
  | lst (xs : List T) | dct (tk : Bool) (ks vs : List T) | obj (c : Nat) (fs : List (Nat × T)) | exo (c : Nat) (v : T)
abbrev AH := List Cell
inductive R (α : Type) where
  | ok (a : α) (h : AH) | exc (c : Nat) (v : T) (h : AH) | stuck
def R.bind {α β : Type} (r : R α) (f : α → AH → R β) : R β := match r with
  | .ok a h => f a h
  | .exc c v h => .exc c v h
  | .stuck => .stuck
@[simp] theorem R.bind_ok {α β : Type} (a : α) (h : AH) (f : α → AH → R β) : (R.ok a h).bind f = f a h := rfl
@[simp] theorem R.bind_exc {α β : Type} (c : Nat) (v : T) (h : AH) (f : α → AH → R β) : (R.exc c v h : R α).bind f = .exc c v h := rfl
@[simp] theorem R.bind_stuck {α β : Type} (f : α → AH → R β) : (R.stuck : R α).bind f = .stuck := rfl
def R.toS {α : Type} {β : Type} (r : R α) (ex : Nat → T → AH → β) (st : β) (f : α → AH → β) : β := match r with
  | .ok a h => f a h
  | .exc c v h => ex c v h
  | .stuck => st
@[simp] theorem R.toS_ok {α β : Type} (a : α) (h : AH) (e : Nat → T → AH → β) (st : β) (f : α → AH → β) : (R.ok a h).toS e st f = f a h := rfl
@[simp] theorem R.toS_exc {α β : Type} (c : Nat) (v : T) (h : AH) (e : Nat → T → AH → β) (st : β) (f : α → AH → β) : (R.exc c v h : R α).toS e st f = e c v h := rfl
@[simp] theorem R.toS_stuck {α β : Type} (e : Nat → T → AH → β) (st : β) (f : α → AH → β) : (R.stuck : R α).toS e st f = st := rfl
def R.of {α : Type} (o : Option α) (h : AH) : R α := match o with
  | some a => .ok a h
  | none => .stuck
@[simp] theorem R.of_some {α : Type} (a : α) (h : AH) : R.of (some a) h = .ok a h := rfl
@[simp] theorem R.of_none {α : Type} (h : AH) : R.of (none : Option α) h = .stuck := rfl
abbrev Env := List (Option T)
inductive RS where
  | next (e : Env) (h : AH) | brk (e : Env) (h : AH) | cont (e : Env) (h : AH) | ret (m : Option Nat) (t : T) (h : AH) | exc (c : Nat) (v : T) (e : Env) (h : AH) | stuck

mutual
def T.dat : T → Option PyData
  | .non => some .none
  | .bl b => some (.bool b)
  | .int i => some (.int i)
  | .str x => some (.str x)
  | .tup xs => (T.datL xs).map .tuple
  | .lst xs => (T.datL xs).map .list
  | .dct _ _ _ => none
  | .ref _ => none
  | .clo _ _ => none
  | .exn _ _ => none
def T.datL : List T → Option (List PyData)
  | [] => some []
  | x :: xs => match T.dat x, T.datL xs with
    | some d, some ds => some (d :: ds)
    | _, _ => none
end
mutual
def T.key : T → Option NestedKey
  | .non => some .none
  | .bl b => some (.num (if b = true then 1 else 0))
  | .int i => some (.num i)
  | .str x => some (.text x)
  | .tup xs => (T.keyL xs).map .tup
  | .lst _ => none
  | .dct _ _ _ => none
  | .ref _ => none
  | .clo _ _ => none
  | .exn _ _ => none
def T.keyL : List T → Option (List NestedKey)
  | [] => some []
  | x :: xs => match T.key x, T.keyL xs with
    | some d, some ds => some (d :: ds)
    | _, _ => none
end
mutual
def T.und (n : Nat) : T → Bool
  | .non => true
  | .bl _ => true
  | .int _ => true
  | .str _ => true
  | .tup xs => T.undL n xs
  | .lst xs => T.undL n xs
  | .dct _ ks vs => T.undL n ks && T.undL n vs
  | .ref m => decide (m < n)
  | .clo _ xs => T.undL n xs
  | .exn _ _ => false
def T.undL (n : Nat) : List T → Bool
  | [] => true
  | x :: xs => T.und n x && T.undL n xs
end
def Cell.und (n : Nat) : Cell → Bool
  | .lst xs => T.undL n xs
  | .dct _ ks vs => T.undL n ks && T.undL n vs
  | .obj _ fs => T.undL n (fs.map (·.2))
  | .exo _ v => T.und n v

def snap (h : AH) : T → T
  | .ref n => match h[n]? with
    | some (.lst xs) => .lst xs
    | some (.dct tk ks vs) => .dct tk ks vs
    | _ => .ref n
  | t => t
def seqV (h : AH) (t : T) : Option (List T) := match snap h t with
  | .tup xs => some xs
  | .lst xs => some xs
  | _ => none
def isList (h : AH) (t : T) : Option (List T) := match snap h t with
  | .lst xs => some xs
  | _ => none
def dctV (h : AH) (t : T) : Option (Bool × List T × List T) := match snap h t with
  | .dct tk ks vs => some (tk, ks, vs)
  | _ => none
def chars (x : Str) : List T := x.cps.toList.map fun c => .str ⟨#[c]⟩
def iterV (h : AH) (t : T) : Option (List T) := match snap h t with
  | .tup xs => some xs
  | .lst xs => some xs
  | .str x => some (chars x)
  | _ => none
def watchV : T → Option Nat
  | .ref n => some n
  | _ => none
def truT (h : AH) (t : T) : Option Bool := match snap h t with
  | .non => some false
  | .bl b => some b
  | .int i => some (i != 0)
  | .str x => if x.length ≤ sizeLine then some (x.length != 0) else none
  | .tup xs => some (!xs.isEmpty)
  | .lst xs => some (!xs.isEmpty)
  | _ => none
def deepest : Nat := 180
def eqD (d e : PyData) : Option Bool := if min d.depth e.depth ≤ deepest then some (PyData.eqv d e) else none
def eqT (a b : T) : Option Bool := match a.dat, b.dat with
  | some d, some e => eqD d e
  | _, _ => none
def inL (x : T) (xs : List T) : Option Bool := match x.dat, T.datL xs with
  | some d, some es => if min (PyData.depthAll es) d.depth ≤ deepest then some (es.any fun e => PyData.eqv e d) else none
  | _, _ => none
def findK (k : NestedKey) : List T → Option Nat
  | [] => none
  | x :: xs => if x.key = some k then some 0 else (findK k xs).map (· + 1)
def setK (k : NestedKey) (t : T) : List T → List T → List T
  | x :: xs, v :: vs => (if x.key = some k then t else v) :: setK k t xs vs
  | _, vs => vs
def flatK : T → Bool
  | .int _ => true
  | .str _ => true
  | _ => false
def keyOk (tk : Bool) (t : T) : Option NestedKey := match tk, t with
  | false, .int i => some (.num i)
  | false, .str x => some (.text x)
  | true, .tup xs => if xs.all flatK = true then T.key (.tup xs) else none
  | _, _ => none
def fresh (m : Bool) (xs : List T) (h : AH) : R T := if xs.length ≤ sizeLine then (if m = true then .ok (.ref h.length) (h ++ [.lst xs]) else .ok (.lst xs) h) else .stuck

inductive Bo where | add | sub | mul | mod | fdiv | pow
inductive Co where | eq | ne | lt | le | gt | ge | is | isnot | isin | notin
inductive Ty where | int | bool | str | tuple | list | cls (c : Nat)
inductive Bf where | len | abs | int | str | list | tuple | sum | max | min | all | any | max2 | min2 | sorted | keys
inductive Bm where | append | extend | pop | pop0 | insert | index | count | get | setdefault

def binT (m : Bool) (o : Bo) (x y : T) (h : AH) : R T := match o with
  | .add => match x, y with
    | .int i, .int j => .ok (.int (i + j)) h
    | .str a, .str b => if a.length + b.length ≤ sizeLine then .ok (.str (a ++ b)) h else .stuck
    | .tup xs, .tup ys => if xs.length + ys.length ≤ sizeLine then .ok (.tup (xs ++ ys)) h else .stuck
    | x, y => match isList h x, isList h y with
      | some xs, some ys => fresh m (xs ++ ys) h
      | _, _ => .stuck
  | .sub => match x, y with
    | .int i, .int j => .ok (.int (i - j)) h
    | _, _ => .stuck
  | .mul => match x, y with
    | .int i, .int j => if (-(2 ^ 64) < i ∧ i < 2 ^ 64) ∨ (-(2 ^ 64) < j ∧ j < 2 ^ 64) then .ok (.int (i * j)) h else .stuck
    | .tup xs, .int j => if xs.isEmpty = false ∧ 2 ≤ j ∧ j ≤ 1000 ∧ xs.length ≤ 1000 then .ok (.tup (List.replicate j.toNat xs).flatten) h else .stuck
    | _, _ => .stuck
  | .mod => match x, y with
    | .int i, .int j => if 0 < j then .ok (.int (i % j)) h else .stuck
    | _, _ => .stuck
  | .fdiv => match x, y with
    | .int i, .int j => if 0 < j ∧ j < 1073741824 then .ok (.int (i / j)) h else .stuck
    | _, _ => .stuck
  | .pow => match x, y with
    | .int i, .int j => if 0 ≤ j ∧ j ≤ 1000000 ∧ i.natAbs < 2 ^ 64 then .ok (.int (i ^ j.toNat)) h else .stuck
    | _, _ => .stuck
def subStr (a b : Str) : Bool := !(Builtin.Str.occurrences b a 0 b.length 1).isEmpty
def inT (h : AH) (x y : T) : Option Bool := match snap h y with
  | .tup xs => inL (snap h x) xs
  | .lst xs => inL (snap h x) xs
  | .dct tk ks _ => match keyOk tk x with
    | some k => some (findK k ks).isSome
    | none => none
  | .str b => match x with
    | .str a => some (subStr a b)
    | _ => none
  | _ => none
def isT (x y : T) : Option Bool := match y with
  | .non => some (match x with | .non => true | _ => false)
  | .bl b => some (match x with | .bl c => c == b | _ => false)
  | _ => none
def ordT (fi : Int → Int → Bool) (fs : List Nat → List Nat → Bool) (x y : T) : Option Bool := match x, y with
  | .int i, .int j => some (fi i j)
  | .str a, .str b => some (fs a.cps.toList b.cps.toList)
  | _, _ => none
def cmpT (o : Co) (h : AH) (x y : T) : Option Bool := match o with
  | .eq => eqT (snap h x) (snap h y)
  | .ne => (eqT (snap h x) (snap h y)).map (!·)
  | .lt => ordT (fun i j => decide (i < j)) (fun a b => decide (a < b)) x y
  | .le => ordT (fun i j => decide (i ≤ j)) (fun a b => !decide (b < a)) x y
  | .gt => ordT (fun i j => decide (j < i)) (fun a b => decide (b < a)) x y
  | .ge => ordT (fun i j => decide (j ≤ i)) (fun a b => !decide (a < b)) x y
  | .is => isT x y
  | .isnot => (isT x y).map (!·)
  | .isin => inT h x y
  | .notin => (inT h x y).map (!·)
def idxT (h : AH) (x y : T) : Option T := match snap h x with
  | .tup xs => match y with
    | .int i => L2.atI xs i
    | _ => none
  | .lst xs => match y with
    | .int i => L2.atI xs i
    | _ => none
  | .dct tk ks vs => match keyOk tk y with
    | some k => match findK k ks with
      | some j => vs[j]?
      | none => none
    | none => none
  | .str a => match y with
    | .int i => if a.length ≤ sizeLine then (L2.atI a.cps.toList i).map fun c => .str ⟨#[c]⟩ else none
    | _ => none
  | _ => none
def cutL (xs : List T) (lo hi : Option Int) : List T := (xs.drop (HT.sIx xs.length 0 lo)).take (HT.sIx xs.length xs.length hi - HT.sIx xs.length 0 lo)
def slcT (m : Bool) (x : T) (lo hi : Option Int) (h : AH) : R T := match snap h x with
  | .tup xs => .ok (.tup (cutL xs lo hi)) h
  | .lst xs => fresh m (cutL xs lo hi) h
  | .str a => if a.length ≤ sizeLine then .ok (.str (L2.cutS a lo hi)) h else .stuck
  | _ => .stuck
def revT (m : Bool) (x : T) (h : AH) : R T := match snap h x with
  | .tup xs => .ok (.tup xs.reverse) h
  | .lst xs => fresh m xs.reverse h
  | _ => .stuck
def intsT : List T → Option (List Int)
  | [] => some []
  | .int i :: r => (intsT r).map (i :: ·)
  | _ :: _ => none
def blsT : List T → Option (List Bool)
  | [] => some []
  | .bl b :: r => (blsT r).map (b :: ·)
  | _ :: _ => none
def maxI : List Int → Int
  | [] => 0
  | [x] => x
  | x :: r => if x < maxI r then maxI r else x
def minI : List Int → Int
  | [] => 0
  | [x] => x
  | x :: r => if minI r < x then minI r else x
def lenT (h : AH) (t : T) : Option Nat := match snap h t with
  | .tup xs => some xs.length
  | .lst xs => some xs.length
  | .str a => if a.length ≤ sizeLine then some a.length else none
  | _ => none
def strT : T → Option Str
  | .int i => if i.natAbs.log2 < 1920 then some (Str.ofString (toString i)) else none
  | _ => none
def bfT (m : Bool) (f : Bf) (xs : List T) (h : AH) : R T := match f, xs with
  | .len, [t] => match lenT h t with
    | some n => .ok (.int n) h
    | none => .stuck
  | .abs, [.int i] => .ok (.int (if i < 0 then -i else i)) h
  | .int, [.int i] => .ok (.int i) h
  | .int, [.bl b] => .ok (.int (if b then 1 else 0)) h
  | .str, [t] => match strT t with
    | some x => .ok (.str x) h
    | none => .stuck
  | .list, [t] => match seqV h t with
    | some ys => fresh m ys h
    | none => .stuck
  | .tuple, [t] => match seqV h t with
    | some ys => .ok (.tup ys) h
    | none => .stuck
  | .sum, [t] => match isList h t with
    | some ys => match intsT ys with
      | some ns => .ok (.int ns.sum) h
      | none => .stuck
    | none => .stuck
  | .max, [t] => match isList h t with
    | some ys => match intsT ys with
      | some ns => if 0 < ns.length then .ok (.int (maxI ns)) h else .stuck
      | none => .stuck
    | none => .stuck
  | .min, [t] => match isList h t with
    | some ys => match intsT ys with
      | some ns => if 0 < ns.length then .ok (.int (minI ns)) h else .stuck
      | none => .stuck
    | none => .stuck
  | .all, [t] => match isList h t with
    | some ys => match blsT ys with
      | some bs => .ok (.bl (bs.all id)) h
      | none => .stuck
    | none => .stuck
  | .any, [t] => match isList h t with
    | some ys => match blsT ys with
      | some bs => .ok (.bl (bs.any id)) h
      | none => .stuck
    | none => .stuck
  | .sorted, [t] => match isList h t with
    | some ys => match intsT ys with
      | some ns => fresh m ((ns.mergeSort (fun a b => decide (a ≤ b))).map .int) h
      | none => .stuck
    | none => .stuck
  | .keys, [t] => match dctV h t with
    | some (false, ks, _) => fresh m ks h
    | _ => .stuck
  | .max2, [.int i, .int j] => .ok (.int (if j > i then j else i)) h
  | .min2, [.int i, .int j] => .ok (.int (if j < i then j else i)) h
  | _, _ => .stuck
def extV (h : AH) (t : T) : Option (List T) := match t with
  | .tup xs => some xs
  | t => isList h t
def isStrT : T → Bool
  | .str _ => true
  | _ => false
def isStr (a : Str) : T → Bool
  | .str b => decide (a = b)
  | _ => false
def cntT (xs : List T) (y : T) : Option Nat := match y with
  | .str a => if xs.all isStrT = true then some (xs.countP (isStr a)) else none
  | _ => none
def insAt (xs : List T) (i : Nat) (t : T) : List T := xs.take i ++ t :: xs.drop i
def bmT (m : Bool) (f : Bm) (x : T) (ys : List T) (h : AH) : R T := match f, ys with
  | .append, [t] => match x with
    | .ref n => match h[n]? with
      | some (.lst xs) => if xs.length < sizeLine then .ok .non (h.set n (.lst (xs ++ [t]))) else .stuck
      | _ => .stuck
    | _ => .stuck
  | .extend, [t] => match x with
    | .ref n => match h[n]? with
      | some (.lst xs) => match extV h t with
        | some zs => if xs.length + zs.length ≤ sizeLine ∧ watchV t ≠ some n then .ok .non (h.set n (.lst (xs ++ zs))) else .stuck
        | none => .stuck
      | _ => .stuck
    | _ => .stuck
  | .pop, [] => match x with
    | .ref n => match h[n]? with
      | some (.lst xs) => match xs[xs.length - 1]? with
        | some y => .ok y (h.set n (.lst xs.dropLast))
        | none => .stuck
      | _ => .stuck
    | _ => .stuck
  | .pop0, [.int i] => match x with
    | .ref n => match h[n]? with
      | some (.lst (y :: xs)) => if i = 0 then .ok y (h.set n (.lst xs)) else .stuck
      | _ => .stuck
    | _ => .stuck
  | .insert, [.int i, t] => match x with
    | .ref n => match h[n]? with
      | some (.lst xs) => if xs.length < sizeLine ∧ 0 ≤ i ∧ i ≤ xs.length then .ok .non (h.set n (.lst (insAt xs i.toNat t))) else .stuck
      | _ => .stuck
    | _ => .stuck
  | .index, [t] => match isList h x with
    | some xs => match blsT xs, t with
      | some bs, .bl b => match bs.findIdx? (· == b) with
        | some j => .ok (.int j) h
        | none => .stuck
      | _, _ => .stuck
    | none => .stuck
  | .count, [t] => match isList h x with
    | some xs => match cntT xs t with
      | some n => .ok (.int (n : Nat)) h
      | none => .stuck
    | none => .stuck
  | .get, [k, d] => match dctV h x with
    | some (tk, ks, vs) => match keyOk tk k with
      | some key => match findK key ks with
        | some j => match vs[j]? with
          | some v => .ok v h
          | none => .stuck
        | none => .ok d h
      | none => .stuck
    | none => .stuck
  | .setdefault, [k, d] => match x with
    | .ref n => match h[n]? with
      | some (.dct tk ks vs) => match keyOk tk k with
        | some key => match findK key ks with
          | some j => match vs[j]? with
            | some v => .ok v h
            | none => .stuck
          | none => if ks.length < sizeLine then .ok d (h.set n (.dct tk (ks ++ [k]) (vs ++ [d]))) else .stuck
        | none => .stuck
      | _ => .stuck
    | _ => .stuck
  | _, _ => .stuck
def bmOk (f : Bm) (x : T) (h : AH) : Bool := match f with
  | .get => (match x with | .ref _ => (dctV h x).isSome | _ => false)
  | .setdefault => (match x with | .ref _ => (dctV h x).isSome | _ => false)
  | _ => (isList h x).isSome
def eqOk (h : AH) (y : T) : Bool := match snap h y with
  | .dct _ _ _ => false
  | .clo _ _ => false
  | .exn _ _ => false
  | .ref n => (match h[n]? with | some (.obj _ _) => true | _ => false)
  | _ => true
def setT (x y t : T) (h : AH) : R Unit := match x with
  | .ref n => match h[n]? with
    | some (.lst xs) => match y with
      | .int i => match L2.ixN xs.length i with
        | some j => .ok () (h.set n (.lst (xs.set j t)))
        | none => .stuck
      | _ => .stuck
    | some (.dct tk ks vs) => match keyOk tk y with
      | some key => match findK key ks with
        | some _ => if ks.length < sizeLine then .ok () (h.set n (.dct tk ks (setK key t ks vs))) else .stuck
        | none => if ks.length < sizeLine then .ok () (h.set n (.dct tk (ks ++ [y]) (vs ++ [t]))) else .stuck
      | none => .stuck
    | _ => .stuck
  | _ => .stuck
def fldT (h : AH) (x : T) (c f : Nat) : Option T := match x with
  | .ref n => match h[n]? with
    | some (.obj c' fs) => if c' = c then fs.lookup f else none
    | _ => none
  | _ => none
def putF (f : Nat) (t : T) : List (Nat × T) → List (Nat × T)
  | [] => [(f, t)]
  | (g, u) :: r => if g = f then (f, t) :: r else (g, u) :: putF f t r
def stfT (x : T) (c f : Nat) (t : T) (h : AH) : R Unit := match x with
  | .ref n => match h[n]? with
    | some (.obj c' fs) => if c' = c ∧ fs.length < 100 then .ok () (h.set n (.obj c (putF f t fs))) else .stuck
    | _ => .stuck
  | _ => .stuck
def isTy (h : AH) (t : T) (y : Ty) : Option Bool := match snap h t with
  | .non => some false
  | .bl _ => some (match y with | .int => true | .bool => true | _ => false)
  | .int _ => some (match y with | .int => true | _ => false)
  | .str _ => some (match y with | .str => true | _ => false)
  | .tup _ => some (match y with | .tuple => true | _ => false)
  | .lst _ => some (match y with | .list => true | _ => false)
  | .ref n => match h[n]? with
    | some (.obj c _) => some (match y with | .cls d => c == d | _ => false)
    | _ => none
  | _ => none
def isTys (h : AH) (t : T) : List Ty → Option Bool
  | [] => some false
  | y :: r => match isTy h t y with
    | some true => some true
    | some false => isTys h t r
    | none => none

mutual
inductive TG where | nm (i : Nat) | tp (ts : TGs)
inductive TGs where | nil | cons (t : TG) (r : TGs)
end
mutual
def TG.slots : TG → List Nat
  | .nm i => [i]
  | .tp ts => TGs.slots ts
def TGs.slots : TGs → List Nat
  | .nil => []
  | .cons t r => TG.slots t ++ TGs.slots r
end
mutual
def TG.asg : TG → T → Env → Option Env
  | .nm i, t, e => some (e.set i (some t))
  | .tp ts, .tup xs, e => TGs.asg ts xs e
  | .tp _, _, _ => none
def TGs.asg : TGs → List T → Env → Option Env
  | .nil, [], e => some e
  | .cons t r, x :: xs, e => match TG.asg t x e with
    | some e1 => TGs.asg r xs e1
    | none => none
  | _, _, _ => none
end

mutual
inductive IE where
  | cst (t : T) | var (i : Nat) | glb (k : Nat) (t : T)
  | bin (m : Bool) (o : Bo) (a b : IE) | neg (a : IE) | not (a : IE)
  | cmp (o : Co) (a b : IE) | chain (o : Co) (a b : IE) (o' : Co) (c : IE)
  | and (a b : IE) | or (a b : IE) | ite (c a b : IE)
  | tup (es : IL) | lst (m : Bool) (es : IL) | dic (m tk : Bool)
  | kin (n : Bool) (k : Nat) (zs : List Str) (a : IE) | kget (k : Nat) (zs : List (Str × T)) (a : IE)
  | idx (a i : IE) | slc (m : Bool) (a : IE) (lo hi : IO) | rev (m : Bool) (a : IE)
  | fld (a : IE) (c f : Nat) | fle (a : IE) (f : Nat)
  | call (f : Nat) (es : IL) | mk (c f : Nat) (es : IL) | met (a : IE) (c m f : Nat) (es : IL)
  | bf (m : Bool) (f : Bf) (es : IL) | bm (m : Bool) (f : Bm) (a : IE) (es : IL)
  | isi (a : IE) (ty : List Ty) | eqo (n : Bool) (c f : Nat) (a b : IE)
  | comp (m : Bool) (own : List Nat) (tg : TG) (it : II) (cond : IO) (e : IE)
  | dcomp (own : List Nat) (tg : TG) (it : II) (k e : IE)
  | xmk (c : Nat) (e : IE) | xfl (a : IE) (f : Nat) | xio (a : IE) (l : List Nat) | xis (a : IE) (l : List Nat) | cmpi (o : Co) (a : IE) (n : Int)
  | bad
inductive IL where | nil | cons (e : IE) (r : IL) | star (e : IE) (r : IL)
inductive IO where | none | some (e : IE)
inductive II where | e (a : IE) | rng (a : IE) | rng2 (a b : IE) | enum (a : IE) | zip (a b : IE)
end
mutual
inductive IS where
  | ex (e : IE) | asg (g : TG) (e : IE) | setf (a : IE) (c f : Nat) (e : IE) | seti (a i e : IE)
  | aug (i : Nat) (o : Bo) (e : IE) | augf (a : IE) (c f : Nat) (o : Bo) (e : IE)
  | ife (c : IE) (a b : ISs) | forr (g : TG) (it : II) (b : ISs) | whl (c : IE) (b : ISs)
  | ret (fz : Bool) (e : IE) | retN | rais (c : Nat) (e : IE) | tr (b : ISs) (hs : IHs) | pass | brk | cont | bad
inductive ISs where | nil | cons (s : IS) (r : ISs)
inductive IHs where | nil | cons (c i : Nat) (b : ISs) (r : IHs)
end

structure Ctx where
  F : Nat → List T → AH → R T
  n0 : Nat
  sub : Nat → Nat → Bool
  xi : Nat → Nat

def R.isB (r : R T) : R Bool := r.bind fun t h => R.of (truT h t) h
@[simp] theorem R.isB_ok (t : T) (h : AH) : (R.ok t h).isB = R.of (truT h t) h := rfl
@[simp] theorem R.isB_exc (c : Nat) (t : T) (h : AH) : (R.exc c t h : R T).isB = .exc c t h := rfl
def bl? : T → Option Bool
  | .bl b => some b
  | _ => none
def R.nox {α : Type} (r : R α) : R α := match r with
  | .exc _ _ _ => .stuck
  | r => r
@[simp] theorem R.nox_ok {α : Type} (a : α) (h : AH) : (R.ok a h).nox = .ok a h := rfl
noncomputable section
open Classical
def compL (g : TG) (cond : Env → AH → R Bool) (elt : Env → AH → R T) (chk : AH → Prop) : List T → Env → AH → R (List T)
  | [], _, h => .ok [] h
  | x :: xs, env, h => match g.asg x env with
    | none => .stuck
    | some e1 => (cond e1 h).bind fun b h1 => match b with
      | true => (elt e1 h1).bind fun t h2 => if chk h2 then (compL g cond elt chk xs env h2).bind fun ts h3 => .ok (t :: ts) h3 else .stuck
      | false => if chk h1 then compL g cond elt chk xs env h1 else .stuck
def dcompL (g : TG) (ek ev : Env → AH → R T) (chk : AH → Prop) : List T → Env → AH → List T → List T → R (List T × List T)
  | [], _, h, ks, vs => .ok (ks, vs) h
  | x :: xs, env, h, ks, vs => match g.asg x env with
    | none => .stuck
    | some e1 => (ek e1 h).bind fun k h1 => (ev e1 h1).bind fun v h2 => match keyOk false k with
      | none => .stuck
      | some key => if chk h2 ∧ ks.length < sizeLine then (match findK key ks with
        | some _ => dcompL g ek ev chk xs env h2 ks (setK key v ks vs)
        | none => dcompL g ek ev chk xs env h2 (ks ++ [k]) (vs ++ [v])) else .stuck
def forL (g : TG) (body : Env → AH → RS) (chk : AH → Prop) : List T → Env → AH → RS
  | [], env, h => .next env h
  | x :: xs, env, h => match g.asg x env with
    | none => .stuck
    | some e1 => match body e1 h with
      | .next e2 h2 => if chk h2 then forL g body chk xs e2 h2 else .stuck
      | .cont e2 h2 => if chk h2 then forL g body chk xs e2 h2 else .stuck
      | .brk e2 h2 => .next e2 h2
      | r => r
def whlL (c : Env → AH → R Bool) (body : Env → AH → RS) : Nat → Env → AH → RS
  | 0, _, _ => .stuck
  | n + 1, env, h => match c env h with
    | .ok true h1 => match body env h1 with
      | .next e2 h2 => whlL c body n e2 h2
      | .cont e2 h2 => whlL c body n e2 h2
      | .brk e2 h2 => .next e2 h2
      | r => r
    | .ok false h1 => .next env h1
    | .exc k v h1 => .exc k v env h1
    | .stuck => .stuck
def whlFuel : Nat := 1000000
structure Items where
  xs : List T
  w : Option (Nat × Cell)
def Items.chk (I : Items) (h : AH) : Prop := match I.w with
  | none => True
  | some (n, c) => h[n]? = some c
def itemsOf (h : AH) (t : T) : Option Items := match iterV h t with
  | some xs => match t with
    | .ref n => match h[n]? with
      | some c => some ⟨xs, some (n, c)⟩
      | none => none
    | _ => some ⟨xs, none⟩
  | none => none
def rangeT (lo : Int) (n : Nat) : List T := (List.range n).map fun (k : Nat) => .int (lo + k)
def small62 (i : Int) : Prop := -(2 ^ 62) ≤ i ∧ i < 2 ^ 62
instance (i : Int) : Decidable (small62 i) := by unfold small62; infer_instance
def enumT (k : Nat) : List T → List T
  | [] => []
  | x :: xs => .tup [.int k, x] :: enumT (k + 1) xs
def zipT : List T → List T → List T
  | x :: xs, y :: ys => .tup [x, y] :: zipT xs ys
  | _, _ => []
def wipeE (e : Env) : List Nat → Env
  | [] => e
  | v :: vs => (wipeE e vs).set v none
mutual
def evE (C : Ctx) : IE → Env → AH → R T
  | .cst t, _, h => .ok t h
  | .var i, env, h => match env[i]? with
    | some (some t) => .ok t h
    | _ => .stuck
  | .glb _ t, _, h => .ok t h
  | .bin m o a b, env, h => (evE C a env h).bind fun x h1 => (evE C b env h1).bind fun y h2 => binT m o x y h2
  | .neg a, env, h => (evE C a env h).bind fun x h1 => match x with
    | .int i => .ok (.int (-i)) h1
    | _ => .stuck
  | .not a, env, h => (evE C a env h).isB.bind fun b h1 => .ok (.bl (!b)) h1
  | .cmp o a b, env, h => (evE C a env h).bind fun x h1 => (evE C b env h1).bind fun y h2 => (R.of (cmpT o h2 x y) h2).bind fun k h3 => .ok (.bl k) h3
  | .chain o a b o' c, env, h => (evE C a env h).bind fun x h1 => (evE C b env h1).bind fun y h2 => (R.of (cmpT o h2 x y) h2).bind fun k h3 => match k with
    | true => (evE C c env h3).bind fun z h4 => (R.of (cmpT o' h4 y z) h4).bind fun k2 h5 => .ok (.bl k2) h5
    | false => .ok (.bl false) h3
  | .and a b, env, h => (evE C a env h).bind fun x h1 => (R.of (truT h1 x) h1).bind fun k h2 => match k with
    | true => evE C b env h2
    | false => .ok x h2
  | .or a b, env, h => (evE C a env h).bind fun x h1 => (R.of (truT h1 x) h1).bind fun k h2 => match k with
    | true => .ok x h2
    | false => evE C b env h2
  | .ite c a b, env, h => (evE C c env h).isB.bind fun k h1 => match k with
    | true => evE C a env h1
    | false => evE C b env h1
  | .tup es, env, h => (evL C es env h).bind fun xs h1 => if xs.length ≤ sizeLine then .ok (.tup xs) h1 else .stuck
  | .lst m es, env, h => (evL C es env h).bind fun xs h1 => fresh m xs h1
  | .dic m tk, _, h => if m = true then .ok (.ref h.length) (h ++ [.dct tk [] []]) else .ok (.dct tk [] []) h
  | .kin n _ zs a, env, h => (evE C a env h).bind fun x h1 => match x with
    | .str z => .ok (.bl (n != zs.contains z)) h1
    | _ => .stuck
  | .kget _ zs a, env, h => (evE C a env h).bind fun x h1 => match x with
    | .str z => R.of (zs.lookup z) h1
    | _ => .stuck
  | .idx a i, env, h => (evE C a env h).bind fun x h1 => (evE C i env h1).bind fun y h2 => R.of (idxT h2 x y) h2
  | .slc m a lo hi, env, h => (evE C a env h).bind fun x h1 => (evO C lo env h1).bind fun l h2 => (evO C hi env h2).bind fun u h3 => slcT m x l u h3
  | .rev m a, env, h => (evE C a env h).bind fun x h1 => revT m x h1
  | .fld a c f, env, h => (evE C a env h).bind fun x h1 => R.of (fldT h1 x c f) h1
  | .fle a f, env, h => (evE C a env h).bind fun x h1 => match x with
    | .exn c v => if C.xi c = f then .ok v h1 else .stuck
    | _ => .stuck
  | .xmk c e, env, h => (evE C e env h).bind fun x h1 => .ok (.ref h1.length) (h1 ++ [.exo c x])
  | .xfl a f, env, h => (evE C a env h).bind fun x h1 => match x with
    | .ref n => match h1[n]? with
      | some (.exo c v) => if C.xi c = f then .ok v h1 else .stuck
      | _ => .stuck
    | _ => .stuck
  | .xio a l, env, h => (evE C a env h).bind fun x h1 => match x with
    | .ref n => match h1[n]? with
      | some (.exo c _) => .ok (.bl (l.contains c)) h1
      | _ => .stuck
    | _ => .stuck
  | .xis a l, env, h => (evE C a env h).bind fun x h1 => match x with
    | .exn c _ => .ok (.bl (l.contains c)) h1
    | _ => .stuck
  | .cmpi o a n, env, h => (evE C a env h).bind fun x h1 => match x with
    | .int i => (R.of (cmpT o h1 (.int i) (.int n)) h1).bind fun k h3 => .ok (.bl k) h3
    | _ => .stuck
  | .call f es, env, h => (evL C es env h).bind fun xs h1 => C.F f xs h1
  | .mk c f es, env, h => (evL C es env h).bind fun xs h1 => (C.F f (.ref h1.length :: xs) (h1 ++ [.obj c []])).bind fun r h2 => match r with
    | .non => .ok (.ref h1.length) h2
    | _ => .stuck
  | .met a c m f es, env, h => (evE C a env h).bind fun x h1 => match x with
    | .ref n => match h1[n]? with
      | some (.obj c' fs) => if c' = c ∧ fs.lookup m = none then (evL C es env h1).bind fun xs h2 => C.F f (.ref n :: xs) h2 else .stuck
      | _ => .stuck
    | _ => .stuck
  | .bf m f es, env, h => (evL C es env h).bind fun xs h1 => bfT m f xs h1
  | .bm m f a es, env, h => (evE C a env h).bind fun x h1 => if bmOk f x h1 = true then (evL C es env h1).bind fun xs h2 => bmT m f x xs h2 else .stuck
  | .isi a ty, env, h => (evE C a env h).bind fun x h1 => (R.of (isTys h1 x ty) h1).bind fun k h2 => .ok (.bl k) h2
  | .eqo n c f a b, env, h => (evE C a env h).bind fun x h1 => (evE C b env h1).bind fun y h2 => match x with
    | .ref m => match h2[m]? with
      | some (.obj c' _) => if c' = c ∧ eqOk h2 y = true then ((C.F f [.ref m, y] h2).nox).bind fun r h3 => match r with
        | .bl k => .ok (.bl (n != k)) h3
        | _ => .stuck else .stuck
      | _ => .stuck
    | _ => .stuck
  | .comp m own g it cond e, env, h => (evI C it env h).bind fun I h1 =>
      (compL g (match cond with
        | .none => fun _ h => .ok true h
        | .some c => fun env h => (evE C c env h).isB.nox) (fun env h => (evE C e env h).nox) I.chk I.xs (wipeE env own) h1).nox.bind fun ts h2 => fresh m ts h2
  | .dcomp own g it k e, env, h => (evI C it env h).bind fun I h1 =>
      (dcompL g (fun env h => (evE C k env h).nox) (fun env h => (evE C e env h).nox) I.chk I.xs (wipeE env own) h1 [] []).nox.bind fun kv h2 => .ok (.dct false kv.1 kv.2) h2
  | .bad, _, _ => .stuck
def evL (C : Ctx) : IL → Env → AH → R (List T)
  | .nil, _, h => .ok [] h
  | .cons e r, env, h => (evE C e env h).bind fun x h1 => (evL C r env h1).bind fun xs h2 => .ok (x :: xs) h2
  | .star e r, env, h => (evE C e env h).bind fun x h1 => match seqV h1 x with
    | some ys => (evL C r env h1).bind fun xs h2 => .ok (ys ++ xs) h2
    | none => .stuck
def evO (C : Ctx) : IO → Env → AH → R (Option Int)
  | .none, _, h => .ok none h
  | .some e, env, h => (evE C e env h).bind fun x h1 => match x with
    | .int i => .ok (some i) h1
    | _ => .stuck
def evI (C : Ctx) : II → Env → AH → R Items
  | .e a, env, h => (evE C a env h).bind fun x h1 => R.of (itemsOf h1 x) h1
  | .rng a, env, h => (evE C a env h).bind fun x h1 => match x with
    | .int j => if small62 j then .ok ⟨rangeT 0 j.toNat, none⟩ h1 else .stuck
    | _ => .stuck
  | .rng2 a b, env, h => (evE C a env h).bind fun x h1 => (evE C b env h1).bind fun y h2 => match x, y with
    | .int i, .int j => if small62 i ∧ small62 j then .ok ⟨rangeT i (j - i).toNat, none⟩ h2 else .stuck
    | _, _ => .stuck
  | .enum a, env, h => (evE C a env h).bind fun x h1 => match seqV h1 x with
    | some xs => match x with
      | .ref n => match h1[n]? with
        | some c => .ok ⟨enumT 0 xs, some (n, c)⟩ h1
        | none => .stuck
      | _ => .ok ⟨enumT 0 xs, none⟩ h1
    | none => .stuck
  | .zip a b, env, h => (evE C a env h).bind fun x h1 => (evE C b env h1).bind fun y h2 => match x, y with
    | .ref _, _ => .stuck
    | _, .ref _ => .stuck
    | x, y => match seqV h2 x, seqV h2 y with
      | some xs, some ys => .ok ⟨zipT xs ys, none⟩ h2
      | _, _ => .stuck
end
def evB (C : Ctx) : IE → Env → AH → R Bool
  | .not a, env, h => (evB C a env h).bind fun b h1 => .ok (!b) h1
  | .and a b, env, h => (evB C a env h).bind fun k h1 => match k with
    | true => evB C b env h1
    | false => .ok false h1
  | .or a b, env, h => (evB C a env h).bind fun k h1 => match k with
    | true => .ok true h1
    | false => evB C b env h1
  | e, env, h => (evE C e env h).isB

def plainE (n : Nat) (e : Env) : Bool := e.all fun
  | some t => t.und n
  | none => true
def frzV (n0 : Nat) (h : AH) : Nat → T → Option T
  | 0, t => if t.und n0 = true then some t else none
  | d + 1, .ref n => if n < n0 then some (.ref n) else match h[n]? with
    | some (.lst xs) => (xs.mapM (frzV n0 h d)).map .lst
    | some (.dct tk ks vs) => if T.undL n0 ks = true then (vs.mapM (frzV n0 h d)).map (.dct tk ks) else none
    | _ => none
  | d + 1, .tup xs => (xs.mapM (frzV n0 h d)).map .tup
  | _ + 1, t => if t.und n0 = true then some t else none
mutual
def evS (C : Ctx) : IS → Env → AH → RS
  | .ex e, env, h => (evE C e env h).toS (fun c v h1 => .exc c v env h1) .stuck fun _ h1 => .next env h1
  | .asg g e, env, h => (evE C e env h).toS (fun c v h1 => .exc c v env h1) .stuck fun x h1 => match g.asg x env with
    | some e1 => .next e1 h1
    | none => .stuck
  | .setf a c f e, env, h => ((evE C e env h).bind fun x h1 => (evE C a env h1).bind fun o h2 => stfT o c f x h2).toS (fun c v h1 => .exc c v env h1) .stuck fun _ h1 => .next env h1
  | .seti a i e, env, h => ((evE C e env h).bind fun x h1 => (evE C a env h1).bind fun o h2 => (evE C i env h2).bind fun y h3 => setT o y x h3).toS (fun c v h1 => .exc c v env h1) .stuck fun _ h1 => .next env h1
  | .aug i o e, env, h => match env[i]? with
    | some (some x) => ((evE C e env h).bind fun y h1 => binT false o x y h1).toS (fun c v h1 => .exc c v env h1) .stuck fun z h1 => .next (env.set i (some z)) h1
    | _ => .stuck
  | .augf a c f o e, env, h => ((evE C a env h).bind fun x h1 => (R.of (fldT h1 x c f) h1).bind fun z h2 => (evE C e env h2).bind fun y h3 => (binT false o z y h3).bind fun r h4 => stfT x c f r h4).toS (fun c v h1 => .exc c v env h1) .stuck fun _ h1 => .next env h1
  | .ife c a b, env, h => (evB C c env h).toS (fun c v h1 => .exc c v env h1) .stuck fun k h1 => match k with
    | true => evSs C a env h1
    | false => evSs C b env h1
  | .forr g it b, env, h => (evI C it env h).toS (fun c v h1 => .exc c v env h1) .stuck fun I h1 => forL g (fun env h => evSs C b env h) I.chk I.xs env h1
  | .whl c b, env, h => whlL (fun env h => evB C c env h) (fun env h => evSs C b env h) whlFuel env h
  | .ret fz e, env, h => (evE C e env h).toS (fun c v h1 => .exc c v env h1) .stuck fun t h1 => if fz = true then (match frzV C.n0 h1 4 t with
      | some t' => .ret (some C.n0) t' h1
      | none => .stuck) else .ret none t h1
  | .retN, _, h => .ret none .non h
  | .rais c e, env, h => (evE C e env h).toS (fun c v h1 => .exc c v env h1) .stuck fun t h1 => .exc c t env h1
  | .tr b hs, env, h => match evSs C b env h with
    | .exc c v e1 h1 => evHs C hs c v e1 h1
    | r => r
  | .pass, env, h => .next env h
  | .brk, env, h => .brk env h
  | .cont, env, h => .cont env h
  | .bad, _, _ => .stuck
def evSs (C : Ctx) : ISs → Env → AH → RS
  | .nil, env, h => .next env h
  | .cons s r, env, h => match evS C s env h with
    | .next e1 h1 => evSs C r e1 h1
    | q => q
def evHs (C : Ctx) : IHs → Nat → T → Env → AH → RS
  | .nil, c, v, env, h => .exc c v env h
  | .cons k i b r, c, v, env, h => if C.sub c k = true then (match evSs C b (env.set i (some (.exn c v))) h with
    | .next e1 h1 => if plainE h1.length (e1.set i none) = true then .next (e1.set i none) h1 else .stuck
    | .cont e1 h1 => if plainE h1.length (e1.set i none) = true then .cont (e1.set i none) h1 else .stuck
    | .brk e1 h1 => if plainE h1.length (e1.set i none) = true then .brk (e1.set i none) h1 else .stuck
    | .ret m t h1 => .ret m t h1
    | _ => .stuck) else evHs C r c v env h
end

structure Fn where
  np : Nat
  ns : Nat
  gc : Bool
  body : ISs
def GcOk (h h' : AH) : Prop := h.length ≤ h'.length ∧ ∀ i, i < h.length → h'[i]? = h[i]? ∨ ∃ c, h'[i]? = some c ∧ c.und h.length = true
def endR (gc : Bool) (h : AH) : R T → R T
  | .ok t h' => if gc = true then (if t.und h.length = true ∧ GcOk h h' then .ok t (h'.take h.length) else .stuck) else .ok t h'
  | .exc c v h' => if gc = true then (if v.und h.length = true ∧ GcOk h h' then .exc c v (h'.take h.length) else .stuck) else .exc c v h'
  | .stuck => .stuck
def endS (gc : Bool) (n0 : Nat) : RS → R T
  | .next _ h => .ok .non h
  | .ret m t h => if m = none ∨ (gc = true ∧ m = some n0) then .ok t h else .stuck
  | .exc c v _ h => .exc c v h
  | _ => .stuck
structure Prg where
  fns : List Fn
  sub : Nat → Nat → Bool
  xi : Nat → Nat
def runFn (P : Prg) : Nat → Nat → List T → AH → R T
  | 0, _, _, _ => .stuck
  | k + 1, f, xs, h => match P.fns[f]? with
    | none => .stuck
    | some fn => if xs.length = fn.np then endR fn.gc h (endS fn.gc h.length (evSs ⟨runFn P k, h.length, P.sub, P.xi⟩ fn.body (xs.map some ++ List.replicate (fn.ns - fn.np) none) h)) else .stuck
end
end PS
end
section
set_option maxRecDepth 100000
set_option maxHeartbeats 1000000
namespace PS
open PySem PySem.Spec PyProof.Rows L2

def keyT : Key → T
  | .inl i => .int i
  | .inr x => .str x
def stays : HO → Bool
  | .tup _ => true
  | .frz _ _ => true
  | .xd _ => true
  | _ => false
abbrev Rho := List Addr
def Keep (H : Hp) (rho : Rho) (H' : Hp) (rho' : Rho) : Prop := (∀ a o, H a = some o → stays o = true → H' a = some o) ∧ ∃ t, rho' = rho ++ t
theorem Keep.rfl {H : Hp} {rho : Rho} : Keep H rho H rho := ⟨fun _ _ e _ => e, [], by simp⟩
theorem Keep.get {H H' : Hp} {r r' : Rho} (a : Keep H r H' r') {n : Nat} {x : Addr} (e : r[n]? = some x) : r'[n]? = some x := by
  obtain ⟨_, t, rfl⟩ := a
  rw [List.getElem?_append_left (List.getElem?_eq_some_iff.mp e).1]
  exact e
theorem Keep.set {H : Hp} {r : Rho} {p : Addr} {o u : HO} (e : H p = some u) (s : stays u = false) : Keep H r (upd H p o) r := ⟨fun a v ea sa => by
  by_cases h : a = p
  · subst h; rw [e] at ea; cases ea; rw [s] at sa; cases sa
  · rw [upd_ne h]; exact ea, [], by simp⟩
theorem Keep.new {H : Hp} {r : Rho} {p : Addr} {o : HO} (n : H p = none) : Keep H r (upd H p o) r := ⟨fun a u e _ => by rw [upd_ne (ne_of_none e n)]; exact e, [], by simp⟩
structure Step (H : Hp) (rho : Rho) (H' : Hp) (rho' : Rho) : Prop where
  k : Keep H rho H' rho'
  out : ∀ a o, H a = some o → a ∉ rho → H' a = some o
  there : ∀ a o, H a = some o → ∃ o', H' a = some o'
  new_ : ∀ a, a ∈ rho' → a ∉ rho → H a = none
theorem Step.stay {H H' : Hp} {r r' : Rho} (s : Step H r H' r') {a : Addr} {o : HO} (e : H a = some o) (q : stays o = true) : H' a = some o := s.k.1 a o e q
theorem Step.rfl {H : Hp} {rho : Rho} : Step H rho H rho := ⟨Keep.rfl, fun _ _ e _ => e, fun _ o e => ⟨o, e⟩, fun _ a b => absurd a b⟩
theorem Step.trans {H H1 H2 : Hp} {r r1 r2 : Rho} (a : Step H r H1 r1) (b : Step H1 r1 H2 r2) : Step H r H2 r2 := by
  obtain ⟨⟨a1, t, rfl⟩, a2, a3, a4⟩ := a
  obtain ⟨⟨b1, u, rfl⟩, b2, b3, b4⟩ := b
  refine ⟨⟨fun x o e s => b1 x o (a1 x o e s) s, t ++ u, by simp⟩, fun x o e n => b2 x o (a2 x o e n) fun m => ?_, fun x o e => ?_, fun x m n => ?_⟩
  · have := a4 x m n
    rw [e] at this; cases this
  · obtain ⟨o1, e1⟩ := a3 x o e
    exact b3 x o1 e1
  · by_cases m1 : x ∈ r ++ t
    · exact a4 x m1 n
    · have := b4 x m m1
      cases e : H x with
      | none => rfl
      | some o =>
        obtain ⟨o1, e1⟩ := a3 x o e
        rw [this] at e1; cases e1
theorem Step.get {H H' : Hp} {r r' : Rho} (a : Step H r H' r') {n : Nat} {x : Addr} (e : r[n]? = some x) : r'[n]? = some x := a.k.get e
theorem Step.new {H : Hp} {r : Rho} {p : Addr} {o : HO} (n : H p = none) : Step H r (upd H p o) r := ⟨Keep.new n, fun a u e _ => by rw [upd_ne (ne_of_none e n)]; exact e, fun a u e => ⟨u, by rw [upd_ne (ne_of_none e n)]; exact e⟩, fun _ a b => absurd a b⟩
theorem Step.new' {H : Hp} {r : Rho} {p : Addr} {o : HO} (n : H p = none) : Step H r (upd H p o) (r ++ [p]) := ⟨⟨fun a u e _ => by rw [upd_ne (ne_of_none e n)]; exact e, [p], Eq.refl _⟩, fun a u e _ => by rw [upd_ne (ne_of_none e n)]; exact e, fun a u e => ⟨u, by rw [upd_ne (ne_of_none e n)]; exact e⟩, fun a m b => by
  simp only [List.mem_append, List.mem_singleton] at m
  rcases m with m | m
  · exact absurd m b
  · subst m; exact n⟩
theorem Step.set {H : Hp} {r : Rho} {p : Addr} {o u : HO} {i : Nat} (hp : r[i]? = some p) (e : H p = some u) (s : stays u = false) : Step H r (upd H p o) r := by
  refine ⟨Keep.set e s, fun a v ea na => ?_, fun a v ea => ?_, fun _ a b => absurd a b⟩
  · have z : a ≠ p := fun z => na (by rw [z]; exact List.mem_of_getElem? hp)
    rw [upd_ne z]; exact ea
  · by_cases h : a = p
    · subst h; exact ⟨o, upd_same⟩
    · exact ⟨v, by rw [upd_ne h]; exact ea⟩
theorem Step.beside {H H1 : Hp} {r r1 : Rho} {p : Addr} {o : HO} (s : Step H r H1 r1) (n : H p = none) : Step H r (upd H1 p o) r1 := by
  refine ⟨⟨fun a u e q => ?_, s.k.2⟩, fun a u e na => ?_, fun a u e => ?_, s.new_⟩
  · rw [upd_ne (ne_of_none e n)]; exact s.k.1 a u e q
  · rw [upd_ne (ne_of_none e n)]; exact s.out a u e na
  · rw [upd_ne (ne_of_none e n)]; exact s.there a u e

abbrev Sx := Option (Addr × Value × Option Addr)
structure Wd where
  K : PySem.W.Frag
  nc : Nat
  nx : Nat
  ca : Nat → Addr
  fl : Nat → Str
  xa : Nat → Addr
  xf : Nat → Str
section
variable (D : Wd)
mutual
inductive Rp (sx : Sx) (H : Hp) (rho : Rho) : V → T → Prop
  | non : Rp sx H rho .non .non
  | bl (b : Bool) : Rp sx H rho (.bl b) (.bl b)
  | int (i : Int) : Rp sx H rho (.int i) (.int i)
  | str (x : Str) : Rp sx H rho (.str x) (.str x)
  | tup {a : Addr} {vs : List V} {ts : List T} : H a = some (.tup vs) → RpL sx H rho vs ts → Rp sx H rho (.ref a) (.tup ts)
  | lst {a : Addr} {o : Obj} {vs : List V} {ts : List T} : H a = some (.frz o (.lst vs)) → RpL sx H rho vs ts → Rp sx H rho (.ref a) (.lst ts)
  | dK {a : Addr} {o : Obj} {kvs : List (Key × V)} {ks ts : List T} : H a = some (.frz o (.dK kvs)) → ks = kvs.map (fun p => keyT p.1) → RpL sx H rho (kvs.map (·.2)) ts → Rp sx H rho (.ref a) (.dct false ks ts)
  | dT {a : Addr} {o : Obj} {kvs : List (List Key × V)} {ks ts : List T} : H a = some (.frz o (.dT kvs)) → ks = kvs.map (fun p => .tup (p.1.map keyT)) → RpL sx H rho (kvs.map (·.2)) ts → Rp sx H rho (.ref a) (.dct true ks ts)
  | ref {a : Addr} {n : Nat} : rho[n]? = some a → Rp sx H rho (.ref a) (.ref n)
  | exn {a d : Addr} {c : Nat} {v : V} {t : T} : c < D.nx → sx = some (a, .ref (D.xa c), some d) → H d = some (.xd [(D.xf c, v)]) → Rp sx H rho v t → Rp sx H rho (.ref a) (.exn c t)
inductive RpL (sx : Sx) (H : Hp) (rho : Rho) : List V → List T → Prop
  | nil : RpL sx H rho [] []
  | cons {v : V} {t : T} {vs : List V} {ts : List T} : Rp sx H rho v t → RpL sx H rho vs ts → RpL sx H rho (v :: vs) (t :: ts)
end
variable {D}
theorem sqt_step {H H' : Hp} {r r' : Rho} (s : Keep H r H' r') {a : Addr} {vs : List V} (h : SqT D.K H a vs) : SqT D.K H' a vs := by
  rcases h with h | h
  · rcases h with h | ⟨o, h⟩
    · exact .inl (.inl (s.1 _ _ h rfl))
    · exact .inl (.inr ⟨o, s.1 _ _ h rfl⟩)
  · exact .inr h
section
variable {H H' : Hp} {r r' : Rho} {sx : Sx}
mutual
theorem Rp.stepK (s : Keep H r H' r') : ∀ {v : V} {t : T}, Rp D sx H r v t → Rp D sx H' r' v t
  | _, _, .non => .non
  | _, _, .bl b => .bl b
  | _, _, .int i => .int i
  | _, _, .str x => .str x
  | _, _, .tup h l => .tup (s.1 _ _ h rfl) (RpL.stepK s l)
  | _, _, .lst h l => .lst (s.1 _ _ h rfl) (RpL.stepK s l)
  | _, _, .dK h e l => .dK (s.1 _ _ h rfl) e (RpL.stepK s l)
  | _, _, .dT h e l => .dT (s.1 _ _ h rfl) e (RpL.stepK s l)
  | _, _, .ref h => .ref (s.get h)
  | _, _, .exn h0 h1 h2 h3 => .exn h0 h1 (s.1 _ _ h2 rfl) (Rp.stepK s h3)
theorem RpL.stepK (s : Keep H r H' r') : ∀ {vs : List V} {ts : List T}, RpL D sx H r vs ts → RpL D sx H' r' vs ts
  | _, _, .nil => .nil
  | _, _, .cons h l => .cons (Rp.stepK s h) (RpL.stepK s l)
end
theorem Rp.step (s : Step H r H' r') {v : V} {t : T} (p : Rp D sx H r v t) : Rp D sx H' r' v t := p.stepK s.k
theorem RpL.step (s : Step H r H' r') {v : List V} {t : List T} (p : RpL D sx H r v t) : RpL D sx H' r' v t := p.stepK s.k
theorem RpL.length : ∀ {vs : List V} {ts : List T}, RpL D sx H r vs ts → vs.length = ts.length
  | _, _, .nil => rfl
  | _, _, .cons _ l => by simp [RpL.length l]
theorem RpL.get : ∀ {vs : List V} {ts : List T}, RpL D sx H r vs ts → ∀ {i : Nat} {t : T}, ts[i]? = some t → ∃ v, vs[i]? = some v ∧ Rp D sx H r v t
  | _, _, .nil, i, t, e => by simp at e
  | _, _, .cons h l, 0, t, e => by
    simp at e; subst e; exact ⟨_, rfl, h⟩
  | _, _, .cons h l, i + 1, t, e => by
    obtain ⟨v, e1, h1⟩ := RpL.get l (i := i) (t := t) (by simpa using e)
    exact ⟨v, by simpa using e1, h1⟩
theorem RpL.getV : ∀ {vs : List V} {ts : List T}, RpL D sx H r vs ts → ∀ {i : Nat} {v : V}, vs[i]? = some v → ∃ t, ts[i]? = some t ∧ Rp D sx H r v t
  | _, _, .nil, i, t, e => by simp at e
  | _, _, .cons h l, 0, t, e => by
    simp at e; subst e; exact ⟨_, rfl, h⟩
  | _, _, .cons h l, i + 1, t, e => by
    obtain ⟨v, e1, h1⟩ := RpL.getV l (i := i) (v := t) (by simpa using e)
    exact ⟨v, by simpa using e1, h1⟩
theorem RpL.append : ∀ {vs : List V} {ts : List T}, RpL D sx H r vs ts → ∀ {ws : List V} {us : List T}, RpL D sx H r ws us → RpL D sx H r (vs ++ ws) (ts ++ us)
  | _, _, .nil, _, _, l2 => l2
  | _, _, .cons h l, _, _, l2 => .cons h (RpL.append l l2)
theorem RpL.drop : ∀ (n : Nat) {vs : List V} {ts : List T}, RpL D sx H r vs ts → RpL D sx H r (vs.drop n) (ts.drop n)
  | 0, _, _, h => h
  | n + 1, _, _, .nil => .nil
  | n + 1, _, _, .cons _ l => RpL.drop n l
theorem RpL.take : ∀ (n : Nat) {vs : List V} {ts : List T}, RpL D sx H r vs ts → RpL D sx H r (vs.take n) (ts.take n)
  | 0, _, _, _ => .nil
  | n + 1, _, _, .nil => .nil
  | n + 1, _, _, .cons h l => .cons h (RpL.take n l)
theorem RpL.set {x : V} {t : T} (hx : Rp D sx H r x t) : ∀ (n : Nat) {vs : List V} {ts : List T}, RpL D sx H r vs ts → RpL D sx H r (vs.set n x) (ts.set n t)
  | _, _, _, .nil => .nil
  | 0, _, _, .cons _ l => .cons hx l
  | n + 1, _, _, .cons h l => .cons h (RpL.set hx n l)
theorem RpL.reverse {vs : List V} {ts : List T} (l : RpL D sx H r vs ts) : RpL D sx H r vs.reverse ts.reverse := by
  induction vs generalizing ts with
  | nil => cases l; exact .nil
  | cons v vs ih =>
    cases l with
    | cons h l => rw [List.reverse_cons, List.reverse_cons]; exact (ih l).append (.cons h .nil)
theorem RpL.dropLast {vs : List V} {ts : List T} (l : RpL D sx H r vs ts) : RpL D sx H r vs.dropLast ts.dropLast := by
  rw [List.dropLast_eq_take, List.dropLast_eq_take, l.length]
  exact l.take _
theorem RpL.isEmpty {vs : List V} {ts : List T} (l : RpL D sx H r vs ts) : vs.isEmpty = ts.isEmpty := by
  cases l <;> rfl
theorem RpL.rep {vs : List V} {ts : List T} (l : RpL D sx H r vs ts) : ∀ n : Nat, RpL D sx H r (List.replicate n vs).flatten (List.replicate n ts).flatten
  | 0 => .nil
  | n + 1 => by
    rw [List.replicate_succ, List.replicate_succ, List.flatten_cons, List.flatten_cons]
    exact l.append (RpL.rep l n)
end

def FR (D : Wd) (H : Hp) (rho : Rho) (gs : List (Str × V)) (fs : List (Nat × T)) : Prop := gs.map (·.1) = fs.map (fun p => D.fl p.1) ∧ RpL D none H rho (gs.map (·.2)) (fs.map (·.2))
def CellR (D : Wd) (H : Hp) (rho : Rho) (a : Addr) : Cell → Prop
  | .lst ts => ∃ vs, H a = some (.lst vs) ∧ RpL D none H rho vs ts
  | .dct false ks ts => ∃ kvs : List (Key × V), H a = some (.dK kvs) ∧ ks = kvs.map (fun p => keyT p.1) ∧ RpL D none H rho (kvs.map (·.2)) ts
  | .dct true ks ts => ∃ kvs : List (List Key × V), H a = some (.dT kvs) ∧ ks = kvs.map (fun p => .tup (p.1.map keyT)) ∧ RpL D none H rho (kvs.map (·.2)) ts
  | .obj c fs => ∃ dx gs, H a = some (.ins (D.ca c) dx gs) ∧ c < D.nc ∧ FR D H rho gs fs
  | .exo c t => ∃ d v, H a = some (exo a (D.xa c) (some d)) ∧ H d = some (.xd [(D.xf c, v)]) ∧ c < D.nx ∧ Rp D none H rho v t
structure RelH (D : Wd) (H : Hp) (rho : Rho) (h : AH) : Prop where
  len : rho.length = h.length
  nd : rho.Nodup
  cell : ∀ (n : Nat) (a : Addr) (c : Cell), rho[n]? = some a → h[n]? = some c → CellR D H rho a c
def RelE (D : Wd) (sx : Sx) (H : Hp) (rho : Rho) (σ : L2.St) (env : Env) : Prop := σ.length = env.length ∧ ∀ (i : Nat) (t : T), env[i]? = some (some t) → ∃ v, σ[i]? = some (some v) ∧ Rp D sx H rho v t
section
variable {H H' : Hp} {r r' : Rho} {sx : Sx} {h : AH} {σ : L2.St} {env : Env}
theorem RelE.stepK (s : Keep H r H' r') (e : RelE D sx H r σ env) : RelE D sx H' r' σ env := ⟨e.1, fun i t q => let ⟨v, a, b⟩ := e.2 i t q; ⟨v, a, b.stepK s⟩⟩
theorem RelE.step (s : Step H r H' r') (e : RelE D sx H r σ env) : RelE D sx H' r' σ env := e.stepK s.k
theorem RelE.set {v : V} {t : T} (e : RelE D sx H r σ env) (i : Nat) (x : Rp D sx H r v t) : RelE D sx H r (σ.set i (some v)) (env.set i (some t)) := by
  refine ⟨by simp [e.1], fun j u q => ?_⟩
  by_cases hj : i = j
  · subst hj
    by_cases hi : i < env.length
    · rw [List.getElem?_set_self hi] at q
      have q2 : t = u := by injection q with q; injection q
      subst q2
      exact ⟨v, by rw [List.getElem?_set_self (by rw [e.1]; exact hi)], x⟩
    · rw [List.getElem?_eq_none (by simpa using hi)] at q; cases q
  · rw [List.getElem?_set_ne hj] at q ⊢
    exact e.2 j u q
theorem RelE.wipe (e : RelE D sx H r σ env) : ∀ own : List Nat, RelE D sx H r (wipe σ own) (wipeE env own)
  | [] => e
  | v :: vs => by
    have ih := RelE.wipe e vs
    refine ⟨by simp [L2.wipe, wipeE, ih.1], fun j u q => ?_⟩
    unfold wipeE at q
    unfold L2.wipe
    by_cases hj : v = j
    · subst hj
      by_cases hi : v < (wipeE env vs).length
      · rw [List.getElem?_set_self hi] at q; cases q
      · rw [List.getElem?_eq_none (by simpa using hi)] at q; cases q
    · rw [List.getElem?_set_ne hj] at q ⊢
      exact ih.2 j u q
theorem FR.stepK (s : Keep H r H' r') {gs : List (Str × V)} {fs : List (Nat × T)} (f : FR D H r gs fs) : FR D H' r' gs fs := ⟨f.1, f.2.stepK s⟩
theorem CellR.stepK (s : Keep H r H' r') {a : Addr} (e : H' a = H a) : ∀ {c : Cell}, CellR D H r a c → CellR D H' r' a c
  | .lst _, ⟨vs, q, l⟩ => ⟨vs, e.trans q, l.stepK s⟩
  | .dct false _ _, ⟨kvs, q, z, l⟩ => ⟨kvs, e.trans q, z, l.stepK s⟩
  | .dct true _ _, ⟨kvs, q, z, l⟩ => ⟨kvs, e.trans q, z, l.stepK s⟩
  | .obj _ _, ⟨dx, gs, q, b, f⟩ => ⟨dx, gs, e.trans q, b, f.stepK s⟩
  | .exo _ _, ⟨d, v, q, q2, b, p⟩ => ⟨d, v, e.trans q, s.1 _ _ q2 rfl, b, p.stepK s⟩
theorem CellR.step (s : Step H r H' r') {a : Addr} (e : H' a = H a) {c : Cell} (x : CellR D H r a c) : CellR D H' r' a c := x.stepK s.k e
theorem CellR.some {a : Addr} : ∀ {c : Cell}, CellR D H r a c → ∃ o, H a = some o ∧ stays o = false
  | .lst _, ⟨vs, q, l⟩ => ⟨_, q, rfl⟩
  | .dct false _ _, ⟨kvs, q, z, l⟩ => ⟨_, q, rfl⟩
  | .dct true _ _, ⟨kvs, q, z, l⟩ => ⟨_, q, rfl⟩
  | .obj _ _, ⟨dx, gs, q, b, f⟩ => ⟨_, q, rfl⟩
  | .exo _ _, ⟨d, v, q, q2, b, p⟩ => ⟨_, q, rfl⟩
theorem RelH.addr (R : RelH D H r h) {n : Nat} {c : Cell} (e : h[n]? = some c) : ∃ a, r[n]? = some a ∧ CellR D H r a c := by
  have hn : n < r.length := by rw [R.len]; exact (List.getElem?_eq_some_iff.mp e).1
  exact ⟨r[n], by simp [hn], R.cell n _ c (by simp [hn]) e⟩
theorem RelH.mem (R : RelH D H r h) {a : Addr} (m : a ∈ r) : ∃ o, H a = some o ∧ stays o = false := by
  obtain ⟨n, hn, e⟩ := List.mem_iff_getElem.mp m
  have hn2 : n < h.length := by rw [← R.len]; exact hn
  exact (R.cell n a h[n] (by simp [hn, e]) (by simp [hn2])).some
theorem RelH.beside (R : RelH D H r h) {p : Addr} {o : HO} (n : H p = none) : RelH D (upd H p o) r h := by
  refine ⟨R.len, R.nd, fun m a c e1 e2 => (R.cell m a c e1 e2).step (Step.new n) (upd_ne ?_)⟩
  obtain ⟨o', q, _⟩ := (R.cell m a c e1 e2).some
  exact ne_of_none q n
theorem RelH.push (R : RelH D H r h) {p : Addr} {o : HO} {c : Cell} (n : H p = none) (hc : CellR D (upd H p o) (r ++ [p]) p c) : RelH D (upd H p o) (r ++ [p]) (h ++ [c]) := by
  have hp : p ∉ r := fun m => by obtain ⟨o', q, _⟩ := R.mem m; rw [n] at q; cases q
  refine ⟨by simp [R.len], ?_, fun m a c' e1 e2 => ?_⟩
  · rw [List.nodup_append]
    refine ⟨R.nd, by simp, fun x hx y hy z => ?_⟩
    simp at hy
    subst hy
    subst z
    exact hp hx
  · by_cases hm : m < r.length
    · rw [List.getElem?_append_left hm] at e1
      rw [List.getElem?_append_left (by rw [← R.len]; exact hm)] at e2
      refine (R.cell m a c' e1 e2).step (Step.new' n) (upd_ne ?_)
      obtain ⟨o', q, _⟩ := (R.cell m a c' e1 e2).some
      exact ne_of_none q n
    · have hm2 : m = r.length := by
        have := (List.getElem?_eq_some_iff.mp e1).1
        simp at this; omega
      subst hm2
      rw [List.getElem?_append_right (Nat.le_refl _)] at e1
      rw [R.len, List.getElem?_append_right (Nat.le_refl _)] at e2
      simp at e1 e2
      subst e1; subst e2
      exact hc
theorem RelH.put (R : RelH D H r h) {n : Nat} {a : Addr} {o u : HO} {c : Cell} (ea : r[n]? = some a) (eu : H a = some u) (su : stays u = false) (hc : CellR D (upd H a o) r a c) : RelH D (upd H a o) r (h.set n c) := by
  refine ⟨by simp [R.len], R.nd, fun m b c' e1 e2 => ?_⟩
  by_cases hm : n = m
  · subst hm
    have hn : n < h.length := by rw [← R.len]; exact (List.getElem?_eq_some_iff.mp ea).1
    rw [List.getElem?_set_self hn] at e2
    rw [ea] at e1
    cases e1; cases e2
    exact hc
  · rw [List.getElem?_set_ne hm] at e2
    refine (R.cell m b c' e1 e2).step (Step.set ea eu su) (upd_ne fun z => hm ?_)
    subst z
    exact (nodup_addr R.nd ea e1)
where
  nodup_addr {l : List Addr} (nd : l.Nodup) {i j : Nat} {x : Addr} (a : l[i]? = some x) (b : l[j]? = some x) : i = j := by
    obtain ⟨h1, e1⟩ := List.getElem?_eq_some_iff.mp a
    obtain ⟨h2, e2⟩ := List.getElem?_eq_some_iff.mp b
    exact (List.getElem_inj nd).mp (e1.trans e2.symm)
end

def ExR (D : Wd) (H : Hp) (rho : Rho) (cls : Value) (d : Option Addr) (c : Nat) (t : T) : Prop := ∃ dd v, c < D.nx ∧ cls = .ref (D.xa c) ∧ d = some dd ∧ H dd = some (.xd [(D.xf c, v)]) ∧ Rp D none H rho v t
theorem ExR.step {H H' : Hp} {r r' : Rho} (s : Step H r H' r') {cls : Value} {d : Option Addr} {c : Nat} {t : T} (x : ExR D H r cls d c t) : ExR D H' r' cls d c t := by
  obtain ⟨dd, v, z, a, b, e, q⟩ := x
  exact ⟨dd, v, z, a, b, s.stay e rfl, q.step s⟩
def outR (D : Wd) {α : Type} (W : WX) (σ : L2.St) (H : Hp) (rho : Rho) (Q : α → Hp → Rho → AH → Prop) : R α → Prop
  | .ok t h' => ∀ H' rho', Step H rho H' rho' → RelH D H' rho' h' → Q t H' rho' h'
  | .exc c t h' => ∀ H' rho' cls d, Step H rho H' rho' → RelH D H' rho' h' → ExR D H' rho' cls d c t → W cls d σ H'
  | .stuck => False
def outE (D : Wd) (sx : Sx) (W : WX) (σ : L2.St) (H : Hp) (rho : Rho) (Q : VK) : R T → Prop := outR D W σ H rho fun t H' rho' _ => ∀ v, Rp D sx H' rho' v t → Q v H'
section
variable {α β : Type} {W : WX} {σ : L2.St} {H H1 : Hp} {rho rho1 : Rho}
theorem outR.step {Q : α → Hp → Rho → AH → Prop} (s : Step H rho H1 rho1) : ∀ {x : R α}, outR D W σ H rho Q x → outR D W σ H1 rho1 Q x
  | .ok _ _, q => fun H' r' s' R => q H' r' (s.trans s') R
  | .exc _ _ _, q => fun H' r' cls d s' R x => q H' r' cls d (s.trans s') R x
  | .stuck, q => q
theorem outR.mono {Q Q' : α → Hp → Rho → AH → Prop} (hq : ∀ t H' r' h', Step H rho H' r' → RelH D H' r' h' → Q t H' r' h' → Q' t H' r' h') : ∀ {x : R α}, outR D W σ H rho Q x → outR D W σ H rho Q' x
  | .ok _ _, q => fun H' r' s R => hq _ _ _ _ s R (q H' r' s R)
  | .exc _ _ _, q => q
  | .stuck, q => q
theorem outR.bind {Q : β → Hp → Rho → AH → Prop} {k : α → AH → R β} : ∀ {x : R α}, outR D W σ H rho Q (x.bind k) → outR D W σ H rho (fun t H' r' h' => outR D W σ H' r' Q (k t h')) x
  | .ok _ _, q => fun H' r' s R => outR.step s q
  | .exc _ _ _, q => q
  | .stuck, q => q
theorem outR.ok_inv {Q : α → Hp → Rho → AH → Prop} {t : α} {h' : AH} (R : RelH D H rho h') (q : outR D W σ H rho Q (.ok t h')) : Q t H rho h' := q H rho Step.rfl R
end
def rdE (D : Wd) (sx : Sx) (W : WX) (f : Env → AH → R T) : TE := fun σ H Q => ∃ rho env h, RelE D sx H rho σ env ∧ RelH D H rho h ∧ outE D sx W σ H rho Q (f env h)
def rdB (D : Wd) (sx : Sx) (W : WX) (f : Env → AH → R Bool) : TT := fun σ H Q => ∃ rho env h, RelE D sx H rho σ env ∧ RelH D H rho h ∧ outR D W σ H rho (fun b H' _ _ => Q b H') (f env h)
def rdL (D : Wd) (sx : Sx) (W : WX) (f : Env → AH → R (List T)) : TA := fun σ H Q => ∃ rho env h, RelE D sx H rho σ env ∧ RelH D H rho h ∧ outR D W σ H rho (fun ts H' rho' _ => ∀ vs, RpL D sx H' rho' vs ts → Q vs H') (f env h)
structure At (D : Wd) (sx : Sx) (σ : L2.St) (H : Hp) (rho : Rho) (env : Env) (h : AH) : Prop where
  e : RelE D sx H rho σ env
  r : RelH D H rho h
theorem At.step {sx : Sx} {σ : L2.St} {H H' : Hp} {rho rho' : Rho} {env : Env} {h h' : AH} (a : At D sx σ H rho env h) (s : Step H rho H' rho') (R : RelH D H' rho' h') : At D sx σ H' rho' env h' := ⟨a.e.step s, R⟩
theorem rdE_of {sx : Sx} {W : WX} {σ : L2.St} {H : Hp} {rho : Rho} {env : Env} {h : AH} {f : Env → AH → R T} {Q : VK} (a : At D sx σ H rho env h) (q : outR D W σ H rho (fun t H' rho' _ => ∀ v, Rp D sx H' rho' v t → Q v H') (f env h)) : rdE D sx W f σ H Q := ⟨rho, env, h, a.e, a.r, q⟩
theorem rdB_of {sx : Sx} {W : WX} {σ : L2.St} {H : Hp} {rho : Rho} {env : Env} {h : AH} {f : Env → AH → R Bool} {Q : Bool → Hp → Prop} (a : At D sx σ H rho env h) (q : outR D W σ H rho (fun b H' _ _ => Q b H') (f env h)) : rdB D sx W f σ H Q := ⟨rho, env, h, a.e, a.r, q⟩
theorem rdL_of {sx : Sx} {W : WX} {σ : L2.St} {H : Hp} {rho : Rho} {env : Env} {h : AH} {f : Env → AH → R (List T)} {Q : List V → Hp → Prop} (a : At D sx σ H rho env h) (q : outR D W σ H rho (fun ts H' rho' _ => ∀ vs, RpL D sx H' rho' vs ts → Q vs H') (f env h)) : rdL D sx W f σ H Q := ⟨rho, env, h, a.e, a.r, q⟩

theorem PE_imp {X : Cx} {e : Expr} {t t' : TE} (p : PE X e t) (i : ∀ σ H Q, t' σ H Q → t σ H Q) : PE X e t' := ⟨fun pins s σ H Q I h => p.run pins s σ H Q I (i σ H Q h)⟩
theorem PT_imp {X : Cx} {e : Expr} {t t' : TT} (p : PT X e t) (i : ∀ σ H Q, t' σ H Q → t σ H Q) : PT X e t' := ⟨fun pins s σ H Q I h => p.run pins s σ H Q I (i σ H Q h)⟩
theorem PA_imp {X : Cx} {e : List Expr} {t t' : TA} (p : PA X e t) (i : ∀ σ H Q, t' σ H Q → t σ H Q) : PA X e t' := ⟨fun pos pins s σ H Q I h => p.run pos pins s σ H Q I (i σ H Q h)⟩
theorem PS_imp {X : Cx} {e : Stmt} {t t' : TS} (p : PS X e t) (i : ∀ D σ H, t' D σ H → t D σ H) : PS X e t' := ⟨fun pins s σ H Q I h => p.run pins s σ H Q I (i Q σ H h)⟩

def frzb : HO → Bool
  | .lst _ => true
  | .dK _ => true
  | .dT _ => true
  | _ => false
def FrzQ (Q : VK) : VK := fun v H => Q v H ∨ ∃ p u, v = .ref p ∧ H p = some u ∧ frzb u = true ∧ ∀ o, Q v (upd H p (.frz o u))
section
variable {X : Cx} {pins : List (Addr × Obj)} {σ : L2.St} {H : Hp} {s : Shared}
theorem Inv.freeze {p : Addr} {u : HO} (I : Inv X pins σ H s) (e : H p = some u) (f : frzb u = true) : ∃ o, Inv X pins σ (upd H p (.frz o u)) s := by
  have hx := I.hok p u e
  obtain ⟨o, ho⟩ : ∃ o, s.heap.get? p = some o := L2.objOk_get hx
  have nt : ∀ b xs, H b = some (.tup xs) → b ≠ p := fun b xs q z => by subst z; rw [e] at q; cases q; cases f
  have nz : ∀ b ob v, H b = some (.frz ob v) → b ≠ p := fun b ob v q z => by subst z; rw [e] at q; cases q; cases f
  have nb : ∀ b ps, H b = some (.tbl ps) → b ≠ p := fun b ps q z => by subst z; rw [e] at q; cases q; cases f
  have no : ∀ b x, H b = some (.own x) → b ≠ p := fun b x q z => by subst z; rw [e] at q; cases q; cases f
  have nn : ∀ b, H b = none → b ≠ p := fun b q z => by subst z; rw [e] at q; cases q
  refine ⟨o, I.ok, I.os, I.bare, ⟨I.base.keep, I.base.slot, fun b ob q n hb => ?_, I.base.there, fun b xs q => ?_, fun b ob v q => ?_, fun b ps q => ?_⟩, I.loc, I.cell, ?_, fun x c q => ?_, fun q hq => ?_, fun b v q => ?_, I.len⟩
  · rw [upd_ne (nn b (I.base.free b ob q n hb))]; exact I.base.free b ob q n hb
  · have q2 := I.base.tups b xs q
    rw [upd_ne (nt b xs q2)]; exact q2
  · have q2 := I.base.frzs b ob v q
    rw [upd_ne (nz b ob v q2)]; exact q2
  · obtain ⟨m, q2⟩ := I.base.tbls b ps q
    exact ⟨m, by rw [upd_ne (nb b _ q2)]; exact q2⟩
  · rw [upd_ne (nn _ I.free)]; exact I.free
  · rw [upd_ne (nn _ (I.freeC x c q))]; exact I.freeC x c q
  · obtain ⟨a, b, c, d, g⟩ := I.pin q hq
    exact ⟨a, by rw [upd_ne (nn _ b)]; exact b, c, d, g⟩
  · by_cases hb : b = p
    · subst hb
      rw [upd_same] at q
      cases q
      exact ⟨ho, hx.stay (fun c w _ r => r) (fun c r => by rw [upd_ne (no c _ r)]; exact r) fun c xs r => by rw [upd_ne (nt c xs r)]; exact r⟩
    · rw [upd_ne hb] at q
      exact (I.hok b v q).stay (fun c w _ r => r) (fun c r => by rw [upd_ne (no c _ r)]; exact r) fun c xs r => by rw [upd_ne (nt c xs r)]; exact r
theorem EP_frz {Q : VK} {u : Value} (h : EP X pins σ (FrzQ Q) u s) : EP X pins σ Q u s := by
  obtain ⟨v, H', I, r, q⟩ := h
  rcases q with q | ⟨p, w, rfl, e, f, q⟩
  · exact ⟨v, H', I, r, q⟩
  · obtain ⟨o, J⟩ := Inv.freeze I e f
    exact ⟨_, _, J, r, q o⟩
theorem PE_frz {e : Expr} {t : TE} (p : PE X e t) : PE X e (fun σ H Q => t σ H (FrzQ Q)) := ⟨fun pins s σ H Q I h => thn (p.run pins s σ H _ I h) fun _ _ q => EP_frz q⟩
end
theorem fresh_ok {W : WX} {σ : L2.St} {H : Hp} {rho : Rho} {h : AH} {Q : VK} {m : Bool} {ts : List T} {vs : List V} (R : RelH D H rho h) (l : RpL D none H rho vs ts) (o : outE D none W σ H rho Q (fresh m ts h)) :
    vs.length ≤ sizeLine ∧ ∀ p, H p = none → FrzQ Q (.ref p) (upd H p (.lst vs)) := by
  unfold fresh at o
  by_cases hz : ts.length ≤ sizeLine
  · rw [if_pos hz] at o
    refine ⟨by rw [l.length]; exact hz, fun p n => ?_⟩
    cases m with
    | true =>
      rw [if_pos rfl] at o
      refine .inl (o _ (rho ++ [p]) (Step.new' n) (R.push n ⟨vs, upd_same, l.step (Step.new' n)⟩) _ (.ref ?_))
      rw [← R.len]; simp
    | false =>
      rw [if_neg (by decide)] at o
      refine .inr ⟨p, _, rfl, upd_same, rfl, fun ob => ?_⟩
      rw [upd_upd]
      exact o _ rho (Step.new n) (R.beside n) _ (.lst upd_same (l.step (Step.new n)))
  · rw [if_neg hz] at o; exact o.elim
theorem tup_ok {sx : Sx} {W : WX} {σ : L2.St} {H : Hp} {rho : Rho} {h : AH} {Q : VK} {ts : List T} {vs : List V} (R : RelH D H rho h) (l : RpL D sx H rho vs ts) (o : outE D sx W σ H rho Q (.ok (.tup ts) h)) {p : Addr} (n : H p = none) : Q (.ref p) (upd H p (.tup vs)) :=
  o _ rho (Step.new n) (R.beside n) _ (.tup upd_same (l.step (Step.new n)))
theorem val_ok {sx : Sx} {W : WX} {σ : L2.St} {H : Hp} {rho : Rho} {h : AH} {Q : VK} {t : T} {v : V} (R : RelH D H rho h) (x : Rp D sx H rho v t) (o : outE D sx W σ H rho Q (.ok t h)) : Q v H := o _ rho Step.rfl R _ x
end
end PS
end
section
set_option maxRecDepth 100000
set_option maxHeartbeats 2000000
namespace PS
open PySem PySem.Spec PyProof.Rows L2
variable {σ2 : L2.St} {D : Wd} {X : Cx} {pins : List (Addr × Obj)} {σ : L2.St} {H : Hp} {s : Shared} {rho : Rho} {h : AH} {W : WX} {sx : Sx}

theorem snap_ref (h : AH) (n : Nat) : snap h (.ref n) = (match h[n]? with
    | some (.lst xs) => .lst xs
    | some (.dct tk ks vs) => .dct tk ks vs
    | _ => .ref n) := rfl
theorem view_list (R : RelH D H rho h) {v : V} {t : T} {xs : List T} (x : Rp D none H rho v t) (e : isList h t = some xs) : ∃ a vs, v = .ref a ∧ SqL D.K H a vs ∧ RpL D none H rho vs xs := by
  unfold isList at e
  cases x with
  | lst q l =>
    simp only [snap] at e
    cases e
    exact ⟨_, _, rfl, .inl (.inr ⟨_, q⟩), l⟩
  | @ref a n q =>
    rw [snap_ref] at e
    cases hn : h[n]? with
    | none => rw [hn] at e; cases e
    | some c =>
      rw [hn] at e
      cases c with
      | lst ys =>
        cases e
        obtain ⟨vs, q1, l⟩ := R.cell n a _ q hn
        exact ⟨_, _, rfl, SqL.of q1, l⟩
      | dct tk ks vs => cases e
      | obj c fs => cases e
      | exo c u => cases e
  | _ => cases e
theorem view_seq (R : RelH D H rho h) {v : V} {t : T} {xs : List T} (x : Rp D none H rho v t) (e : seqV h t = some xs) : ∃ a vs, v = .ref a ∧ (SqL D.K H a vs ∨ SqT D.K H a vs) ∧ RpL D none H rho vs xs := by
  unfold seqV at e
  cases x with
  | lst q l =>
    simp only [snap] at e
    cases e
    exact ⟨_, _, rfl, .inl (.inl (.inr ⟨_, q⟩)), l⟩
  | tup q l =>
    simp only [snap] at e
    cases e
    exact ⟨_, _, rfl, .inr (SqT.of q), l⟩
  | @ref a n q =>
    rw [snap_ref] at e
    cases hn : h[n]? with
    | none => rw [hn] at e; cases e
    | some c =>
      rw [hn] at e
      cases c with
      | lst ys =>
        cases e
        obtain ⟨vs, q1, l⟩ := R.cell n a _ q hn
        exact ⟨_, _, rfl, .inl (SqL.of q1), l⟩
      | dct tk ks vs => cases e
      | obj c fs => cases e
      | exo c u => cases e
  | _ => cases e
theorem snap_cases (h : AH) (t : T) : (∃ n, t = .ref n ∧ ∃ xs, h[n]? = some (.lst xs) ∧ snap h t = .lst xs) ∨ (∃ n, t = .ref n ∧ ∃ tk ks vs, h[n]? = some (.dct tk ks vs) ∧ snap h t = .dct tk ks vs) ∨ (∃ n, t = .ref n ∧ snap h t = .ref n) ∨ ((∀ n, t ≠ .ref n) ∧ snap h t = t) := by
  cases t with
  | ref n =>
    rw [snap_ref]
    cases hn : h[n]? with
    | none => exact .inr (.inr (.inl ⟨n, rfl, rfl⟩))
    | some c =>
      cases c with
      | lst xs => exact .inl ⟨n, rfl, xs, hn, rfl⟩
      | dct tk ks vs => exact .inr (.inl ⟨n, rfl, tk, ks, vs, hn, rfl⟩)
      | obj c fs => exact .inr (.inr (.inl ⟨n, rfl, rfl⟩))
      | exo c u => exact .inr (.inr (.inl ⟨n, rfl, rfl⟩))
  | _ => exact .inr (.inr (.inr ⟨fun n e => (by cases e), rfl⟩))
mutual
theorem Rp.dp : ∀ {v : V} {t : T} {d : PyData}, Rp D none H rho v t → t.dat = some d → Dp D.K H v d
  | _, _, _, .non, e => by simp only [T.dat] at e; cases e; exact .non
  | _, _, _, .bl b, e => by simp only [T.dat] at e; cases e; exact .bl b
  | _, _, _, .int i, e => by simp only [T.dat] at e; cases e; exact .int i
  | _, _, _, .str x, e => by simp only [T.dat] at e; cases e; exact .str x
  | _, _, _, .tup (ts := ts) q l, e => by
    simp only [T.dat] at e
    cases hd : T.datL ts with
    | none => rw [hd] at e; cases e
    | some ds => rw [hd] at e; cases e; exact .tup (SqT.of q) (RpL.dp l hd)
  | _, _, _, .lst (ts := ts) q l, e => by
    simp only [T.dat] at e
    cases hd : T.datL ts with
    | none => rw [hd] at e; cases e
    | some ds => rw [hd] at e; cases e; exact .lst (.inl (.inr ⟨_, q⟩)) (RpL.dp l hd)
  | _, _, _, .dK _ _ _, e => by simp only [T.dat] at e; cases e
  | _, _, _, .dT _ _ _, e => by simp only [T.dat] at e; cases e
  | _, _, _, .ref _, e => by simp only [T.dat] at e; cases e
  | _, _, _, .exn _ _ _ _, e => by simp only [T.dat] at e; cases e
theorem RpL.dp : ∀ {vs : List V} {ts : List T} {ds : List PyData}, RpL D none H rho vs ts → T.datL ts = some ds → DpAll D.K H vs ds
  | _, _, _, .nil, e => by simp only [T.datL] at e; cases e; exact .nil
  | _, _, _, .cons (t := t) (ts := ts) x l, e => by
    simp only [T.datL] at e
    cases h1 : T.dat t with
    | none => rw [h1] at e; cases e
    | some d =>
      cases h2 : T.datL ts with
      | none => rw [h1, h2] at e; cases e
      | some ds =>
        rw [h1, h2] at e
        cases e
        exact .cons (Rp.dp x h1) (RpL.dp l h2)
end
theorem snap_dp (R : RelH D H rho h) {v : V} {t : T} {d : PyData} (x : Rp D none H rho v t) (e : (snap h t).dat = some d) : Dp D.K H v d := by
  rcases snap_cases h t with ⟨n, rfl, xs, hn, q⟩ | ⟨n, rfl, tk, ks, vs, hn, q⟩ | ⟨n, rfl, q⟩ | ⟨_, q⟩
  · rw [q] at e
    cases x with
    | ref r =>
      obtain ⟨ws, q1, l⟩ := R.cell n _ _ r hn
      simp only [T.dat] at e
      cases hd : T.datL xs with
      | none => rw [hd] at e; cases e
      | some ds => rw [hd] at e; cases e; exact .lst (SqL.of q1) (RpL.dp l hd)
  · rw [q] at e; simp only [T.dat] at e; cases e
  · rw [q] at e; simp only [T.dat] at e; cases e
  · rw [q] at e; exact x.dp e

theorem eqD_inv {d e : PyData} {k : Bool} (q : eqD d e = some k) : min d.depth e.depth ≤ deepest ∧ k = PyData.eqv d e := by
  unfold eqD at q
  split at q
  · rename_i c; cases q; exact ⟨c, rfl⟩
  · cases q
mutual
theorem dat_plain : ∀ {t : T} {d : PyData}, t.dat = some d → d.plain = true
  | .non, _, e => by simp only [T.dat] at e; cases e; rfl
  | .bl _, _, e => by simp only [T.dat] at e; cases e; rfl
  | .int _, _, e => by simp only [T.dat] at e; cases e; rfl
  | .str _, _, e => by simp only [T.dat] at e; cases e; rfl
  | .tup xs, _, e => by
    simp only [T.dat] at e
    cases h : T.datL xs with
    | none => rw [h] at e; cases e
    | some ds => rw [h] at e; cases e; simp only [PyData.plain]; exact datL_plain h
  | .lst xs, _, e => by
    simp only [T.dat] at e
    cases h : T.datL xs with
    | none => rw [h] at e; cases e
    | some ds => rw [h] at e; cases e; simp only [PyData.plain]; exact datL_plain h
  | .dct _ _ _, _, e => by simp only [T.dat] at e; cases e
  | .ref _, _, e => by simp only [T.dat] at e; cases e
  | .clo _ _, _, e => by simp only [T.dat] at e; cases e
  | .exn _ _, _, e => by simp only [T.dat] at e; cases e
theorem datL_plain : ∀ {ts : List T} {ds : List PyData}, T.datL ts = some ds → PyData.plainAll ds = true
  | [], _, e => by simp only [T.datL] at e; cases e; rfl
  | t :: ts, _, e => by
    simp only [T.datL] at e
    cases h1 : t.dat with
    | none => rw [h1] at e; cases e
    | some d =>
      cases h2 : T.datL ts with
      | none => rw [h1, h2] at e; cases e
      | some ds =>
        rw [h1, h2] at e
        cases e
        simp only [PyData.plainAll, Bool.and_eq_true]
        exact ⟨dat_plain h1, datL_plain h2⟩
end
theorem eqT_inv {a b : T} {k : Bool} (q : eqT a b = some k) : ∃ d e, a.dat = some d ∧ b.dat = some e ∧ eqD d e = some k := by
  unfold eqT at q
  cases h1 : a.dat with
  | none => rw [h1] at q; cases q
  | some d =>
    cases h2 : b.dat with
    | none => rw [h1, h2] at q; cases q
    | some e => rw [h1, h2] at q; exact ⟨d, e, rfl, rfl, q⟩
theorem cmp_eq (hK : D.K = X.K) (hu : X.A.units + 190 < cLine) {x y : V} {v u : Value} {t t' : T} {k : Bool} {Q : VK} (I : Inv X pins σ H s) (R : RelH D H rho h) (rx : RelV x v) (ry : RelV y u) (px : Rp D none H rho x t) (py : Rp D none H rho y t')
    (e : eqT (snap h t) (snap h t') = some k) (q : Q (.bl k) H) : wpAny (model X.prog X.w) X.A (compareOp .Eq v u) (EP X pins σ Q) X.xe s := by
  obtain ⟨d, d', e1, e2, e3⟩ := eqT_inv e
  obtain ⟨c3, rfl⟩ := eqD_inv e3
  have p1 := snap_dp R px e1
  have p2 := snap_dp R py e2
  rw [hK] at p1 p2
  obtain ⟨as, r1⟩ := Dp.reads I d x v p1 rx
  obtain ⟨bs, r2⟩ := Dp.reads I d' y u p2 ry
  exact SeqAt.eq_plain r1 r2 (dat_plain e1) (dat_plain e2) (by unfold deepest at c3; omega) ⟨.bl _, H, I, rfl, q⟩
theorem cmp_ne (hK : D.K = X.K) (hu : X.A.units + 190 < cLine) {x y : V} {v u : Value} {t t' : T} {k : Bool} {Q : VK} (I : Inv X pins σ H s) (R : RelH D H rho h) (rx : RelV x v) (ry : RelV y u) (px : Rp D none H rho x t) (py : Rp D none H rho y t')
    (e : eqT (snap h t) (snap h t') = some k) (q : Q (.bl (!k)) H) : wpAny (model X.prog X.w) X.A (compareOp .NotEq v u) (EP X pins σ Q) X.xe s := by
  obtain ⟨d, d', e1, e2, e3⟩ := eqT_inv e
  obtain ⟨c3, rfl⟩ := eqD_inv e3
  have p1 := snap_dp R px e1
  have p2 := snap_dp R py e2
  rw [hK] at p1 p2
  obtain ⟨as, r1⟩ := Dp.reads I d x v p1 rx
  obtain ⟨bs, r2⟩ := Dp.reads I d' y u p2 ry
  exact SeqAt.ne_plain r1 r2 (dat_plain e1) (dat_plain e2) (by unfold deepest at c3; omega) ⟨.bl _, H, I, rfl, q⟩

theorem list_new {Q : VK} {vs : List V} {its : List Value} {n : Nat} {t' : Nat} (I : Inv X pins σ H s) (hv : Vals vs its) (hz : vs.length ≤ sizeLine) (q : ∀ p, H p = none → FrzQ Q (.ref p) (upd H p (.lst vs))) :
    EP X pins σ Q (.ref s.heap.objs.size) { s with heap := s.heap.push { cls := .type "list", data := .seq its.toArray n }, toks := t' } :=
  EP_frz ⟨.ref s.heap.objs.size, _, I.laid (t' := t') (o := .lst vs) (fun _ _ q => Heap.get?_push_of_some _ q) (Nat.le_refl _) ⟨hz, its, n, hv, Heap.get?_push_size _ rfl⟩, rfl, q _ (I.hok.fresh (Nat.le_refl _))⟩
theorem tup_new {Q : VK} {vs : List V} {its : List Value} {t' : Nat} (I : Inv X pins σ H s) (hv : Vals vs its) (hz : vs.length ≤ sizeLine) (q : ∀ p, H p = none → Q (.ref p) (upd H p (.tup vs))) :
    EP X pins σ Q (.ref s.heap.objs.size) { s with heap := s.heap.push { cls := .type "tuple", data := .seq its.toArray }, toks := t' } :=
  ⟨.ref s.heap.objs.size, _, I.laid (t' := t') (o := .tup vs) (fun _ _ q => Heap.get?_push_of_some _ q) (Nat.le_refl _) ⟨hz, its, hv, IsTup.new _ _⟩, rfl, q _ (I.hok.fresh (Nat.le_refl _))⟩
theorem cat_list {m : Bool} {v u : Value} {Q : VK} {a b : Addr} {vs ws : List V} {xs ys : List T} (hK : D.K = X.K) (I : Inv X pins σ H s) (R : RelH D H rho h) (rx : RelV (.ref a) v) (ry : RelV (.ref b) u) (ha : SqL D.K H a vs) (hb : SqL D.K H b ws)
    (la : RpL D none H rho vs xs) (lb : RpL D none H rho ws ys) (o : outE D none W σ2 H rho Q (fresh m (xs ++ ys) h)) : wpAny (model X.prog X.w) X.A (binaryOp .Add v u) (EP X pins σ Q) X.xe s := by
  cases rx
  cases ry
  rw [hK] at ha hb
  obtain ⟨hz, q⟩ := fresh_ok R (la.append lb) o
  obtain ⟨its, r1, p1, _⟩ := I.list ha
  obtain ⟨its2, r2, p2, _⟩ := I.list hb
  obtain ⟨⟨cls, dd, data, sl⟩, ho, hc, n, hd⟩ := p1.isList
  obtain ⟨⟨cls2, dd2, data2, sl2⟩, ho2, hc2, n2, hd2⟩ := p2.isList
  simp only at hc hd hc2 hd2
  subst hc hd hc2 hd2
  have e : its.toArray ++ its2.toArray = (its ++ its2).toArray := by simp
  have hz2 : its.toArray.size + its2.toArray.size ≤ sizeLine := by
    rw [List.size_toArray, List.size_toArray, ← r1.length, ← r2.length, ← List.length_append]; exact hz
  refine concat_meets ⟨_, ho, rfl⟩ ⟨_, ho2, rfl⟩ noFill_list_add seq_list_add PySem.F.slot_list_add PySem.F.entry_list_add (PySem.F.args_list_add_2 _ _) (list_addW a b its.toArray its2.toArray n n2 dd dd2 sl sl2 hz2) ⟨ho, ho2, ?_⟩
  rw [e]
  exact list_new (t' := s.toks) I (r1.append r2) hz q
theorem cat_tup {v u : Value} {Q : VK} {a b : Addr} {vs ws : List V} {xs ys : List T} (hK : D.K = X.K) (I : Inv X pins σ H s) (R : RelH D H rho h) (rx : RelV (.ref a) v) (ry : RelV (.ref b) u) (ha : H a = some (.tup vs)) (hb : H b = some (.tup ws))
    (la : RpL D sx H rho vs xs) (lb : RpL D sx H rho ws ys) (hz : xs.length + ys.length ≤ sizeLine) (o : outE D sx W σ2 H rho Q (.ok (.tup (xs ++ ys)) h)) : wpAny (model X.prog X.w) X.A (binaryOp .Add v u) (EP X pins σ Q) X.xe s := by
  by_cases hv : vs = []
  · subst hv
    cases la
    have q := val_ok R (.tup hb lb) o
    cases rx
    cases ry
    obtain ⟨its, r1, ⟨⟨cls, dd, data, sl⟩, ho, hc, n, hd⟩, _⟩ := I.tuple (SqT.of ha)
    obtain ⟨its2, r2, ⟨⟨cls2, dd2, data2, sl2⟩, ho2, hc2, n2, hd2⟩, _⟩ := I.tuple (SqT.of hb)
    simp only at hc hd hc2 hd2
    subst hc hd hc2 hd2
    cases r1
    exact concat_meets ⟨_, ho, rfl⟩ ⟨_, ho2, rfl⟩ noFill_tuple_add seq_tuple_add PySem.F.slot_tuple_add PySem.F.entry_tuple_add (PySem.F.args_tuple_add_2 _ _)
      (tuple_addW0 a b _ its2.toArray n n2 dd dd2 sl sl2 rfl) ⟨ho, ho2, ⟨.ref b, H, I, rfl, q⟩⟩
  · refine op_catT pins s σ H (.ref a) (.ref b) v u Q I rx ry ⟨a, b, vs, ws, rfl, rfl, SqT.of ha, SqT.of hb, hv, by rw [la.length, lb.length]; exact hz, fun e => ?_, fun _ p n => tup_ok R (la.append lb) o n⟩
    subst e
    cases lb
    rw [List.append_nil] at o
    exact val_ok R (.tup ha la) o
def opS : Bo → Operator
  | .add => .Add
  | .sub => .Sub
  | .mul => .Mult
  | .mod => .Mod
  | .fdiv => .FloorDiv
  | .pow => .Pow
theorem bin_ok {m : Bool} {o : Bo} {x y : V} {v u : Value} {t t' : T} {Q : VK} (hK : D.K = X.K) (I : Inv X pins σ H s) (R : RelH D H rho h) (rx : RelV x v) (ry : RelV y u) (px : Rp D none H rho x t) (py : Rp D none H rho y t')
    (q : outE D none W σ2 H rho Q (binT m o t t' h)) : wpAny (model X.prog X.w) X.A (binaryOp (opS o) v u) (EP X pins σ Q) X.xe s := by
  cases o with
  | add =>
    have lists : (∀ xs ys, isList h t = some xs → isList h t' = some ys → outE D none W σ2 H rho Q (fresh m (xs ++ ys) h) → wpAny (model X.prog X.w) X.A (binaryOp (opS .add) v u) (EP X pins σ Q) X.xe s) := fun xs ys e1 e2 q => by
      obtain ⟨a, vs, rfl, ha, la⟩ := view_list R px e1
      obtain ⟨b, ws, rfl, hb, lb⟩ := view_list R py e2
      exact cat_list hK I R rx ry ha hb la lb q
    have gen : (match isList h t, isList h t' with
      | some xs, some ys => outE D none W σ2 H rho Q (fresh m (xs ++ ys) h)
      | _, _ => False) → wpAny (model X.prog X.w) X.A (binaryOp (opS .add) v u) (EP X pins σ Q) X.xe s := fun g => by
      cases e1 : isList h t with
      | none => rw [e1] at g; exact g.elim
      | some xs =>
        cases e2 : isList h t' with
        | none => rw [e1, e2] at g; exact g.elim
        | some ys => rw [e1, e2] at g; exact lists xs ys e1 e2 g
    have lift : ∀ {r : PS.R T}, outE D none W σ2 H rho Q (match isList h t, isList h t' with
      | some xs, some ys => fresh m (xs ++ ys) h
      | _, _ => .stuck) → (match isList h t, isList h t' with
      | some xs, some ys => outE D none W σ2 H rho Q (fresh m (xs ++ ys) h)
      | _, _ => False) := fun {_} g => by
      cases e1 : isList h t with
      | none => rw [e1] at g; exact g
      | some xs =>
        cases e2 : isList h t' with
        | none => rw [e1, e2] at g; exact g
        | some ys => rw [e1, e2] at g; exact g
    cases px with
    | int i =>
      cases py with
      | int j => exact op_add pins s σ H _ _ v u Q I rx ry ⟨i, j, rfl, rfl, val_ok R (.int _) q⟩
      | _ => exact gen (lift (r := .stuck) q)
    | str a =>
      cases py with
      | str b =>
        unfold binT at q
        simp only at q
        split at q
        · rename_i c
          exact op_add_str pins s σ H _ _ v u Q I rx ry ⟨a, b, rfl, rfl, c, val_ok R (.str _) q⟩
        · exact q.elim
      | _ => exact gen (lift (r := .stuck) q)
    | tup ha la =>
      cases py with
      | tup hb lb =>
        unfold binT at q
        simp only at q
        split at q
        · rename_i c
          exact cat_tup (W := W) (σ2 := σ2) hK I R rx ry ha hb la lb c q
        · exact q.elim
      | _ => exact gen (lift (r := .stuck) q)
    | _ => cases py <;> exact gen (lift (r := .stuck) q)
  | sub =>
    cases px with
    | int i =>
      cases py with
      | int j => exact op_sub pins s σ H _ _ v u Q I rx ry ⟨i, j, rfl, rfl, val_ok R (.int _) q⟩
      | _ => exact q.elim
    | _ => cases py <;> exact q.elim
  | mul =>
    cases px with
    | int i =>
      cases py with
      | int j =>
        unfold binT at q
        simp only at q
        split at q
        · rename_i c
          exact op_mul pins s σ H _ _ v u Q I rx ry ⟨i, j, rfl, rfl, c, val_ok R (.int _) q⟩
        · exact q.elim
      | _ => exact q.elim
    | @tup a vs ts ha la =>
      cases py with
      | int j =>
        unfold binT at q
        simp only at q
        split at q
        · rename_i c
          refine op_repT pins s σ H _ _ v u Q I rx ry ⟨a, j, vs, rfl, rfl, SqT.of ha, fun e => ?_, c.2.1, c.2.2.1, by rw [la.length]; exact c.2.2.2, fun p n => tup_ok R (la.rep _) q n⟩
          subst e
          cases la
          exact absurd c.1 (by decide)
        · exact q.elim
      | _ => exact q.elim
    | _ => cases py <;> exact q.elim
  | mod =>
    cases px with
    | int i =>
      cases py with
      | int j =>
        unfold binT at q
        simp only at q
        split at q
        · rename_i c
          exact op_mod pins s σ H _ _ v u Q I rx ry ⟨i, j, rfl, rfl, c, val_ok R (.int _) q⟩
        · exact q.elim
      | _ => exact q.elim
    | _ => cases py <;> exact q.elim
  | fdiv =>
    cases px with
    | int i =>
      cases py with
      | int j =>
        unfold binT at q
        simp only at q
        split at q
        · rename_i c
          exact op_fdiv pins s σ H _ _ v u Q I rx ry ⟨i, j, rfl, rfl, c, val_ok R (.int _) q⟩
        · exact q.elim
      | _ => exact q.elim
    | _ => cases py <;> exact q.elim
  | pow =>
    cases px with
    | int i =>
      cases py with
      | int j =>
        unfold binT at q
        simp only at q
        split at q
        · rename_i c
          exact op_pow pins s σ H _ _ v u Q I rx ry ⟨i, j, rfl, rfl, c, val_ok R (.int _) q⟩
        · exact q.elim
      | _ => exact q.elim
    | _ => cases py <;> exact q.elim

theorem nat_bne : ∀ n : Nat, (n != 0) = ((n : Int) != 0)
  | 0 => rfl
  | _ + 1 => rfl
theorem tru_T (R : RelH D H rho h) {x : V} {t : T} {k : Bool} (px : Rp D none H rho x t) (e : truT h t = some k) : TruV D.K x H k := by
  unfold truT at e
  rcases snap_cases h t with ⟨n, rfl, xs, hn, z⟩ | ⟨n, rfl, tk, ks, vs, hn, z⟩ | ⟨n, rfl, z⟩ | ⟨_, z⟩
  · rw [z] at e
    cases px with
    | ref r =>
      obtain ⟨ws, q1, l⟩ := R.cell n _ _ r hn
      cases e
      exact .inl ⟨ws, SqL.of q1, by rw [l.isEmpty]⟩
  · rw [z] at e
    cases px with
    | ref r =>
      cases e
  · rw [z] at e; cases e
  · rw [z] at e
    cases px with
    | non => cases e; rfl
    | bl b => cases e; rfl
    | int i => cases e; rfl
    | str y =>
      simp only at e
      split at e
      · rename_i c; cases e; exact ⟨c, nat_bne _⟩
      · cases e
    | tup q l => cases e; exact .inr (.inl ⟨_, SqT.of q, by rw [l.isEmpty]⟩)
    | lst q l => cases e; exact .inl ⟨_, .inl (.inr ⟨_, q⟩), by rw [l.isEmpty]⟩
    | dK => cases e
    | dT => cases e
    | ref => cases e
    | exn => cases e
end PS
end
section
set_option maxRecDepth 100000
set_option maxHeartbeats 2000000
namespace PS
open PySem PySem.Spec PyProof.Rows L2
variable {D : Wd} {X : Cx} {pins : List (Addr × Obj)} {σ : L2.St} {H : Hp} {s : Shared} {rho : Rho} {h : AH} {W : WX} {sx : Sx}

def nk : Key → NestedKey
  | .inl i => .num i
  | .inr x => .text x
theorem nk_inj {a b : Key} (e : nk a = nk b) : a = b := by
  cases a <;> cases b <;> simp [nk] at e <;> rw [e]
theorem key_keyT (a : Key) : (keyT a).key = some (nk a) := by cases a <;> simp [keyT, T.key, nk]
theorem keyL_map : ∀ ks : List Key, T.keyL (ks.map keyT) = some (ks.map nk)
  | [] => rfl
  | k :: ks => by simp only [List.map_cons, T.keyL, key_keyT, keyL_map ks]
theorem nks_inj : ∀ {a b : List Key}, a.map nk = b.map nk → a = b
  | [], [], _ => rfl
  | [], _ :: _, e => by simp at e
  | _ :: _, [], e => by simp at e
  | x :: xs, y :: ys, e => by
    simp only [List.map_cons, List.cons.injEq] at e
    rw [nk_inj e.1, nks_inj e.2]
theorem key_tup (ks : List Key) : (T.tup (ks.map keyT)).key = some (.tup (ks.map nk)) := by simp only [T.key, keyL_map, Option.map_some]
theorem find_gen {κ : Type} [DecidableEq κ] (f : κ → T) (g : κ → NestedKey) (hf : ∀ a, (f a).key = some (g a)) (hg : ∀ a b, g a = g b → a = b) (k : κ) : ∀ kvs : List (κ × V),
    (∃ j v, findK (g k) (kvs.map fun p => f p.1) = some j ∧ (kvs.map (·.2))[j]? = some v ∧ valV kvs k = some v) ∨ (findK (g k) (kvs.map fun p => f p.1) = none ∧ valV kvs k = none)
  | [] => .inr ⟨rfl, rfl⟩
  | (a, v) :: r => by
    simp only [List.map_cons, findK, hf]
    by_cases e : a = k
    · subst e
      rw [if_pos rfl]
      exact .inl ⟨0, v, rfl, rfl, valV_pos rfl⟩
    · rw [if_neg (fun z => e (hg _ _ (Option.some.inj z)))]
      rcases find_gen f g hf hg k r with ⟨j, u, h1, h2, h3⟩ | ⟨h1, h2⟩
      · exact .inl ⟨j + 1, u, by rw [h1]; rfl, by simpa using h2, by rw [valV_neg e]; exact h3⟩
      · exact .inr ⟨by rw [h1]; rfl, by rw [valV_neg e]; exact h2⟩
theorem set_gen {κ : Type} [DecidableEq κ] (f : κ → T) (g : κ → NestedKey) (hf : ∀ a, (f a).key = some (g a)) (hg : ∀ a b, g a = g b → a = b) (k : κ) {x : V} {t : T} (px : Rp D none H rho x t) : ∀ (kvs : List (κ × V)) {ts : List T}, RpL D none H rho (kvs.map (·.2)) ts →
    ((kvs.map fun kv => if kv.1 = k then (kv.1, x) else kv).map fun p => f p.1) = (kvs.map fun p => f p.1) ∧ RpL D none H rho ((kvs.map fun kv => if kv.1 = k then (kv.1, x) else kv).map (·.2)) (setK (g k) t (kvs.map fun p => f p.1) ts)
  | [], _, .nil => ⟨rfl, .nil⟩
  | (a, v) :: r, _, .cons p l => by
    obtain ⟨h1, h2⟩ := set_gen f g hf hg k px r l
    simp only [List.map_cons, setK, hf]
    by_cases e : a = k
    · subst e
      simp only [if_pos]
      exact ⟨by rw [h1], .cons px h2⟩
    · rw [if_neg e, if_neg (fun z => e (hg _ _ (Option.some.inj z)))]
      exact ⟨by rw [h1], .cons p h2⟩
theorem any_none {κ : Type} [DecidableEq κ] {kvs : List (κ × V)} {k : κ} (e : valV kvs k = none) : (kvs.any fun kv => decide (kv.1 = k)) = false := by
  rw [valV_any, e]; rfl
theorem any_some {κ : Type} [DecidableEq κ] {kvs : List (κ × V)} {k : κ} {v : V} (e : valV kvs k = some v) : (kvs.any fun kv => decide (kv.1 = k)) = true := by
  rw [valV_any, e]; rfl
theorem keyOk_false {t : T} {k : NestedKey} (e : keyOk false t = some k) : ∃ key, t = keyT key ∧ k = nk key := by
  cases t with
  | int i => simp [keyOk] at e; exact ⟨.inl i, rfl, e.symm⟩
  | str x => simp [keyOk] at e; exact ⟨.inr x, rfl, e.symm⟩
  | _ => simp [keyOk] at e
theorem flat_keys : ∀ {xs : List T}, xs.all flatK = true → ∃ ks : List Key, xs = ks.map keyT
  | [], _ => ⟨[], rfl⟩
  | x :: xs, e => by
    simp only [List.all_cons, Bool.and_eq_true] at e
    obtain ⟨ks, rfl⟩ := flat_keys e.2
    cases x with
    | int i => exact ⟨.inl i :: ks, rfl⟩
    | str y => exact ⟨.inr y :: ks, rfl⟩
    | _ => simp [flatK] at e
theorem keyOk_true {t : T} {k : NestedKey} (e : keyOk true t = some k) : ∃ ks : List Key, t = .tup (ks.map keyT) ∧ k = .tup (ks.map nk) := by
  cases t with
  | tup xs =>
    simp only [keyOk] at e
    split at e
    · rename_i c
      obtain ⟨ks, rfl⟩ := flat_keys c
      rw [key_tup] at e
      cases e
      exact ⟨ks, rfl, rfl⟩
    · cases e
  | _ => simp [keyOk] at e
theorem rp_keyT {v : V} {k : Key} (p : Rp D sx H rho v (keyT k)) : v = kV k := by
  cases k <;> cases p <;> rfl
theorem rpL_keyT : ∀ {ks : List Key} {vs : List V}, RpL D sx H rho vs (ks.map keyT) → vs = ks.map kV
  | [], _, .nil => rfl
  | k :: ks, _, .cons p l => by rw [rp_keyT p, rpL_keyT l]; rfl
theorem dct_get (R : RelH D H rho h) {x y : V} {t t' : T} {tk : Bool} {ks vs : List T} {k : NestedKey} (px : Rp D none H rho x t) (py : Rp D none H rho y t') (e : snap h t' = .dct tk ks vs) (ek : keyOk tk t = some k) :
    ∃ a o, y = .ref a ∧ DGet H a x o ∧ ((∃ j v u, findK k ks = some j ∧ vs[j]? = some u ∧ o = some v ∧ Rp D none H rho v u) ∨ (findK k ks = none ∧ o = none)) := by
  have goK : ∀ {a : Addr} {kvs : List (Key × V)}, Rd H a (.dK kvs) → tk = false → ks = kvs.map (fun p => keyT p.1) → RpL D none H rho (kvs.map (·.2)) vs → ∃ o, DGet H a x o ∧ ((∃ j v u, findK k ks = some j ∧ vs[j]? = some u ∧ o = some v ∧ Rp D none H rho v u) ∨ (findK k ks = none ∧ o = none)) := fun {a kvs} r ht hk l => by
    subst ht
    obtain ⟨key, rfl, rfl⟩ := keyOk_false ek
    have ex := rp_keyT px
    subst ex
    subst hk
    refine ⟨_, .inl ⟨kvs, key, r, rfl, rfl⟩, ?_⟩
    rcases find_gen keyT nk key_keyT (fun a b => nk_inj) key kvs with ⟨j, v, h1, h2, h3⟩ | ⟨h1, h2⟩
    · obtain ⟨u, e1, e2⟩ := l.getV h2
      exact .inl ⟨j, v, u, h1, e1, h3, e2⟩
    · exact .inr ⟨h1, h2⟩
  have goT : ∀ {a : Addr} {kvs : List (List Key × V)}, Rd H a (.dT kvs) → tk = true → ks = kvs.map (fun p => .tup (p.1.map keyT)) → RpL D none H rho (kvs.map (·.2)) vs → ∃ o, DGet H a x o ∧ ((∃ j v u, findK k ks = some j ∧ vs[j]? = some u ∧ o = some v ∧ Rp D none H rho v u) ∨ (findK k ks = none ∧ o = none)) := fun {a kvs} r ht hk l => by
    subst ht
    obtain ⟨key, rfl, rfl⟩ := keyOk_true ek
    cases px with
    | tup q lq =>
      have ex := rpL_keyT lq
      subst ex
      subst hk
      refine ⟨_, .inr ⟨kvs, key, _, r, rfl, q, rfl⟩, ?_⟩
      rcases find_gen (fun ks : List Key => T.tup (ks.map keyT)) (fun ks => .tup (ks.map nk)) key_tup (fun a b e => nks_inj (NestedKey.tup.inj e)) key kvs with ⟨j, v, h1, h2, h3⟩ | ⟨h1, h2⟩
      · obtain ⟨u, e1, e2⟩ := l.getV h2
        exact .inl ⟨j, v, u, h1, e1, h3, e2⟩
      · exact .inr ⟨h1, h2⟩
  rcases snap_cases h t' with ⟨n, rfl, xs, hn, z⟩ | ⟨n, rfl, tk', ks', vs', hn, z⟩ | ⟨n, rfl, z⟩ | ⟨_, z⟩
  · rw [z] at e; cases e
  · rw [z] at e
    cases e
    cases py with
    | @ref a _ r =>
      cases tk with
      | false =>
        obtain ⟨kvs, q1, e1, l⟩ := R.cell n _ _ r hn
        obtain ⟨o, h1, h2⟩ := goK (.inl q1) rfl e1 l
        exact ⟨a, o, rfl, h1, h2⟩
      | true =>
        obtain ⟨kvs, q1, e1, l⟩ := R.cell n _ _ r hn
        obtain ⟨o, h1, h2⟩ := goT (.inl q1) rfl e1 l
        exact ⟨a, o, rfl, h1, h2⟩
  · rw [z] at e; cases e
  · rw [z] at e
    subst e
    cases py with
    | @dK a ob kvs _ _ q1 e1 l =>
      obtain ⟨o, h1, h2⟩ := goK (.inr ⟨ob, q1⟩) rfl e1 l
      exact ⟨a, o, rfl, h1, h2⟩
    | @dT a ob kvs _ _ q1 e1 l =>
      obtain ⟨o, h1, h2⟩ := goT (.inr ⟨ob, q1⟩) rfl e1 l
      exact ⟨a, o, rfl, h1, h2⟩

theorem inL_inv {t : T} {xs : List T} {k : Bool} (e : inL t xs = some k) : ∃ d es, t.dat = some d ∧ T.datL xs = some es ∧ min (PyData.depthAll es) d.depth ≤ deepest ∧ k = es.any fun e => PyData.eqv e d := by
  unfold inL at e
  cases h1 : t.dat with
  | none => rw [h1] at e; cases e
  | some d =>
    cases h2 : T.datL xs with
    | none => rw [h1, h2] at e; cases e
    | some es =>
      rw [h1, h2] at e
      simp only at e
      split at e
      · rename_i c
        cases e
        exact ⟨d, es, rfl, rfl, c, rfl⟩
      · cases e
theorem cmp_in (hK : D.K = X.K) (hu : X.A.units + 190 < cLine) {x y : V} {v u : Value} {t t' : T} {k : Bool} {Q : VK} (I : Inv X pins σ H s) (R : RelH D H rho h) (rx : RelV x v) (ry : RelV y u) (px : Rp D none H rho x t) (py : Rp D none H rho y t')
    (e : inT h t t' = some k) (n : Bool) (q : Q (.bl (n != k)) H) : wpAny (model X.prog X.w) X.A (compareOp (if n = true then .NotIn else .In) v u) (EP X pins σ Q) X.xe s := by
  unfold inT at e
  have fin : ∀ {s' : Shared}, Inv X pins σ H s' → EP X pins σ Q (.bool (n != k)) s' := fun {s'} I' => ⟨.bl _, H, I', rfl, q⟩
  have seqs : ∀ (b : Bool) (xs : List T), (snap h t').dat = (T.datL xs).map (if b = true then PyData.list else PyData.tuple) → inL (snap h t) xs = some k → wpAny (model X.prog X.w) X.A (compareOp (if n = true then .NotIn else .In) v u) (EP X pins σ Q) X.xe s := fun b xs hd hi => by
    obtain ⟨d, es, h1, h2, c3, rfl⟩ := inL_inv hi
    have c1 := dat_plain h1
    have c2 := datL_plain h2
    rw [h2] at hd
    have p1 := snap_dp R px h1
    have p2 := snap_dp R py hd
    rw [hK] at p1 p2
    obtain ⟨as, r1⟩ := Dp.reads I d x v p1 rx
    obtain ⟨bs, r2⟩ := Dp.reads I _ y u p2 ry
    have hr : X.A.units + 1 + min (PyData.depthAll es) d.depth < cLine := by unfold deepest at c3; omega
    cases n with
    | false =>
      cases b with
      | true => exact SeqAt.in_list_data r2 r1 c2 c1 hr (by simpa using fin I)
      | false => exact SeqAt.in_tuple_data r2 r1 c2 c1 hr (by simpa using fin I)
    | true =>
      cases b with
      | true => exact SeqAt.notIn_list_data r2 r1 c2 c1 hr (by simpa using fin I)
      | false => exact SeqAt.notIn_tuple_data r2 r1 c2 c1 hr (by simpa using fin I)
  cases es : snap h t' with
  | tup xs => rw [es] at e; exact seqs false xs (by rw [es]; simp [T.dat]) e
  | lst xs => rw [es] at e; exact seqs true xs (by rw [es]; simp [T.dat]) e
  | dct tk ks vs =>
    rw [es] at e
    simp only at e
    cases ek : keyOk tk t with
    | none => rw [ek] at e; cases e
    | some key =>
      rw [ek] at e
      cases e
      obtain ⟨a, o, rfl, g, hfind⟩ := dct_get R px py es ek
      have ho : o.isSome = (findK key ks).isSome := by
        rcases hfind with ⟨j, v, u, h1, _, h3, _⟩ | ⟨h1, h2⟩
        · rw [h1, h3]; rfl
        · rw [h1, h2]; rfl
      cases ry
      have hu1 : X.A.units + 1 < cLine := by omega
      cases n with
      | false => exact d_in hu1 I g rx fun s' I' => by rw [ho]; simpa using fin I'
      | true => exact d_notIn hu1 I g rx fun s' I' => by rw [ho]; simpa using fin I'
  | str b =>
    rw [es] at e
    have e2 : t' = .str b := by
      rcases snap_cases h t' with ⟨n, rfl, xs, hn, z⟩ | ⟨n, rfl, tk', ks', vs', hn, z⟩ | ⟨n, rfl, z⟩ | ⟨_, z⟩ <;> rw [es] at z <;> first | exact z.symm | cases z
    subst e2
    cases px with
    | str a =>
      cases e
      cases py
      cases n with
      | false => exact op_in_str pins s σ H _ _ v u Q I rx ry ⟨a, b, rfl, rfl, by simpa [subStr] using q⟩
      | true => exact op_notIn_str pins s σ H _ _ v u Q I rx ry ⟨a, b, rfl, rfl, by simpa [subStr] using q⟩
    | _ => cases e
  | _ => rw [es] at e; cases e

theorem cmp_is {x y : V} {v u : Value} {t t' : T} {k : Bool} {Q : VK} (I : Inv X pins σ H s) (rx : RelV x v) (ry : RelV y u) (px : Rp D sx H rho x t) (py : Rp D sx H rho y t')
    (e : isT t t' = some k) (n : Bool) (q : Q (.bl (n != k)) H) : wpAny (model X.prog X.w) X.A (compareOp (if n = true then .IsNot else .Is) v u) (EP X pins σ Q) X.xe s := by
  cases py with
  | non =>
    have e2 : k = decide (x = .non) := by cases px <;> (simp only [isT] at e; cases e; first | rfl | simp)
    subst e2
    cases n with
    | false => exact op_isN pins s σ H _ _ v u Q I rx ry ⟨rfl, by simpa using q⟩
    | true => exact op_notN pins s σ H _ _ v u Q I rx ry ⟨rfl, by simpa using q⟩
  | bl b =>
    cases ry
    have fin : EP X pins σ Q (.bool (n != k)) s := ⟨.bl _, H, I, rfl, q⟩
    have hp : plainIs v (.bool b) = true ∧ (v == Value.bool b) = k := by
      cases px with
      | non => cases rx; simp only [isT] at e; cases e; exact ⟨rfl, rfl⟩
      | bl c => cases rx; simp only [isT] at e; cases e; exact ⟨rfl, by cases c <;> cases b <;> rfl⟩
      | int i => obtain ⟨tk, rfl⟩ := rx; simp only [isT] at e; cases e; exact ⟨rfl, rfl⟩
      | str i => obtain ⟨tk, rfl⟩ := rx; simp only [isT] at e; cases e; exact ⟨rfl, rfl⟩
      | _ => cases rx; simp only [isT] at e; cases e; exact ⟨rfl, rfl⟩
    cases n with
    | false => exact wpAny_is_plain hp.1 (by rw [hp.2]; simpa using fin)
    | true => exact wpAny_isNot_plain hp.1 (by rw [hp.2]; simpa using fin)
  | _ => cases px <;> cases e
def opC : Co → CmpOp
  | .eq => .Eq
  | .ne => .NotEq
  | .lt => .Lt
  | .le => .LtE
  | .gt => .Gt
  | .ge => .GtE
  | .is => .Is
  | .isnot => .IsNot
  | .isin => .In
  | .notin => .NotIn
theorem map_not {o : Option Bool} {k : Bool} (e : o.map (!·) = some k) : o = some (!k) := by
  cases o with
  | none => cases e
  | some b => simp at e; subst e; simp
theorem cmp_ok (hK : D.K = X.K) (hu : X.A.units + 190 < cLine) {o : Co} {x y : V} {v u : Value} {t t' : T} {k : Bool} {Q : VK} (I : Inv X pins σ H s) (R : RelH D H rho h) (rx : RelV x v) (ry : RelV y u) (px : Rp D none H rho x t) (py : Rp D none H rho y t')
    (e : cmpT o h t t' = some k) (q : Q (.bl k) H) : wpAny (model X.prog X.w) X.A (compareOp (opC o) v u) (EP X pins σ Q) X.xe s := by
  cases o with
  | eq => exact cmp_eq hK hu I R rx ry px py e q
  | ne => exact cmp_ne hK hu I R rx ry px py (map_not e) (by simpa using q)
  | is => exact cmp_is I rx ry px py e false (by simpa using q)
  | isnot => exact cmp_is I rx ry px py (map_not e) true (by simpa using q)
  | isin => exact cmp_in hK hu I R rx ry px py e false (by simpa using q)
  | notin => exact cmp_in hK hu I R rx ry px py (map_not e) true (by simpa using q)
  | lt =>
    simp only [cmpT] at e
    cases px with
    | int i => cases py with
      | int j => cases e; exact op_lt pins s σ H _ _ v u Q I rx ry ⟨i, j, rfl, rfl, q⟩
      | _ => cases e
    | str i => cases py with
      | str j => cases e; exact op_lt_str pins s σ H _ _ v u Q I rx ry ⟨i, j, rfl, rfl, q⟩
      | _ => cases e
    | _ => cases e
  | le =>
    simp only [cmpT] at e
    cases px with
    | int i => cases py with
      | int j => cases e; exact op_le pins s σ H _ _ v u Q I rx ry ⟨i, j, rfl, rfl, q⟩
      | _ => cases e
    | str i => cases py with
      | str j => cases e; exact op_le_str pins s σ H _ _ v u Q I rx ry ⟨i, j, rfl, rfl, q⟩
      | _ => cases e
    | _ => cases e
  | gt =>
    simp only [cmpT] at e
    cases px with
    | int i => cases py with
      | int j => cases e; exact op_gt pins s σ H _ _ v u Q I rx ry ⟨i, j, rfl, rfl, q⟩
      | _ => cases e
    | str i => cases py with
      | str j => cases e; exact op_gt_str pins s σ H _ _ v u Q I rx ry ⟨i, j, rfl, rfl, q⟩
      | _ => cases e
    | _ => cases e
  | ge =>
    simp only [cmpT] at e
    cases px with
    | int i => cases py with
      | int j => cases e; exact op_ge pins s σ H _ _ v u Q I rx ry ⟨i, j, rfl, rfl, q⟩
      | _ => cases e
    | str i => cases py with
      | str j => cases e; exact op_ge_str pins s σ H _ _ v u Q I rx ry ⟨i, j, rfl, rfl, q⟩
      | _ => cases e
    | _ => cases e
end PS
end
section
set_option maxRecDepth 100000
set_option maxHeartbeats 2000000
namespace PS
open PySem PySem.Spec PyProof.Rows L2
variable {D : Wd} {X : Cx} {pins : List (Addr × Obj)} {σ : L2.St} {H : Hp} {s : Shared} {rho : Rho} {h : AH} {W : WX} {sx : Sx}

theorem RpL.atI {vs : List V} {ts : List T} {i : Int} {t : T} (l : RpL D sx H rho vs ts) (e : atI ts i = some t) : ∃ v, L2.atI vs i = some v ∧ Rp D sx H rho v t := by
  unfold L2.atI at e ⊢
  rw [l.length]
  cases hj : ixN ts.length i with
  | none => rw [hj] at e; cases e
  | some j => rw [hj] at e; exact l.get e
theorem snap_of_tup {t : T} {xs : List T} (e : snap h t = .tup xs) : t = .tup xs := by
  rcases snap_cases h t with ⟨n, rfl, ys, hn, z⟩ | ⟨n, rfl, tk, ks, vs, hn, z⟩ | ⟨n, rfl, z⟩ | ⟨_, z⟩ <;> rw [e] at z <;> first | exact z.symm | cases z
theorem snap_of_str {t : T} {x : Str} (e : snap h t = .str x) : t = .str x := by
  rcases snap_cases h t with ⟨n, rfl, ys, hn, z⟩ | ⟨n, rfl, tk, ks, vs, hn, z⟩ | ⟨n, rfl, z⟩ | ⟨_, z⟩ <;> rw [e] at z <;> first | exact z.symm | cases z
theorem list_of_snap {t : T} {xs : List T} (e : snap h t = .lst xs) : isList h t = some xs := by unfold isList; rw [e]
theorem idx_ok (hK : D.K = X.K) (hu : X.A.units + 190 < cLine) {value slice : Expr} {x y : V} {v u : Value} {t t' r : T} {Q : VK} (I : Inv X pins σ H s) (R : RelH D H rho h) (rx : RelV x v) (ry : RelV y u) (px : Rp D none H rho x t) (py : Rp D none H rho y t')
    (e : idxT h t t' = some r) (q : ∀ w, Rp D none H rho w r → Q w H) (hs : subscripted slice false v u = operate [v, u] (getItem v u)) : wpAny (model X.prog X.w) X.A (subscriptTail value slice v u) (EP X pins σ Q) X.xe s := by
  unfold idxT at e
  cases es : snap h t with
  | tup xs =>
    rw [es] at e
    have et := snap_of_tup es
    subst et
    cases py with
    | int i =>
      cases px with
      | tup hq l =>
        obtain ⟨w, e1, e2⟩ := l.atI e
        exact ix_tup value slice pins s σ H _ _ v u Q I rx ry ⟨_, _, i, w, rfl, rfl, SqT.of hq, e1, q w e2⟩ hs
    | _ => cases e
  | lst xs =>
    rw [es] at e
    cases py with
    | int i =>
      obtain ⟨a, vs, rfl, ha, l⟩ := view_list R px (list_of_snap es)
      obtain ⟨w, e1, e2⟩ := l.atI e
      exact ix_list value slice pins s σ H _ _ v u Q I rx ry ⟨_, _, i, w, rfl, rfl, hK ▸ ha, e1, q w e2⟩ hs
    | _ => cases e
  | dct tk ks vs =>
    rw [es] at e
    simp only at e
    cases ek : keyOk tk t' with
    | none => rw [ek] at e; cases e
    | some key =>
      rw [ek] at e
      dsimp only at e
      obtain ⟨a, o, rfl, g, hf⟩ := dct_get R py px es ek
      rcases hf with ⟨j, w, r', h1, h2, h3, h4⟩ | ⟨h1, h2⟩
      · rw [h1] at e
        dsimp only at e
        rw [h2] at e
        cases e
        subst h3
        cases rx
        exact tail_any (dict_typeIs I g) PySem.F.slot_dict_getitem.lookup (d_getItem (by omega) I g ry fun w' s3 I3 rw' => ⟨w, H, I3, rw', q w h4⟩) hs
      · rw [h1] at e; cases e
  | str a =>
    rw [es] at e
    have et := snap_of_str es
    subst et
    cases py with
    | int i =>
      simp only at e
      split at e
      · rename_i c
        cases px
        cases hc : L2.atI a.cps.toList i with
        | none => rw [hc] at e; cases e
        | some d =>
          rw [hc] at e
          cases e
          exact ix_str value slice pins s σ H _ _ v u Q I rx ry ⟨a, i, d, rfl, rfl, c, hc, q _ (.str _)⟩ hs
      · cases e
    | _ => cases e
  | _ => rw [es] at e; cases e

theorem fm_congr {α β : Type} {f g : α → Option β} : ∀ {l : List α}, (∀ a ∈ l, f a = g a) → l.filterMap f = l.filterMap g
  | [], _ => rfl
  | a :: l, h => by
    rw [List.filterMap_cons, List.filterMap_cons, h a (by simp), fm_congr (l := l) fun b hb => h b (by simp [hb])]
theorem RpL.cut {vs : List V} {ts : List T} (l : RpL D sx H rho vs ts) (lo hi : Option Int) : RpL D sx H rho (cutV vs lo hi) (cutL ts lo hi) := by
  unfold cutV cutL
  rw [l.length]
  exact (l.drop _).take _
theorem getItem_tuple_whole {prog : Program} {w : World} {A : Around} {E : Value → Shared → Prop} {s : Shared} {t sl : Addr} {items : Array Value} {vl vu : Value} {lo hi : Option Int} {Q : Value → Shared → Prop} (ht : IsTup s.heap t items) (hs : s.heap.IsSliceOf sl vl vu .none) (pl : IsPart vl lo) (pu : IsPart vu hi)
    (hw : HT.sIx items.size 0 lo = 0 ∧ HT.sIx items.size items.size hi = items.size) (h : Q (.ref t) s) : wpAny (model prog w) A (getItem (.ref t) (.ref sl)) Q E s := by
  obtain ⟨os, hos, hcs, hds⟩ := id hs
  have hTs : s.TypeIs (.ref sl) "slice" := ⟨os, hos, hcs⟩
  unfold getItem
  try with_reducible refine wpAny_holding ?_
  first | refine wpAny_bind (wpAny_pure ?_) | skip
  refine wpAny_bind (wpAny_sequenceKey ht.typeIs (by decide) ?_)
  refine wpAny_bind (wpAny_callSpecial?_slot (name := Str.ofString "__getitem__") ht.typeIs PyProof.Rows.slot_tuple_getitem
    (wpAny_call_entry PyProof.Rows.slot_tuple_getitem ht.typeIs entry_tuple_getitem ?_ (args_tuple_getitem _ _)))
  show wpAny _ _ (Builtin.Tuple.tupleItemsOf (.ref t) >>= _) _ _ s
  refine wpAny_bind (tupleItemsOf_ ht ?_)
  refine wpAny_bind (wpAny_typeOf hTs ?_)
  rw [if_pos (by decide)]
  refine wpAny_bind (HT.sliceApplied_gen hs pl pu ?_)
  rw [hw.1, hw.2]
  have hyes : ((((0 : Nat) : Int) == 0 && (1 : Int) == 1 && (items.size - 0) == items.size) = true) := by simp
  show wpAny _ _ (if (((0 : Nat) : Int) == 0 && (1 : Int) == 1 && (items.size - 0) == items.size) = true then _ else _) _ _ s
  rw [if_pos hyes]
  obtain ⟨o, ho, hc, _⟩ := id ht
  have hTt : s.TypeIs (.ref t) "tuple" := ⟨o, ho, hc⟩
  refine wpAny_bind (show wpAny _ _ (Builtin.Tuple.tupleIsExact (.ref t)) _ _ s from wpAny_bind (wpAny_typeOf hTt (wpAny_pure ?_)))
  rw [if_pos (by decide)]
  first
    | exact wpAny_bind (wpAny_rule (wpAny_pure ⟨_, rfl, wpAny_pure h⟩))
    | exact wpAny_rule (wpAny_pure ⟨_, rfl, wpAny_pure h⟩)
    | exact wpAny_bind (wpAny_rule (wpAny_bind (wpAny_pure (wpAny_pure ⟨_, rfl, wpAny_pure h⟩))))
theorem sliceApplied_rev {prog : Program} {w : World} {A : Around} {E : Value → Shared → Prop} {s : Shared} {sl : Addr} {vl vu vs : Value} {n : Nat} {Q : Int × Int × Nat → Shared → Prop} (hs : s.heap.IsSliceOf sl vl vu vs) (pl : IsPart vl none) (pu : IsPart vu none) (ps : IsPart vs (some (-1)))
    (h : Q ((n : Int) - 1, -1, n) s) : wpAny (model prog w) A (Builtin.Slice.sliceApplied (.ref sl) (pure (n : Int))) Q E s := by
  obtain ⟨os, hos, hcs, hds⟩ := id hs
  unfold Builtin.Slice.sliceApplied Builtin.Slice.sliceFields
  refine wpAny_bind (wpAny_bind (wpAny_field hos hds (x := vl) rfl (wpAny_bind (wpAny_field hos hds (x := vu) rfl (wpAny_bind (wpAny_field hos hds (x := vs) rfl (wpAny_pure ?_)))))))
  refine wpAny_bind (HT.slicePart_ ps ?_)
  show wpAny _ _ (if ((-1 : Int) == 0) = true then _ else _) _ _ s
  rw [if_neg (by decide)]
  refine wpAny_bind (HT.slicePart_ pl (wpAny_bind (HT.slicePart_ pu (wpAny_bind (wpAny_pure ?_)))))
  show wpAny _ _ (match Builtin.Slice.sliceAdjust none none (-1) (n : Int) with | (lo, hi) => pure (lo, (-1 : Int), Builtin.Slice.slicePlaces lo hi (-1))) _ _ s
  have e1 : Builtin.Slice.sliceAdjust none none (-1) (n : Int) = ((n : Int) - 1, -1) := by
    unfold Builtin.Slice.sliceAdjust
    rfl
  have e2 : Builtin.Slice.slicePlaces ((n : Int) - 1) (-1) (-1) = n := by
    unfold Builtin.Slice.slicePlaces
    have h1 : ¬ ((-1 : Int) > 0) := by decide
    simp only [h1, if_false]
    split
    · rw [show (- (-1 : Int)) = 1 by decide, Int.ediv_one]; omega
    · omega
  rw [e1]
  show wpAny _ _ (pure ((n : Int) - 1, (-1 : Int), Builtin.Slice.slicePlaces ((n : Int) - 1) (-1) (-1))) _ _ s
  rw [e2]
  exact wpAny_pure h
theorem getItem_tuple_rev {prog : Program} {w : World} {A : Around} {E : Value → Shared → Prop} {s : Shared} {t sl : Addr} {items : Array Value} {vl vu vs : Value} {Q : Value → Shared → Prop} (ht : IsTup s.heap t items) (hs : s.heap.IsSliceOf sl vl vu vs) (pl : IsPart vl none) (pu : IsPart vu none) (ps : IsPart vs (some (-1)))
    (h : Q (.ref s.heap.objs.size) { s with heap := s.heap.push { cls := .type "tuple", data := .seq items.toList.reverse.toArray } }) (hsz : items.size ≤ sizeLine) : wpAny (model prog w) A (getItem (.ref t) (.ref sl)) Q E s := by
  obtain ⟨os, hos, hcs, hds⟩ := id hs
  have hTs : s.TypeIs (.ref sl) "slice" := ⟨os, hos, hcs⟩
  unfold getItem
  try with_reducible refine wpAny_holding ?_
  first | refine wpAny_bind (wpAny_pure ?_) | skip
  refine wpAny_bind (wpAny_sequenceKey ht.typeIs (by decide) ?_)
  refine wpAny_bind (wpAny_callSpecial?_slot (name := Str.ofString "__getitem__") ht.typeIs PyProof.Rows.slot_tuple_getitem
    (wpAny_call_entry PyProof.Rows.slot_tuple_getitem ht.typeIs entry_tuple_getitem ?_ (args_tuple_getitem _ _)))
  show wpAny _ _ (Builtin.Tuple.tupleItemsOf (.ref t) >>= _) _ _ s
  refine wpAny_bind (tupleItemsOf_ ht ?_)
  refine wpAny_bind (wpAny_typeOf hTs ?_)
  rw [if_pos (by decide)]
  refine wpAny_bind (sliceApplied_rev hs pl pu ps ?_)
  have hno : ¬ ((((items.size : Int) - 1) == 0 && (-1 : Int) == 1 && items.size == items.size) = true) := by simp
  show wpAny _ _ (if (((items.size : Int) - 1) == 0 && (-1 : Int) == 1 && items.size == items.size) = true then _ else _) _ _ s
  rw [if_neg hno]
  have pick : ((List.range items.size).filterMap fun (m : Nat) => items[(((items.size : Int) - 1) + (m : Int) * (-1)).toNat]?).toArray = items.toList.reverse.toArray := by
    have e : ((List.range items.size).filterMap fun (m : Nat) => items[(((items.size : Int) - 1) + (m : Int) * (-1)).toNat]?) = (List.range items.size).filterMap fun (m : Nat) => items[items.size - 1 - m]? := by
      refine fm_congr fun m hm => ?_
      have := List.mem_range.mp hm
      rw [show ((((items.size : Int) - 1) + (m : Int) * (-1)).toNat) = items.size - 1 - m by omega]
    have e2 : ((List.range items.size).filterMap fun (m : Nat) => items[items.size - 1 - m]?) = ((List.range items.size).map fun k => items.size - 1 - k).filterMap (items[·]?) := by
      rw [List.filterMap_map]; rfl
    rw [e, e2, PySem.W.krv_range, List.filterMap_reverse, PySem.W.krv_all]
  rw [pick]
  have htake : sizeOk (.seq items.toList.reverse.toArray) := by
    show items.toList.reverse.toArray.size ≤ sizeLine
    simpa using hsz
  first
    | exact wpAny_bind (m := Builtin.Tuple.tupleExact _) (wpAny_newObj_type (wpAny_pure ⟨_, rfl, wpAny_pure h⟩) htake)
    | exact wpAny_bind (m := Builtin.Tuple.tupleExact _) (wpAny_newObj_type (wpAny_bind (wpAny_pure (wpAny_pure ⟨_, rfl, wpAny_pure h⟩))) htake)
    | exact wpAny_bind (wpAny_bind (m := Builtin.Tuple.tupleExact _) (wpAny_newObj_type (wpAny_pure (wpAny_pure ⟨_, rfl, wpAny_pure h⟩)) htake))
    | exact wpAny_bind (wpAny_bind (m := Builtin.Tuple.tupleExact _) (wpAny_newObj_type (wpAny_pure ⟨_, rfl, wpAny_pure h⟩) htake))
end PS
end
section
set_option maxRecDepth 100000
set_option maxHeartbeats 2000000
namespace PS
open PySem PySem.Spec PyProof.Rows L2
variable {D : Wd} {X : Cx} {C : Ctx} {W : WX} {sx : Sx} {σ : L2.St} {H : Hp} {rho : Rho} {env : Env} {h : AH}

structure ClsOk (D : Wd) (c : Nat) : Prop where
  cl : Cls D.K (D.ca c)
  ha : PySem.W.findIn D.K (.ref (D.ca c)) "__class__" = some (some (.builtin "object.__class__"))
  hn : PySem.W.specialIn D.K (.builtin "object.__class__") "__get__" = some (some (.builtin "getset_descriptor.__get__"))
  htk : PySem.W.takesIn D.K (.builtin "object.__class__") = some true
  hm : PySem.W.mroIn D.K (D.ca c) (.type "object") = some true
  kb : ∀ T ∈ ["NoneType", "bool", "int", "str", "tuple", "list"], PySem.W.kitOne D.K (.type T) (.ref (D.ca c)) = some false
  kc : ∀ T ∈ ["int", "bool", "str", "tuple", "list"], PySem.W.kitOne D.K (.ref (D.ca c)) (.type T) = some false
  nf : ∀ T ∈ ["NoneType", "bool", "int", "str", "tuple", "list"], PySem.W.notFirst D.K (D.ca c) (.type T) = true
  nfc : ∀ d, d < D.nc → PySem.W.notFirst D.K (D.ca c) (.ref (D.ca d)) = true
  kk : ∀ d, d < D.nc → PySem.W.kitOne D.K (.ref (D.ca c)) (.ref (D.ca d)) = some (c == d)
structure Okx (D : Wd) (X : Cx) : Prop where
  K : D.K = X.K
  u : X.A.units + 190 < cLine
  cls : ∀ c, c < D.nc → ClsOk D c
abbrev XP (D : Wd) (X : Cx) (W : WX) (C : Ctx) (e : Expr) (i : IE) : Prop := PE X e (rdE D none W (evE C i))
abbrev XB (D : Wd) (X : Cx) (W : WX) (C : Ctx) (e : Expr) (i : IE) : Prop := PT X e (rdB D none W (evB C i))
abbrev XW (D : Wd) (X : Cx) (W : WX) (C : Ctx) (e : Expr) (i : IE) : Prop := PW X e (rdB D none W (evB C i))
abbrev XL (D : Wd) (X : Cx) (W : WX) (C : Ctx) (es : List Expr) (l : IL) : Prop := PA X es (rdL D none W (evL C l))
def rdO (D : Wd) (W : WX) (f : Env → AH → R (Option Int)) : TO := fun σ H Q => ∃ rho env h, RelE D none H rho σ env ∧ RelH D H rho h ∧ outR D W σ H rho (fun b H' _ _ => Q b H') (f env h)
abbrev XO (D : Wd) (X : Cx) (W : WX) (C : Ctx) (e : Option Expr) (i : IO) : Prop := PO X e (rdO D W (evO C i))

theorem rd_bind {α : Type} {f : R T} {k : T → AH → R α} {Q' : α → Hp → Rho → AH → Prop} {Qn : VK} (a : At D sx σ H rho env h) (q : outR D W σ H rho Q' (f.bind k))
    (g : ∀ t H' rho' h' v, At D sx σ H' rho' env h' → Step H rho H' rho' → Rp D sx H' rho' v t → outR D W σ H' rho' Q' (k t h') → Qn v H') : outE D sx W σ H rho Qn f :=
  outR.mono (fun t H' r' h' s R q => fun v x => g t H' r' h' v (a.step s R) s x q) (outR.bind q)
theorem rd_bindL {α : Type} {f : R (List T)} {k : List T → AH → R α} {Q' : α → Hp → Rho → AH → Prop} {Qn : List V → Hp → Prop} (a : At D sx σ H rho env h) (q : outR D W σ H rho Q' (f.bind k))
    (g : ∀ t H' rho' h' v, At D sx σ H' rho' env h' → Step H rho H' rho' → RpL D sx H' rho' v t → outR D W σ H' rho' Q' (k t h') → Qn v H') : outR D W σ H rho (fun ts H' rho' _ => ∀ vs, RpL D sx H' rho' vs ts → Qn vs H') f :=
  outR.mono (fun t H' r' h' s R q => fun v x => g t H' r' h' v (a.step s R) s x q) (outR.bind q)
theorem rd_bindB {β α : Type} {f : R β} {k : β → AH → R α} {Q' : α → Hp → Rho → AH → Prop} {Qn : β → Hp → Prop} (a : At D sx σ H rho env h) (q : outR D W σ H rho Q' (f.bind k))
    (g : ∀ t H' rho' h', At D sx σ H' rho' env h' → Step H rho H' rho' → outR D W σ H' rho' Q' (k t h') → Qn t H') : outR D W σ H rho (fun b H' _ _ => Qn b H') f :=
  outR.mono (fun t H' r' h' s R q => g t H' r' h' (a.step s R) s q) (outR.bind q)
theorem of_ok {α : Type} {Q : α → Hp → Rho → AH → Prop} {t : α} (a : At D sx σ H rho env h) (q : outR D W σ H rho Q (R.ok t h)) : Q t H rho h := q H rho Step.rfl a.r
theorem of_of {α β : Type} {Q : β → Hp → Rho → AH → Prop} {o : Option α} {k : α → AH → R β} (q : outR D W σ H rho Q ((R.of o h).bind k)) : ∃ x, o = some x ∧ outR D W σ H rho Q (k x h) := by
  cases o with
  | none => exact q.elim
  | some x => exact ⟨x, rfl, q⟩
theorem of_of1 {α : Type} {Q : α → Hp → Rho → AH → Prop} {o : Option α} (q : outR D W σ H rho Q (R.of o h)) : ∃ x, o = some x ∧ outR D W σ H rho Q (R.ok x h) := by
  cases o with
  | none => exact q.elim
  | some x => exact ⟨x, rfl, q⟩

theorem x_var {i : Nat} {x : Str} {pos : Pos} (hN : X.N[i]? = some x) (hv : Vis X.env.scope x) (hd : (x == ("__debug__" : Str)) = false := by decide) (hcd : (x == ("__classdict__" : Str)) = false := by decide) : PE X (.Name x pos) (rdE D sx W (evE C (.var i))) :=
  PE_imp (pe_var hN hv hd hcd) fun σ H Q ⟨rho, env, h, e, r, q⟩ => by
    have q' : outE D sx W σ H rho Q (match env[i]? with | some (some t) => R.ok t h | _ => .stuck) := q
    cases he : env[i]? with
    | none => rw [he] at q'; exact q'.elim
    | some o =>
      cases o with
      | none => rw [he] at q'; exact q'.elim
      | some t =>
        rw [he] at q'
        obtain ⟨v, a, b⟩ := e.2 i t he
        exact ⟨v, a, val_ok r b q'⟩
theorem x_int {i : Int} {j : Nat} {pos : Pos} : PE X (.Constant (.int i) j pos) (rdE D sx W (evE C (.cst (.int i)))) := PE_imp pe_int fun σ H Q ⟨rho, env, h, e, r, q⟩ => val_ok r (.int i) q
theorem x_bl {i : Bool} {j : Nat} {pos : Pos} : PE X (.Constant (.bool i) j pos) (rdE D sx W (evE C (.cst (.bl i)))) := PE_imp pe_bl fun σ H Q ⟨rho, env, h, e, r, q⟩ => val_ok r (.bl i) q
theorem x_non {j : Nat} {pos : Pos} : PE X (.Constant .none j pos) (rdE D sx W (evE C (.cst .non))) := PE_imp pe_non fun σ H Q ⟨rho, env, h, e, r, q⟩ => val_ok r .non q
theorem x_str {i : Str} {j : Nat} {pos : Pos} : PE X (.Constant (.str i) j pos) (rdE D sx W (evE C (.cst (.str i)))) := PE_imp pe_str fun σ H Q ⟨rho, env, h, e, r, q⟩ => val_ok r (.str i) q
theorem x_gint {x : Str} {k : Nat} {i : Int} {u : Value} {pos : Pos} (hg : Gl X x) (hm : X.mg x = some u) (hu : ∃ t, u = .int i t) (hd : (x == ("__debug__" : Str)) = false := by decide) : XP D X W C (.Name x pos) (.glb k (.int i)) :=
  PE_imp (pe_glob (v := .int i) hg hm hu hd) fun σ H Q ⟨rho, env, h, e, r, q⟩ => val_ok r (.int i) q
theorem x_gstr {x : Str} {k : Nat} {i : Str} {u : Value} {pos : Pos} (hg : Gl X x) (hm : X.mg x = some u) (hu : ∃ t, u = .str i t) (hd : (x == ("__debug__" : Str)) = false := by decide) : XP D X W C (.Name x pos) (.glb k (.str i)) :=
  PE_imp (pe_glob (v := .str i) hg hm hu hd) fun σ H Q ⟨rho, env, h, e, r, q⟩ => val_ok r (.str i) q

section
variable {a b c : Expr} {ia ib ic : IE} {pos : Pos}
theorem x_bin (O : Okx D X) {m : Bool} {o : Bo} (ha : XP D X W C a ia) (hb : XP D X W C b ib) : XP D X W C (.BinOp a (opS o) b pos) (.bin m o ia ib) := by
  refine PE_imp (pe_op (r := fun x y H Q => ∃ (W : WX) (σ : L2.St) (rho : Rho) (h : AH) (t t' : T), RelH D H rho h ∧ Rp D none H rho x t ∧ Rp D none H rho y t' ∧ outE D none W σ H rho Q (binT m o t t' h))
    (fun pins s σ H x y v u Q I rx ry ⟨W, σ', rho, h, t, t', R, px, py, q⟩ => bin_ok (m := m) O.K I R rx ry px py q) ha hb) fun σ H Q ⟨rho, env, h, e, r, q⟩ => ?_
  exact ⟨rho, env, h, e, r, rd_bind ⟨e, r⟩ q fun t H' rho' h' v A s p q => ⟨rho', env, h', A.e, A.r, rd_bind A q fun t2 H2 rho2 h2 v2 A2 s2 p2 q2 => ⟨W, σ, rho2, h2, t, t2, A2.r, p.step s2, p2, q2⟩⟩⟩
def rC (D : Wd) (o : Co) : R2 := fun x y H Q => ∃ (rho : Rho) (h : AH) (t t' : T) (k : Bool), RelH D H rho h ∧ Rp D none H rho x t ∧ Rp D none H rho y t' ∧ cmpT o h t t' = some k ∧ Q (.bl k) H
theorem opC_ok (O : Okx D X) (o : Co) : OpR X (compareOp (opC o)) (rC D o) := fun pins s σ H x y v u Q I rx ry ⟨rho, h, t, t', k, R, px, py, e, q⟩ => cmp_ok O.K O.u I R rx ry px py e q
theorem t_cmp {o : Co} {ta tb : TE} (ha : ∀ σ H Q, rdE D none W (evE C ia) σ H Q → ta σ H Q) (hb : ∀ σ H Q, rdE D none W (evE C ib) σ H Q → tb σ H Q) : ∀ σ H Q, rdE D none W (evE C (.cmp o ia ib)) σ H Q → tOp (rC D o) ta tb σ H Q := fun σ H Q ⟨rho, env, h, e, r, q⟩ =>
  ha _ _ _ ⟨rho, env, h, e, r, rd_bind ⟨e, r⟩ q fun t H' rho' h' v A s p q => hb _ _ _ ⟨rho', env, h', A.e, A.r, rd_bind A q fun t2 H2 rho2 h2 v2 A2 s2 p2 q2 => by
    obtain ⟨k, ek, q3⟩ := of_of q2
    exact ⟨rho2, h2, t, t2, k, A2.r, p.step s2, p2, ek, val_ok A2.r (.bl k) q3⟩⟩⟩
theorem x_cmp (O : Okx D X) {o : Co} (ha : XP D X W C a ia) (hb : XP D X W C b ib) (hm : behindInMarks (opC o) b = false) : XP D X W C (.Compare a [opC o] [b] pos) (.cmp o ia ib) :=
  PE_imp (pe_cmpR (opC_ok O o) ha hb hm) (t_cmp (fun _ _ _ q => q) (fun _ _ _ q => q))
theorem isB_cmp {o : Co} : (evE C (.cmp o ia ib) env h).isB = (evE C ia env h).bind fun x h1 => (evE C ib env h1).bind fun y h2 => R.of (cmpT o h2 x y) h2 := by
  show ((evE C ia env h).bind fun x h1 => (evE C ib env h1).bind fun y h2 => (R.of (cmpT o h2 x y) h2).bind fun k h3 => R.ok (.bl k) h3).isB = _
  cases evE C ia env h with
  | ok x h1 =>
    show ((evE C ib env h1).bind fun y h2 => (R.of (cmpT o h2 x y) h2).bind fun k h3 => R.ok (.bl k) h3).isB = (evE C ib env h1).bind fun y h2 => R.of (cmpT o h2 x y) h2
    cases evE C ib env h1 with
    | ok y h2 =>
      show ((R.of (cmpT o h2 x y) h2).bind fun k h3 => R.ok (.bl k) h3).isB = R.of (cmpT o h2 x y) h2
      cases cmpT o h2 x y <;> rfl
    | exc _ _ _ => rfl
    | stuck => rfl
  | exc _ _ _ => rfl
  | stuck => rfl
theorem b_cmp (O : Okx D X) {o : Co} (ha : XP D X W C a ia) (hb : XP D X W C b ib) (hm : behindInMarks (opC o) b = false) : XB D X W C (.Compare a [opC o] [b] pos) (.cmp o ia ib) :=
  PT_imp (pt_cmpR (opC_ok O o) ha hb hm) fun σ H Q hw => by
    obtain ⟨rho, env, h, e, r, q⟩ := hw
    have q' : outR D W σ H rho (fun b H' _ _ => Q b H') ((evE C ia env h).bind fun x h1 => (evE C ib env h1).bind fun y h2 => R.of (cmpT o h2 x y) h2) := by
      rw [← isB_cmp]; exact q
    exact ⟨rho, env, h, e, r, rd_bind ⟨e, r⟩ q' fun t H' rho' h' v A s p q => ⟨rho', env, h', A.e, A.r, rd_bind A q fun t2 H2 rho2 h2 v2 A2 s2 p2 q2 => by
      obtain ⟨k, ek, q3⟩ := of_of1 q2
      exact ⟨rho2, h2, t, t2, k, A2.r, p.step s2, p2, ek, k, rfl, of_ok A2 q3⟩⟩⟩
theorem b_val (O : Okx D X) (ha : XP D X W C a ia) (he : ∀ whole, isTrue a X.env whole = (do let v ← whole; standAt a.pos; holding [v] (truthy v)) := by intro _; rfl) (hi : ∀ env h, evB C ia env h = (evE C ia env h).isB := by intro _ _; rfl) : XB D X W C a ia :=
  PT_imp (pt_truth ha he) fun σ H Q hw => by
    obtain ⟨rho, env, h, e, r, q⟩ := hw
    rw [hi] at q
    refine ⟨rho, env, h, e, r, rd_bind ⟨e, r⟩ q fun t H' rho' h' v A s p q => ?_⟩
    obtain ⟨k, ek, q2⟩ := of_of1 q
    exact ⟨k, O.K ▸ tru_T A.r p ek, of_ok A q2⟩
theorem t_and {f g : Env → AH → R Bool} {ta tb : TT} (ha : ∀ σ H Q, rdB D none W f σ H Q → ta σ H Q) (hb : ∀ σ H Q, rdB D none W g σ H Q → tb σ H Q) : ∀ σ H Q, rdB D none W (fun env h => (f env h).bind fun k h1 => match k with | true => g env h1 | false => .ok false h1) σ H Q → tAnd ta tb σ H Q := fun σ H Q ⟨rho, env, h, e, r, q⟩ =>
  ha _ _ _ ⟨rho, env, h, e, r, rd_bindB ⟨e, r⟩ q fun k H' rho' h' A s q => by
    cases k with
    | true => rw [if_pos rfl]; exact hb _ _ _ ⟨rho', env, h', A.e, A.r, q⟩
    | false => rw [if_neg (by decide)]; exact of_ok A q⟩
theorem t_or {f g : Env → AH → R Bool} {ta tb : TT} (ha : ∀ σ H Q, rdB D none W f σ H Q → ta σ H Q) (hb : ∀ σ H Q, rdB D none W g σ H Q → tb σ H Q) : ∀ σ H Q, rdB D none W (fun env h => (f env h).bind fun k h1 => match k with | true => .ok true h1 | false => g env h1) σ H Q → tOr ta tb σ H Q := fun σ H Q ⟨rho, env, h, e, r, q⟩ =>
  ha _ _ _ ⟨rho, env, h, e, r, rd_bindB ⟨e, r⟩ q fun k H' rho' h' A s q => by
    cases k with
    | true => rw [if_pos rfl]; exact of_ok A q
    | false => rw [if_neg (by decide)]; exact hb _ _ _ ⟨rho', env, h', A.e, A.r, q⟩⟩
theorem PW_imp {e : Expr} {t t' : TT} (p : PW X e t) (i : ∀ σ H Q, t' σ H Q → t σ H Q) : PW X e t' := ⟨fun wh pins s σ H Q I h => p.run wh pins s σ H Q I (i σ H Q h)⟩
variable {rest : List Expr}
theorem w_and1 (hc : XB D X W C c ic) : XW D X W C (.BoolOp .And [c] pos) ic := pw_and1 hc
theorem w_or1 (hc : XB D X W C c ic) : XW D X W C (.BoolOp .Or [c] pos) ic := pw_or1 hc
theorem w_and (ha : XB D X W C a ia) (hb : XW D X W C (.BoolOp .And (b :: rest) pos) ib) : XW D X W C (.BoolOp .And (a :: b :: rest) pos) (.and ia ib) := PW_imp (pw_and ha hb) (t_and (fun _ _ _ q => q) (fun _ _ _ q => q))
theorem w_or (ha : XB D X W C a ia) (hb : XW D X W C (.BoolOp .Or (b :: rest) pos) ib) : XW D X W C (.BoolOp .Or (a :: b :: rest) pos) (.or ia ib) := PW_imp (pw_or ha hb) (t_or (fun _ _ _ q => q) (fun _ _ _ q => q))
theorem b_not (ha : XB D X W C a ia) : XB D X W C (.UnaryOp .Not a pos) (.not ia) := PT_imp (pt_not ha) fun σ H Q ⟨rho, env, h, e, r, q⟩ => ⟨rho, env, h, e, r, rd_bindB ⟨e, r⟩ q fun k H' rho' h' A s q => of_ok A q⟩
theorem x_and1 (hc : XP D X W C c ic) {o : BoolOp} : XP D X W C (.BoolOp o [c] pos) ic := pe_one hc
theorem x_and (O : Okx D X) (ha : XP D X W C a ia) (hb : XP D X W C (.BoolOp .And (b :: rest) pos) ib) : XP D X W C (.BoolOp .And (a :: b :: rest) pos) (.and ia ib) :=
  PE_imp (pe_andT ha hb) fun σ H Q ⟨rho, env, h, e, r, q⟩ => ⟨rho, env, h, e, r, rd_bind ⟨e, r⟩ q fun t H' rho' h' v A s p q => by
    obtain ⟨k, ek, q2⟩ := of_of q
    refine ⟨k, O.K ▸ tru_T A.r p ek, ?_⟩
    cases k with
    | true => rw [if_pos rfl]; exact ⟨rho', env, h', A.e, A.r, q2⟩
    | false => rw [if_neg (by decide)]; exact val_ok A.r p q2⟩
theorem x_or (O : Okx D X) (ha : XP D X W C a ia) (hb : XP D X W C (.BoolOp .Or (b :: rest) pos) ib) : XP D X W C (.BoolOp .Or (a :: b :: rest) pos) (.or ia ib) :=
  PE_imp (pe_orT ha hb) fun σ H Q ⟨rho, env, h, e, r, q⟩ => ⟨rho, env, h, e, r, rd_bind ⟨e, r⟩ q fun t H' rho' h' v A s p q => by
    obtain ⟨k, ek, q2⟩ := of_of q
    refine ⟨k, O.K ▸ tru_T A.r p ek, ?_⟩
    cases k with
    | true => rw [if_pos rfl]; exact val_ok A.r p q2
    | false => rw [if_neg (by decide)]; exact ⟨rho', env, h', A.e, A.r, q2⟩⟩
theorem bind_assoc' {α β γ : Type} (x : R α) (f : α → AH → R β) (g : β → AH → R γ) : (x.bind f).bind g = x.bind fun a h => (f a h).bind g := by cases x <;> rfl
theorem x_not (O : Okx D X) (ha : XP D X W C a ia) : XP D X W C (.UnaryOp .Not a pos) (.not ia) :=
  PE_imp (pe_notT ha) fun σ H Q ⟨rho, env, h, e, r, q⟩ => by
    have q' : outE D none W σ H rho Q (((evE C ia env h).bind fun t h => R.of (truT h t) h).bind fun b h1 => R.ok (.bl (!b)) h1) := q
    unfold outE at q'
    rw [bind_assoc'] at q'
    exact ⟨rho, env, h, e, r, rd_bind ⟨e, r⟩ q' fun t H' rho' h' v A s p q => by
      obtain ⟨k, ek, q2⟩ := of_of q
      exact ⟨k, O.K ▸ tru_T A.r p ek, val_ok A.r (.bl _) q2⟩⟩
theorem x_neg (ha : XP D X W C a ia) : XP D X W C (.UnaryOp .USub a pos) (.neg ia) :=
  PE_imp (pe_un un_neg ha) fun σ H Q ⟨rho, env, h, e, r, q⟩ => ⟨rho, env, h, e, r, rd_bind ⟨e, r⟩ q fun t H' rho' h' v A s p q => by
    cases t with
    | int i => cases p; exact ⟨i, rfl, val_ok A.r (.int _) q⟩
    | _ => exact q.elim⟩
theorem x_ite (hc : XB D X W C c ic) (ha : XP D X W C a ia) (hb : XP D X W C b ib) (hi : ∀ env h, evB C ic env h = (evE C ic env h).isB) : XP D X W C (.IfExp c a b pos) (.ite ic ia ib) :=
  PE_imp (pe_ifExp hc ha hb) fun σ H Q ⟨rho, env, h, e, r, q⟩ => by
    have q' : outE D none W σ H rho Q ((evB C ic env h).bind fun k h1 => match k with | true => evE C ia env h1 | false => evE C ib env h1) := by rw [hi]; exact q
    exact ⟨rho, env, h, e, r, rd_bindB ⟨e, r⟩ q' fun k H' rho' h' A s q => by
      cases k with
      | true => rw [if_pos rfl]; exact ⟨rho', env, h', A.e, A.r, q⟩
      | false => rw [if_neg (by decide)]; exact ⟨rho', env, h', A.e, A.r, q⟩⟩
theorem x_chain (O : Okx D X) {o o' : Co} (ha : XP D X W C a ia) (hb : XP D X W C b ib) (hc : XP D X W C c ic) (hm : lastMarks [opC o, opC o'] [b, c] = false) : XP D X W C (.Compare a [opC o, opC o'] [b, c] pos) (.chain o ia ib o' ic) :=
  PE_imp (pe_chain (opC_ok O o) (opC_ok O o') ha hb hc hm) fun σ H Q ⟨rho, env, h, e, r, q⟩ => ⟨rho, env, h, e, r, rd_bind ⟨e, r⟩ q fun t H' rho' h' v A s p q => ⟨rho', env, h', A.e, A.r, rd_bind A q fun t2 H2 rho2 h2 v2 A2 s2 p2 q2 => by
    obtain ⟨k, ek, q3⟩ := of_of q2
    refine ⟨rho2, h2, t, t2, k, A2.r, p.step s2, p2, ek, k, rfl, ?_⟩
    cases k with
    | false => rw [if_neg (by decide)]; exact val_ok A2.r (.bl _) q3
    | true =>
      rw [if_pos rfl]
      exact ⟨rho2, env, h2, A2.e, A2.r, rd_bind A2 q3 fun t3 H3 rho3 h3 v3 A3 s3 p3 q3 => by
        obtain ⟨k2, ek2, q4⟩ := of_of q3
        exact ⟨rho3, h3, t2, t3, k2, A3.r, p2.step s3, p3, ek2, val_ok A3.r (.bl k2) q4⟩⟩⟩⟩
theorem b_chain (O : Okx D X) {o o' : Co} (ha : XP D X W C a ia) (hb : XP D X W C b ib) (hc : XP D X W C c ic) (hm : lastMarks [opC o, opC o'] [b, c] = false) : XB D X W C (.Compare a [opC o, opC o'] [b, c] pos) (.chain o ia ib o' ic) :=
  PT_imp (pt_chain (opC_ok O o) (opC_ok O o') ha hb hc hm) fun σ H Q ⟨rho, env, h, e, r, q⟩ => by
    have q' : outR D W σ H rho (fun b H' _ _ => Q b H') (((evE C ia env h).bind fun x h1 => (evE C ib env h1).bind fun y h2 => (R.of (cmpT o h2 x y) h2).bind fun k h3 => match k with
      | true => (evE C ic env h3).bind fun z h4 => (R.of (cmpT o' h4 y z) h4).bind fun k2 h5 => R.ok (.bl k2) h5
      | false => R.ok (.bl false) h3).bind fun t h => R.of (truT h t) h) := q
    rw [bind_assoc'] at q'
    refine ⟨rho, env, h, e, r, rd_bind ⟨e, r⟩ q' fun t H' rho' h' v A s p q => ?_⟩
    rw [bind_assoc'] at q
    refine ⟨rho', env, h', A.e, A.r, rd_bind A q fun t2 H2 rho2 h2 v2 A2 s2 p2 q2 => ?_⟩
    rw [bind_assoc'] at q2
    obtain ⟨k, ek, q3⟩ := of_of q2
    refine ⟨rho2, h2, t, t2, k, A2.r, p.step s2, p2, ek, k, rfl, ?_⟩
    cases k with
    | false => rw [if_neg (by decide)]; exact ⟨false, rfl, of_ok A2 (h := h2) (D := D) (sx := none) q3⟩
    | true =>
      rw [if_pos rfl]
      dsimp only at q3
      rw [bind_assoc'] at q3
      exact ⟨rho2, env, h2, A2.e, A2.r, rd_bind A2 q3 fun t3 H3 rho3 h3 v3 A3 s3 p3 q3 => by
        rw [bind_assoc'] at q3
        obtain ⟨k2, ek2, q4⟩ := of_of q3
        exact ⟨rho3, h3, t2, t3, k2, A3.r, p2.step s3, p3, ek2, k2, rfl, of_ok A3 (h := h3) (D := D) (sx := none) q4⟩⟩

variable {es : List Expr} {l : IL}
theorem x_nil : PA X [] (rdL D sx W (evL C .nil)) := PA_imp pa_nil fun σ H Q ⟨rho, env, h, e, r, q⟩ => q H rho Step.rfl r _ .nil
theorem x_cons (ha : PE X a (rdE D sx W (evE C ia))) (hr : PA X es (rdL D sx W (evL C l))) (hs : starEach (a :: es) X.env = (false, eval a X.env) :: starEach es X.env := by rfl) : PA X (a :: es) (rdL D sx W (evL C (.cons ia l))) :=
  PA_imp (pa_cons ha hr hs) fun σ H Q ⟨rho, env, h, e, r, q⟩ => ⟨rho, env, h, e, r, rd_bind ⟨e, r⟩ q fun t H' rho' h' v A s p q => ⟨rho', env, h', A.e, A.r, rd_bindL A q fun ts H2 rho2 h2 vs A2 s2 p2 q2 => of_ok A2 q2 _ (.cons (p.step s2) p2)⟩⟩
theorem x_star (O : Okx D X) {p0 : Pos} (ha : XP D X W C a ia) (hr : XL D X W C es l) (hs : starEach (.Starred a p0 :: es) X.env = (true, eval a X.env) :: starEach es X.env := by rfl) : XL D X W C (.Starred a p0 :: es) (.star ia l) :=
  PA_imp (StX.pa_star ha hr hs) fun σ H Q ⟨rho, env, h, e, r, q⟩ => ⟨rho, env, h, e, r, rd_bind ⟨e, r⟩ q fun t H' rho' h' v A s p q => by
    cases hq : seqV h' t with
    | none => rw [hq] at q; exact q.elim
    | some ys =>
      rw [hq] at q
      obtain ⟨x, vs, rfl, hv, lv⟩ := view_seq A.r p hq
      refine ⟨x, vs, rfl, O.K ▸ Or.symm hv, rho', env, h', A.e, A.r, rd_bindL A q fun ts H2 rho2 h2 ws A2 s2 p2 q2 => of_ok A2 q2 _ ((lv.step s2).append p2)⟩⟩
theorem x_tup {k : Nat} (hr : PA X es (rdL D sx W (evL C l))) : PE X (.Tuple es k pos) (rdE D sx W (evE C (.tup l))) :=
  PE_imp (pe_tup hr) fun σ H Q ⟨rho, env, h, e, r, q⟩ => ⟨rho, env, h, e, r, rd_bindL ⟨e, r⟩ q fun ts H' rho' h' vs A s p q => by
    have q' : outE D sx W σ H' rho' Q (if ts.length ≤ sizeLine then R.ok (.tup ts) h' else .stuck) := q
    by_cases c : ts.length ≤ sizeLine
    · rw [if_pos c] at q'
      exact ⟨by rw [p.length]; exact c, fun x n => tup_ok A.r p q' n⟩
    · rw [if_neg c] at q'; exact q'.elim⟩
theorem x_lst {m : Bool} (hr : XL D X W C es l) : XP D X W C (.List es pos) (.lst m l) :=
  PE_imp (PE_frz (pe_lst hr)) fun σ H Q ⟨rho, env, h, e, r, q⟩ => ⟨rho, env, h, e, r, rd_bindL ⟨e, r⟩ q fun ts H' rho' h' vs A s p q => fresh_ok (m := m) A.r p q⟩

theorem x_idx (O : Okx D X) (ha : XP D X W C a ia) (hb : XP D X W C b ib) (hs : PlainIx b := by intro _ _; rfl) : XP D X W C (.Subscript a b pos) (.idx ia ib) :=
  PE_imp (pe_ix (r := fun x y H Q => ∃ (rho : Rho) (h : AH) (t t' r : T), RelH D H rho h ∧ Rp D none H rho x t ∧ Rp D none H rho y t' ∧ idxT h t t' = some r ∧ ∀ w, Rp D none H rho w r → Q w H)
    (fun value slice pins s σ H x y v u Q I rx ry ⟨rho, h, t, t', r, R, px, py, e, q⟩ hs => idx_ok O.K O.u I R rx ry px py e q hs) ha hb hs) fun σ H Q ⟨rho, env, h, e, r, q⟩ =>
    ⟨rho, env, h, e, r, rd_bind ⟨e, r⟩ q fun t H' rho' h' v A s p q => ⟨rho', env, h', A.e, A.r, rd_bind A q fun t2 H2 rho2 h2 v2 A2 s2 p2 q2 => by
      obtain ⟨k, ek, q3⟩ := of_of1 q2
      exact ⟨rho2, h2, t, t2, k, A2.r, p.step s2, p2, ek, of_ok A2 q3⟩⟩⟩
end
end PS
end
section
set_option maxRecDepth 100000
set_option maxHeartbeats 2000000
namespace PS
open PySem PySem.Spec PyProof.Rows L2
variable {D : Wd} {X : Cx} {C : Ctx} {W : WX} {sx : Sx} {σ σ2 : L2.St} {H : Hp} {rho : Rho} {env : Env} {h : AH} {pins : List (Addr × Obj)} {s : Shared}

theorem ep_frz {u : Value} {s : Shared} {Q : VK} {m : Sem Value} {M : Model} {A : Around} {E : Value → Shared → Prop} (hw : wpAny M A m (EP X pins σ (FrzQ Q)) E s) : wpAny M A m (EP X pins σ Q) E s := thn hw fun _ _ q => EP_frz q
def rSlc (D : Wd) (m : Bool) : V → Option Int → Option Int → Hp → VK → Prop := fun x lo hi H Q => ∃ (W : WX) (σ : L2.St) (rho : Rho) (h : AH) (t : T), RelH D H rho h ∧ Rp D none H rho x t ∧ outE D none W σ H rho Q (slcT m t lo hi h)
theorem slc_ok (O : Okx D X) (m : Bool) : SlR X (rSlc D m) := by
  intro pins s σ H x v vl vu lo hi sl Q I rx hs pl pu ⟨W, σ2, rho, h, t, R, px, q⟩
  unfold slcT at q
  cases es : snap h t with
  | tup xs =>
    rw [es] at q
    have et := snap_of_tup es
    subst et
    dsimp only at q
    cases px with
    | @tup a vs _ hq l =>
      by_cases hw : HT.sIx vs.length 0 lo = 0 ∧ HT.sIx vs.length vs.length hi = vs.length
      · cases rx
        obtain ⟨its, r, ht, hz⟩ := I.tuple (SqT.of hq)
        have hlen : its.toArray.size = vs.length := by rw [List.size_toArray]; exact r.length.symm
        refine ⟨"tuple", _, PyProof.Rows.slot_tuple_getitem.lookup, ht.typeIs, getItem_tuple_whole ht hs pl pu (by rw [hlen]; exact hw) ⟨.ref a, H, I, rfl, ?_⟩⟩
        have e : cutL xs lo hi = xs := by
          unfold cutL
          rw [← l.length, hw.1, hw.2]
          simp [l.length]
        rw [e] at q
        exact val_ok R (.tup hq l) q
      · exact sl_tup pins s σ H (.ref a) v vl vu lo hi sl Q I rx hs pl pu ⟨a, vs, rfl, SqT.of hq, hw, fun p n => tup_ok R (l.cut lo hi) q n⟩
  | lst xs =>
    rw [es] at q
    dsimp only at q
    obtain ⟨a, vs, rfl, ha, l⟩ := view_list R px (list_of_snap es)
    obtain ⟨T, id, h1, h2, h3⟩ := sl_list pins s σ H (.ref a) v vl vu lo hi sl (FrzQ Q) I rx hs pl pu ⟨a, vs, rfl, O.K ▸ ha, (fresh_ok R (l.cut lo hi) q).2⟩
    exact ⟨T, id, h1, h2, ep_frz (u := v) (s := s) h3⟩
  | str a =>
    rw [es] at q
    have et := snap_of_str es
    subst et
    dsimp only at q
    cases px
    by_cases c : a.length ≤ sizeLine
    · rw [if_pos c] at q
      exact sl_str pins s σ H (.str a) v vl vu lo hi sl Q I rx hs pl pu ⟨a, rfl, c, val_ok R (.str _) q⟩
    · rw [if_neg c] at q; exact q.elim
  | _ => rw [es] at q; exact q.elim
section
variable {a b c : Expr} {ia ib ic : IE} {pos : Pos}
theorem o_none : XO D X W C none .none := by
  refine ⟨fun pins s σ H Q I ⟨rho, env, h, e, r, q⟩ => po_none.run pins s σ H Q I (q H rho Step.rfl r)⟩
theorem o_some (ha : XP D X W C a ia) : XO D X W C (some a) (.some ia) := by
  refine ⟨fun pins s σ H Q I ⟨rho, env, h, e, r, q⟩ => (po_some ha).run pins s σ H Q I ⟨rho, env, h, e, r, rd_bind ⟨e, r⟩ q fun t H' rho' h' v A s p q => ?_⟩⟩
  cases t with
  | int i => cases p; exact ⟨i, rfl, of_ok A q⟩
  | _ => exact q.elim
theorem x_slc (O : Okx D X) {m : Bool} {lo hi : Option Expr} {il ih : IO} {p2 : Pos} (ha : XP D X W C a ia) (hl : XO D X W C lo il) (hh : XO D X W C hi ih) : XP D X W C (.Subscript a (.Slice lo hi none p2) pos) (.slc m ia il ih) :=
  PE_imp (pe_slice (slc_ok O m) ha hl hh) fun σ H Q ⟨rho, env, h, e, r, q⟩ => ⟨rho, env, h, e, r, rd_bind ⟨e, r⟩ q fun t H' rho' h' v A s p q => ⟨rho', env, h', A.e, A.r, rd_bindB A q fun l H2 rho2 h2 A2 s2 q2 =>
    ⟨rho2, env, h2, A2.e, A2.r, rd_bindB A2 q2 fun u H3 rho3 h3 A3 s3 q3 => ⟨W, σ, rho3, h3, t, A3.r, (p.step s2).step s3, q3⟩⟩⟩⟩
end

def rBf (D : Wd) (m : Bool) (f : Bf) : List V → Hp → VK → Prop := fun vs H Q => ∃ (W : WX) (σ : L2.St) (rho : Rho) (h : AH) (ts : List T), RelH D H rho h ∧ RpL D none H rho vs ts ∧ outE D none W σ H rho Q (bfT m f ts h)
theorem rpl1 {vs : List V} {t : T} (l : RpL D sx H rho vs [t]) : ∃ v, vs = [v] ∧ Rp D sx H rho v t := by
  cases l with
  | cons p l => cases l; exact ⟨_, rfl, p⟩
theorem rpl2 {vs : List V} {t u : T} (l : RpL D sx H rho vs [t, u]) : ∃ v w, vs = [v, w] ∧ Rp D sx H rho v t ∧ Rp D sx H rho w u := by
  cases l with
  | cons p l =>
    cases l with
    | cons p2 l => cases l; exact ⟨_, _, rfl, p, p2⟩
theorem bf_len (O : Okx D X) {m : Bool} : CallR X (.builtin "len") (rBf D m .len) := by
  intro pins s σ H xs us Q I r ⟨W, σ2, rho, h, ts, R, l, q⟩
  match ts, l, q with
  | [t], l, q =>
    obtain ⟨v, rfl, p⟩ := rpl1 l
    have q' : outE D none W σ2 H rho Q (match lenT h t with | some n => .ok (.int n) h | none => .stuck) := q
    cases e : lenT h t with
    | none => rw [e] at q'; exact q'.elim
    | some n =>
      rw [e] at q'
      have q2 := val_ok R (.int n) q'
      unfold lenT at e
      cases es : snap h t with
      | tup ys =>
        rw [es] at e
        have et := snap_of_tup es
        subst et
        cases e
        cases p with
        | tup hq l2 =>
          exact call_len_seq pins s σ H _ us Q I r ⟨_, _, rfl, .inr (SqT.of hq), by rw [l2.length]; exact q2⟩
      | lst ys =>
        rw [es] at e
        cases e
        obtain ⟨a, vs, rfl, ha, l2⟩ := view_list R p (list_of_snap es)
        exact call_len_seq pins s σ H _ us Q I r ⟨_, _, rfl, .inl (O.K ▸ ha), by rw [l2.length]; exact q2⟩
      | str z =>
        rw [es] at e
        have et := snap_of_str es
        subst et
        cases p
        dsimp only at e
        split at e
        · rename_i c
          cases e
          exact call_len_str pins s σ H _ us Q I r ⟨z, rfl, c, q2⟩
        · cases e
      | _ => rw [es] at e; cases e
  | [], _, q => exact q.elim
  | _ :: _ :: _, _, q => exact q.elim
theorem bf_abs {m : Bool} : CallR X (.builtin "abs") (rBf D m .abs) := by
  intro pins s σ H xs us Q I r ⟨W, σ2, rho, h, ts, R, l, q⟩
  match ts, l, q with
  | [.int i], l, q =>
    obtain ⟨v, rfl, p⟩ := rpl1 l
    cases p
    exact call_abs pins s σ H _ us Q I r ⟨i, rfl, val_ok R (.int _) q⟩
  | [.non], _, q => exact q.elim
  | [.bl _], _, q => exact q.elim
  | [.str _], _, q => exact q.elim
  | [.tup _], _, q => exact q.elim
  | [.lst _], _, q => exact q.elim
  | [.dct _ _ _], _, q => exact q.elim
  | [.ref _], _, q => exact q.elim
  | [.clo _ _], _, q => exact q.elim
  | [.exn _ _], _, q => exact q.elim
  | [], _, q => exact q.elim
  | t :: _ :: _, _, q => cases t <;> exact q.elim
theorem bf_int {m : Bool} : CallR X (.type "int") (rBf D m .int) := by
  intro pins s σ H xs us Q I r ⟨W, σ2, rho, h, ts, R, l, q⟩
  match ts, l, q with
  | [.int i], l, q =>
    obtain ⟨v, rfl, p⟩ := rpl1 l
    cases p
    exact call_int1 pins s σ H _ us Q I r (.inl ⟨i, rfl, val_ok R (.int _) q⟩)
  | [.bl i], l, q =>
    obtain ⟨v, rfl, p⟩ := rpl1 l
    cases p
    exact call_int1 pins s σ H _ us Q I r (.inr ⟨i, rfl, val_ok R (.int _) q⟩)
  | [.non], _, q => exact q.elim
  | [.str _], _, q => exact q.elim
  | [.tup _], _, q => exact q.elim
  | [.lst _], _, q => exact q.elim
  | [.dct _ _ _], _, q => exact q.elim
  | [.ref _], _, q => exact q.elim
  | [.clo _ _], _, q => exact q.elim
  | [.exn _ _], _, q => exact q.elim
  | [], _, q => exact q.elim
  | t :: _ :: _, _, q => cases t <;> exact q.elim
theorem bf_str {m : Bool} : CallR X (.type "str") (rBf D m .str) := by
  intro pins s σ H xs us Q I r ⟨W, σ2, rho, h, ts, R, l, q⟩
  match ts, l, q with
  | [.int i], l, q =>
    obtain ⟨v, rfl, p⟩ := rpl1 l
    cases p
    have q' : outE D none W σ2 H rho Q (match strT (.int i) with | some x => .ok (.str x) h | none => .stuck) := q
    unfold strT at q'
    dsimp only at q'
    by_cases c : i.natAbs.log2 < 1920
    · rw [if_pos c] at q'
      exact call_str_int pins s σ H _ us Q I r ⟨i, rfl, c, val_ok R (.str _) q'⟩
    · rw [if_neg c] at q'; exact q'.elim
  | [.non], _, q => exact q.elim
  | [.bl _], _, q => exact q.elim
  | [.str _], _, q => exact q.elim
  | [.tup _], _, q => exact q.elim
  | [.lst _], _, q => exact q.elim
  | [.dct _ _ _], _, q => exact q.elim
  | [.ref _], _, q => exact q.elim
  | [.clo _ _], _, q => exact q.elim
  | [.exn _ _], _, q => exact q.elim
  | [], _, q => exact q.elim
  | t :: _ :: _, _, q => cases t <;> exact q.elim
theorem bf_list (O : Okx D X) {m : Bool} : CallR X (.type "list") (rBf D m .list) := by
  intro pins s σ H xs us Q I r ⟨W, σ2, rho, h, ts, R, l, q⟩
  match ts, l, q with
  | [t], l, q =>
    obtain ⟨v, rfl, p⟩ := rpl1 l
    have q' : outE D none W σ2 H rho Q (match seqV h t with
        | some ys => fresh m ys h
        | none => .stuck) := q
    cases e : seqV h t with
    | none => rw [e] at q'; exact q'.elim
    | some ys =>
      rw [e] at q'
      obtain ⟨a, vs, rfl, hv, lv⟩ := view_seq R p e
      exact ep_frz (u := .none) (s := s) (call_list_of pins s σ H _ us (FrzQ Q) I r ⟨a, vs, rfl, O.K ▸ hv, (fresh_ok R lv q').2⟩)
  | [], _, q => exact q.elim
  | _ :: _ :: _, _, q => exact q.elim
theorem bf_tuple (O : Okx D X) {m : Bool} : CallR X (.type "tuple") (rBf D m .tuple) := by
  intro pins s σ H xs us Q I r ⟨W, σ2, rho, h, ts, R, l, q⟩
  match ts, l, q with
  | [t], l, q =>
    obtain ⟨v, rfl, p⟩ := rpl1 l
    have q' : outE D none W σ2 H rho Q (match seqV h t with
        | some ys => .ok (.tup ys) h
        | none => .stuck) := q
    cases e : seqV h t with
    | none => rw [e] at q'; exact q'.elim
    | some ys =>
      rw [e] at q'
      unfold seqV at e
      cases es : snap h t with
      | tup zs =>
        have et := snap_of_tup es
        subst et
        rw [es] at e
        cases e
        cases p with
        | tup hq l2 => exact call_tuple_of pins s σ H _ us Q I r ⟨_, _, rfl, .inr ⟨SqT.of hq, val_ok R (.tup hq l2) q'⟩⟩
      | lst zs =>
        rw [es] at e
        cases e
        obtain ⟨a, vs, rfl, ha, l2⟩ := view_list R p (list_of_snap es)
        exact call_tuple_of pins s σ H _ us Q I r ⟨_, _, rfl, .inl ⟨O.K ▸ ha, fun x n => tup_ok R l2 q' n⟩⟩
      | _ => rw [es] at e; cases e
  | [], _, q => exact q.elim
  | _ :: _ :: _, _, q => exact q.elim
theorem intsT_rp : ∀ {ys : List T} {ns : List Int} {vs : List V}, intsT ys = some ns → RpL D sx H rho vs ys → vs = ns.map V.int
  | [], _, _, e, .nil => by cases e; rfl
  | .int i :: r, _, _, e, .cons p l => by
    unfold intsT at e
    cases hr : intsT r with
    | none => rw [hr] at e; cases e
    | some ms => rw [hr] at e; cases e; cases p; rw [intsT_rp hr l]; rfl
theorem blsT_rp : ∀ {ys : List T} {ns : List Bool} {vs : List V}, blsT ys = some ns → RpL D sx H rho vs ys → vs = ns.map V.bl
  | [], _, _, e, .nil => by cases e; rfl
  | .bl i :: r, _, _, e, .cons p l => by
    unfold blsT at e
    cases hr : blsT r with
    | none => rw [hr] at e; cases e
    | some ms => rw [hr] at e; cases e; cases p; rw [blsT_rp hr l]; rfl
theorem bf_all (O : Okx D X) (hc : X.calm = true) {m : Bool} : CallR X (.builtin "all") (rBf D m .all) := by
  intro pins s σ H xs us Q I r ⟨W, σ2, rho, h, ts, R, l, q⟩
  match ts, l, q with
  | [t], l, q =>
    obtain ⟨v, rfl, p⟩ := rpl1 l
    have q' : outE D none W σ2 H rho Q (match isList h t with
      | some ys => match blsT ys with
        | some bs => .ok (.bl (bs.all id)) h
        | none => .stuck
      | none => .stuck) := q
    cases e : isList h t with
    | none => rw [e] at q'; exact q'.elim
    | some ys =>
      rw [e] at q'
      dsimp only at q'
      cases e2 : blsT ys with
      | none => rw [e2] at q'; exact q'.elim
      | some bs =>
        rw [e2] at q'
        obtain ⟨a, vs, rfl, ha, l2⟩ := view_list R p e
        rw [blsT_rp e2 l2] at ha
        exact cr_all hc pins s σ H _ us Q I r ⟨a, bs, rfl, O.K ▸ ha, val_ok R (.bl _) q'⟩
  | [], _, q => exact q.elim
  | _ :: _ :: _, _, q => exact q.elim
theorem bf_any (O : Okx D X) (hc : X.calm = true) {m : Bool} : CallR X (.builtin "any") (rBf D m .any) := by
  intro pins s σ H xs us Q I r ⟨W, σ2, rho, h, ts, R, l, q⟩
  match ts, l, q with
  | [t], l, q =>
    obtain ⟨v, rfl, p⟩ := rpl1 l
    have q' : outE D none W σ2 H rho Q (match isList h t with
      | some ys => match blsT ys with
        | some bs => .ok (.bl (bs.any id)) h
        | none => .stuck
      | none => .stuck) := q
    cases e : isList h t with
    | none => rw [e] at q'; exact q'.elim
    | some ys =>
      rw [e] at q'
      dsimp only at q'
      cases e2 : blsT ys with
      | none => rw [e2] at q'; exact q'.elim
      | some bs =>
        rw [e2] at q'
        obtain ⟨a, vs, rfl, ha, l2⟩ := view_list R p e
        rw [blsT_rp e2 l2] at ha
        exact cr_any hc pins s σ H _ us Q I r ⟨a, bs, rfl, O.K ▸ ha, val_ok R (.bl _) q'⟩
  | [], _, q => exact q.elim
  | _ :: _ :: _, _, q => exact q.elim
theorem bf_sum (O : Okx D X) (hc : X.calm = true) {m : Bool} : CallR X (.builtin "sum") (rBf D m .sum) := by
  intro pins s σ H xs us Q I r ⟨W, σ2, rho, h, ts, R, l, q⟩
  match ts, l, q with
  | [t], l, q =>
    obtain ⟨v, rfl, p⟩ := rpl1 l
    have q' : outE D none W σ2 H rho Q (match isList h t with
      | some ys => match intsT ys with
        | some bs => .ok (.int bs.sum) h
        | none => .stuck
      | none => .stuck) := q
    cases e : isList h t with
    | none => rw [e] at q'; exact q'.elim
    | some ys =>
      rw [e] at q'
      dsimp only at q'
      cases e2 : intsT ys with
      | none => rw [e2] at q'; exact q'.elim
      | some bs =>
        rw [e2] at q'
        obtain ⟨a, vs, rfl, ha, l2⟩ := view_list R p e
        rw [intsT_rp e2 l2] at ha
        exact cr_sum hc pins s σ H _ us Q I r ⟨a, bs, rfl, O.K ▸ ha, val_ok R (.int _) q'⟩
  | [], _, q => exact q.elim
  | _ :: _ :: _, _, q => exact q.elim
section
variable {a : Expr} {es : List Expr} {l : IL} {x : Str} {p pos : Pos} {id T : String}
theorem x_bf {m : Bool} {f : Bf} (hc : CallR X (.builtin id) (rBf D m f)) (hg : Gl X x) (hm : X.mg x = none) (hv : bootBuiltins x = some (.builtin id)) (ha : XL D X W C (a :: es) l) (hn : x ≠ "__name__" := by decide) (hdb : (x == ("__debug__" : Str)) = false := by decide)
    (he : starEach (a :: es) X.env = (false, eval a X.env) :: starEach es X.env := by rfl) (hpl : (backTo pos (starEach es X.env)).any (·.1) = false := by rfl) : XP D X W C (.Call (.Name x p) (a :: es) [] pos) (.bf m f l) :=
  PE_imp (pe_callB hc hg hm hv ha hn hdb he hpl) fun σ H Q ⟨rho, env, h, e, r, q⟩ => ⟨rho, env, h, e, r, rd_bindL ⟨e, r⟩ q fun ts H' rho' h' vs A s p q => ⟨W, σ, rho', h', ts, A.r, p, q⟩⟩
theorem x_bfT {m : Bool} {f : Bf} (hc : CallR X (.type T) (rBf D m f)) (hg : Gl X x) (hm : X.mg x = none) (hv : bootBuiltins x = some (.type T)) (ha : XL D X W C (a :: es) l) (hn : x ≠ "__name__" := by decide) (hdb : (x == ("__debug__" : Str)) = false := by decide)
    (he : starEach (a :: es) X.env = (false, eval a X.env) :: starEach es X.env := by rfl) (hpl : (backTo pos (starEach es X.env)).any (·.1) = false := by rfl) : XP D X W C (.Call (.Name x p) (a :: es) [] pos) (.bf m f l) :=
  PE_imp (pe_callTy hc hg hm hv ha hn hdb he hpl) fun σ H Q ⟨rho, env, h, e, r, q⟩ => ⟨rho, env, h, e, r, rd_bindL ⟨e, r⟩ q fun ts H' rho' h' vs A s p q => ⟨W, σ, rho', h', ts, A.r, p, q⟩⟩
end
end PS
end
section
set_option maxRecDepth 100000
set_option maxHeartbeats 2000000
namespace PS
open PySem PySem.Spec PyProof.Rows L2
variable {D : Wd} {X : Cx} {C : Ctx} {W : WX} {sx : Sx} {σ σ2 : L2.St} {H : Hp} {rho : Rho} {env : Env} {h : AH} {pins : List (Addr × Obj)} {s : Shared}

def rBm (D : Wd) (m : Bool) (f : Bm) : V → List V → Hp → VK → Prop := fun x vs H Q => ∃ (W : WX) (σ : L2.St) (rho : Rho) (h : AH) (t : T) (ts : List T), RelH D H rho h ∧ Rp D none H rho x t ∧ RpL D none H rho vs ts ∧ outE D none W σ H rho Q (bmT m f t ts h)
theorem put_lst {Q : VK} {n : Nat} {a : Addr} {u : HO} {vs : List V} {ts : List T} {v : V} {t : T} (R : RelH D H rho h) (r : rho[n]? = some a) (hH : H a = some u) (su : stays u = false) (l : RpL D none H rho vs ts) (p : Rp D none H rho v t)
    (q : outE D none W σ2 H rho Q (.ok t (h.set n (.lst ts)))) : Q v (upd H a (.lst vs)) :=
  q _ rho (Step.set r hH su) (R.put r hH su ⟨vs, upd_same, l.step (Step.set r hH su)⟩) v (p.step (Step.set r hH su))
theorem cell_lst {x : V} {t : T} {n : Nat} {ts : List T} (R : RelH D H rho h) (px : Rp D none H rho x (.ref n)) (hn : h[n]? = some (.lst ts)) : ∃ a vs, x = .ref a ∧ rho[n]? = some a ∧ H a = some (.lst vs) ∧ RpL D none H rho vs ts := by
  cases px with
  | ref r =>
    obtain ⟨vs, q, l⟩ := R.cell n _ _ r hn
    exact ⟨_, vs, rfl, r, q, l⟩
theorem bm_append {m : Bool} : MtR X "list.append" (rBm D m .append) := by
  intro pins s σ H x xs v us Q I rx rs ⟨W, σ2, rho, h, t, ts, R, px, l, q⟩
  match ts, l, q with
  | [y], l, q =>
    obtain ⟨v1, rfl, p1⟩ := rpl1 l
    cases t with
    | ref n =>
      have q' : outE D none W σ2 H rho Q (match h[n]? with
        | some (.lst xs) => if xs.length < sizeLine then .ok .non (h.set n (.lst (xs ++ [y]))) else .stuck
        | _ => .stuck) := q
      cases hn : h[n]? with
      | none => rw [hn] at q'; exact q'.elim
      | some c =>
        rw [hn] at q'
        cases c with
        | lst zs =>
          dsimp only at q'
          by_cases c : zs.length < sizeLine
          · rw [if_pos c] at q'
            obtain ⟨a, vs, rfl, r, hH, lv⟩ := cell_lst (t := .non) R px hn
            exact mt_append pins s σ H (.ref a) [v1] v us Q I rx rs ⟨a, vs, v1, rfl, rfl, hH, by rw [lv.length]; exact c, put_lst R r hH rfl (lv.append (.cons p1 .nil)) .non q'⟩
          · rw [if_neg c] at q'; exact q'.elim
        | dct tk ks vs => exact q'.elim
        | obj c fs => exact q'.elim
        | exo c u => exact q'.elim
    | _ => exact q.elim
  | [], _, q => exact q.elim
  | t :: _ :: _, _, q => exact q.elim
theorem bm_pop {m : Bool} : MtR X "list.pop" (rBm D m .pop) := by
  intro pins s σ H x xs v us Q I rx rs ⟨W, σ2, rho, h, t, ts, R, px, l, q⟩
  match ts, l, q with
  | [], l, q =>
    cases l
    cases t with
    | ref n =>
      have q' : outE D none W σ2 H rho Q (match h[n]? with
        | some (.lst xs) => match xs[xs.length - 1]? with
          | some y => .ok y (h.set n (.lst xs.dropLast))
          | none => .stuck
        | _ => .stuck) := q
      cases hn : h[n]? with
      | none => rw [hn] at q'; exact q'.elim
      | some c =>
        rw [hn] at q'
        cases c with
        | lst zs =>
          dsimp only at q'
          cases hz : zs[zs.length - 1]? with
          | none => rw [hz] at q'; exact q'.elim
          | some y =>
            rw [hz] at q'
            obtain ⟨a, vs, rfl, r, hH, lv⟩ := cell_lst (t := .non) R px hn
            obtain ⟨w, ew, pw⟩ := lv.get hz
            exact mt_pop pins s σ H (.ref a) [] v us Q I rx rs ⟨a, vs, w, rfl, rfl, hH, by rw [lv.length]; exact ew, put_lst R r hH rfl lv.dropLast pw q'⟩
        | dct tk ks vs => exact q'.elim
        | obj c fs => exact q'.elim
        | exo c u => exact q'.elim
    | _ => exact q.elim
  | t :: _, _, q => exact q.elim
theorem bm_insert {m : Bool} : MtR X "list.insert" (rBm D m .insert) := by
  intro pins s σ H x xs v us Q I rx rs ⟨W, σ2, rho, h, t, ts, R, px, l, q⟩
  match ts, l, q with
  | [.int i, y], l, q =>
    obtain ⟨v0, v1, rfl, p0, p1⟩ := rpl2 l
    cases p0
    cases t with
    | ref n =>
      have q' : outE D none W σ2 H rho Q (match h[n]? with
        | some (.lst xs) => if xs.length < sizeLine ∧ 0 ≤ i ∧ i ≤ xs.length then .ok .non (h.set n (.lst (insAt xs i.toNat y))) else .stuck
        | _ => .stuck) := q
      cases hn : h[n]? with
      | none => rw [hn] at q'; exact q'.elim
      | some c =>
        rw [hn] at q'
        cases c with
        | lst zs =>
          dsimp only at q'
          by_cases c : zs.length < sizeLine ∧ 0 ≤ i ∧ i ≤ zs.length
          · rw [if_pos c] at q'
            obtain ⟨a, vs, rfl, r, hH, lv⟩ := cell_lst (t := .non) R px hn
            have hz := c.1
            have h63 : i < 2 ^ 63 := by
              have h1 := c.2.2
              have h2 : sizeLine < 2 ^ 63 := by rw [sizeLine_eq]; decide
              omega
            refine mt_insert pins s σ H (.ref a) [.int i, v1] v us Q I rx rs ⟨a, vs, i, v1, rfl, rfl, hH, by rw [lv.length]; exact c.1, c.2.1, h63, put_lst R r hH rfl (ts := insAt zs i.toNat y) ?_ .non q'⟩
            unfold insAt
            rw [List.append_assoc]
            exact (lv.take _).append (.cons p1 (lv.drop _))
          · rw [if_neg c] at q'; exact q'.elim
        | dct tk ks vs => exact q'.elim
        | obj c fs => exact q'.elim
        | exo c u => exact q'.elim
    | _ => exact q.elim
  | [], _, q => exact q.elim
  | [t1], _, q => cases t1 <;> exact q.elim
  | t1 :: _ :: _ :: _, _, q => cases t1 <;> exact q.elim
section
variable {a o e : Expr} {es : List Expr} {ia io ie : IE} {l : IL} {x name : Str} {p pos apos cpos : Pos} {id T : String}
theorem bmOk_lst {f : Bm} {t : PS.T} (hf : f ≠ .get ∧ f ≠ .setdefault) (e : bmOk f t h = true) : ∃ xs, isList h t = some xs := by
  cases f <;> first | exact absurd rfl hf.1 | exact absurd rfl hf.2 | exact Option.isSome_iff_exists.mp e
theorem x_bm {m : Bool} {f : Bm} (O : Okx D X) (hf : f ≠ .get ∧ f ≠ .setdefault) (slot : Slot "list" name id) (hty : typeOf (.builtin id) = pure (.type "method_descriptor")) (hm : MtR X id (rBm D m f)) (ho : XP D X W C o io) (ha : XL D X W C (e :: es) l)
    (hbase : attributeBase o name X.env (eval o X.env) = eval o X.env := by rfl)
    (hfew : ((backTo cpos (starEach (e :: es) X.env)).all (fun x => !x.1) && (backToKw cpos (keywordEach [] X.env)).all (fun x => x.1.isSome)
      && decide ((e :: es).length + ([] : List Keyword).length + (if ([] : List Keyword).isEmpty then 0 else 1) < 30)) = true := by rfl)
    (hline : (apos.endLine == cpos.line) = true := by rfl) (hs : starEach (e :: es) X.env = (false, eval e X.env) :: starEach es X.env := by rfl) (hplain : (backTo cpos (starEach es X.env)).any (·.1) = false := by rfl) :
    XP D X W C (.Call (.Attribute o name apos) (e :: es) [] cpos) (.bm m f io l) :=
  PE_imp (pe_bm PySem.F.plainAttrs_list slot hty hm ho ha hbase hfew hline hs hplain) fun σ H Q ⟨rho, env, h, e, r, q⟩ => ⟨rho, env, h, e, r, rd_bind ⟨e, r⟩ q fun t H' rho' h' v A s p q => by
    by_cases c : bmOk f t h' = true
    · rw [if_pos c] at q
      obtain ⟨xs, hx⟩ := bmOk_lst hf c
      obtain ⟨a, vs, rfl, hv, lv⟩ := view_list A.r p hx
      exact ⟨.inl ⟨rfl, vs, O.K ▸ hv⟩, rho', env, h', A.e, A.r, rd_bindL A q fun ts H2 rho2 h2 ws A2 s2 p2 q2 => ⟨W, σ, rho2, h2, t, ts, A2.r, p.step s2, p2, q2⟩⟩
    · rw [if_neg c] at q; exact q.elim⟩
theorem x_bm0 {m : Bool} {f : Bm} (O : Okx D X) (hf : f ≠ .get ∧ f ≠ .setdefault) (slot : Slot "list" name id) (hty : typeOf (.builtin id) = pure (.type "method_descriptor")) (hm : MtR X id (rBm D m f)) (ho : XP D X W C o io)
    (hbase : attributeBase o name X.env (eval o X.env) = eval o X.env := by rfl) (hline : (apos.endLine == cpos.line) = true := by rfl) :
    XP D X W C (.Call (.Attribute o name apos) [] [] cpos) (.bm m f io .nil) :=
  PE_imp (pe_bm0 PySem.F.plainAttrs_list slot hty hm ho hbase hline) fun σ H Q ⟨rho, env, h, e, r, q⟩ => ⟨rho, env, h, e, r, rd_bind ⟨e, r⟩ q fun t H' rho' h' v A s p q => by
    by_cases c : bmOk f t h' = true
    · rw [if_pos c] at q
      obtain ⟨xs, hx⟩ := bmOk_lst hf c
      obtain ⟨a, vs, rfl, hv, lv⟩ := view_list A.r p hx
      exact ⟨.inl ⟨rfl, vs, O.K ▸ hv⟩, W, σ, rho', h', t, [], A.r, p, .nil, q⟩
    · rw [if_neg c] at q; exact q.elim⟩

theorem fr_lookup {f : Nat} {t : PS.T} (hj : ∀ i j, D.fl i = D.fl j → i = j) : ∀ {gs : List (Str × V)} {fs : List (Nat × PS.T)}, FR D H rho gs fs → fs.lookup f = some t → ∃ v, gs.lookup (D.fl f) = some v ∧ Rp D none H rho v t
  | [], [], _, e => by cases e
  | [], _ :: _, ⟨h1, _⟩, _ => by simp at h1
  | _ :: _, [], ⟨h1, _⟩, _ => by simp at h1
  | (g, v) :: gs, (i, u) :: fs, ⟨h1, h2⟩, e => by
    simp only [List.map_cons, List.cons.injEq] at h1
    cases h2 with
    | cons p l =>
      obtain ⟨rfl, h1⟩ := h1
      by_cases hi : f = i
      · subst hi
        simp [List.lookup] at e
        subst e
        exact ⟨v, by simp [List.lookup], p⟩
      · have hn : (f == i) = false := by simpa using hi
        simp only [List.lookup, hn] at e
        obtain ⟨w, e1, e2⟩ := fr_lookup hj ⟨h1, l⟩ e
        refine ⟨w, ?_, e2⟩
        have hn2 : (D.fl f == D.fl i) = false := by
          simp only [beq_eq_false_iff_ne, ne_eq]
          exact fun z => hi (hj _ _ z)
        simp only [List.lookup, hn2]
        exact e1
theorem fr_put {f : Nat} {t : PS.T} {v : V} (hj : ∀ i j, D.fl i = D.fl j → i = j) (p : Rp D none H rho v t) : ∀ {gs : List (Str × V)} {fs : List (Nat × PS.T)}, FR D H rho gs fs → FR D H rho (L2.putF (D.fl f) v gs) (putF f t fs)
  | [], [], _ => ⟨rfl, .cons p .nil⟩
  | [], _ :: _, ⟨h1, _⟩ => by simp at h1
  | _ :: _, [], ⟨h1, _⟩ => by simp at h1
  | (g, w) :: gs, (i, u) :: fs, ⟨h1, h2⟩ => by
    simp only [List.map_cons, List.cons.injEq] at h1
    cases h2 with
    | cons p2 l =>
      obtain ⟨rfl, h1⟩ := h1
      by_cases hi : i = f
      · subst hi
        unfold L2.putF putF
        rw [if_pos rfl, if_pos rfl]
        exact ⟨by simp [h1], .cons p l⟩
      · have hn2 : ¬ D.fl i = D.fl f := fun z => hi (hj _ _ z)
        unfold L2.putF putF
        rw [if_neg hi, if_neg hn2]
        obtain ⟨r1, r2⟩ := fr_put hj p (gs := gs) (fs := fs) ⟨h1, l⟩
        exact ⟨by simp [r1], .cons p2 r2⟩
theorem cell_obj {v : V} {n c : Nat} {fs : List (Nat × PS.T)} (R : RelH D H rho h) (px : Rp D none H rho v (.ref n)) (hn : h[n]? = some (.obj c fs)) : ∃ a dx gs, v = .ref a ∧ rho[n]? = some a ∧ H a = some (.ins (D.ca c) dx gs) ∧ c < D.nc ∧ FR D H rho gs fs := by
  cases px with
  | ref r =>
    obtain ⟨dx, gs, q, b, l⟩ := R.cell n _ _ r hn
    exact ⟨_, dx, gs, rfl, r, q, b, l⟩
theorem x_fld (O : Okx D X) {c f : Nat} (hj : ∀ i j, D.fl i = D.fl j → i = j) (hno : NoAttr D.K (D.ca c) (D.fl f)) (ha : XP D X W C a ia) (hb : attributeBase a (D.fl f) X.env (eval a X.env) = eval a X.env := by rfl) : XP D X W C (.Attribute a (D.fl f) pos) (.fld ia c f) :=
  PE_imp (pe_fld ha hb) fun σ H Q ⟨rho, env, h, e, r, q⟩ => ⟨rho, env, h, e, r, rd_bind ⟨e, r⟩ q fun t H' rho' h' v A s p q => by
    obtain ⟨u, eu, q2⟩ := of_of1 q
    cases t with
    | ref n =>
      have eu' : (match h'[n]? with
        | some (.obj c' fs) => if c' = c then fs.lookup f else none
        | _ => none) = some u := eu
      cases hn : h'[n]? with
      | none => rw [hn] at eu'; cases eu'
      | some cl =>
        rw [hn] at eu'
        cases cl with
        | obj c' fs =>
          dsimp only at eu'
          by_cases hc : c' = c
          · rw [if_pos hc] at eu'
            subst hc
            obtain ⟨a, dx, gs, rfl, r2, hH, hb, fr⟩ := cell_obj A.r p hn
            obtain ⟨w, e1, e2⟩ := fr_lookup hj fr eu'
            exact ⟨a, _, dx, gs, w, rfl, hH, O.K ▸ (O.cls _ hb).cl, O.K ▸ hno, e1, val_ok A.r e2 q2⟩
          · rw [if_neg hc] at eu'; cases eu'
        | lst _ => cases eu'
        | dct _ _ _ => cases eu'
        | exo _ _ => cases eu'
    | _ => cases eu⟩
end
end PS
end
section
set_option maxRecDepth 100000
set_option maxHeartbeats 2000000
namespace PS
open PySem PySem.Spec PyProof.Rows L2
variable {D : Wd} {X : Cx} {C : Ctx} {W : WX} {sx : Sx} {σ σ2 : L2.St} {H : Hp} {rho : Rho} {env : Env} {h : AH} {pins : List (Addr × Obj)} {s : Shared} {En : Ends}

structure RelK (D : Wd) (n0 : Nat) (H : Hp) (rho : Rho) (h : AH) : Prop where
  len : rho.length = h.length
  nd : rho.Nodup
  cell : ∀ (n : Nat) (a : Addr) (c : Cell), n < n0 → rho[n]? = some a → h[n]? = some c → CellR D H rho a c
def RelM (D : Wd) (H : Hp) (rho : Rho) (h : AH) : Option Nat → Prop
  | none => RelH D H rho h
  | some n => RelK D n H rho h
def outS (D : Wd) (sx : Sx) (W : WX) (En : Ends) (H : Hp) (rho : Rho) : RS → Prop
  | .next e h' => ∀ σ' H' rho', Step H rho H' rho' → At D sx σ' H' rho' e h' → En.nx σ' H'
  | .brk e h' => ∀ σ' H' rho', Step H rho H' rho' → At D sx σ' H' rho' e h' → En.bk σ' H'
  | .cont e h' => ∀ σ' H' rho', Step H rho H' rho' → At D sx σ' H' rho' e h' → En.ct σ' H'
  | .ret m t h' => ∀ H' rho' v, Step H rho H' rho' → RelM D H' rho' h' m → Rp D none H' rho' v t → En.rt v H'
  | .exc c t e h' => ∀ σ' H' rho' cls d, Step H rho H' rho' → At D sx σ' H' rho' e h' → ExR D H' rho' cls d c t → W cls d σ' H'
  | .stuck => False
theorem outS.step {H1 : Hp} {rho1 : Rho} (s : Step H rho H1 rho1) : ∀ {x : RS}, outS D sx W En H rho x → outS D sx W En H1 rho1 x
  | .next _ _, q => fun σ' H' r' s' A => q σ' H' r' (s.trans s') A
  | .brk _ _, q => fun σ' H' r' s' A => q σ' H' r' (s.trans s') A
  | .cont _ _, q => fun σ' H' r' s' A => q σ' H' r' (s.trans s') A
  | .ret _ _ _, q => fun H' r' v s' R p => q H' r' v (s.trans s') R p
  | .exc _ _ _ _, q => fun σ' H' r' cls d s' A x => q σ' H' r' cls d (s.trans s') A x
  | .stuck, q => q
def rdS (D : Wd) (sx : Sx) (W : WX) (f : Env → AH → RS) : TS := fun En σ H => ∃ rho env h, At D sx σ H rho env h ∧ outS D sx W En H rho (f env h)
abbrev XS (D : Wd) (X : Cx) (W : WX) (C : Ctx) (st : Stmt) (i : IS) : Prop := PS X st (rdS D none W (evS C i))
abbrev XSs (D : Wd) (X : Cx) (W : WX) (C : Ctx) (st : List Stmt) (i : ISs) : Prop := PSs X st (rdS D none W (evSs C i))
theorem PSs_imp {X : Cx} {e : List Stmt} {t t' : TS} (p : PSs X e t) (i : ∀ D σ H, t' D σ H → t D σ H) : PSs X e t' := ⟨fun pins s σ H Q I h => p.run pins s σ H Q I (i Q σ H h)⟩
theorem sR {α : Type} {r : R α} {k : α → AH → RS} (a : At D sx σ H rho env h) (q : outS D sx W En H rho (r.toS (fun c v h1 => .exc c v env h1) .stuck k)) : outR D W σ H rho (fun t H' rho' h' => outS D sx W En H' rho' (k t h')) r := by
  cases r with
  | ok x h1 => exact fun H' r' s R => outS.step s q
  | exc c v h1 => exact fun H' r' cls d s R x => q σ H' r' cls d s (a.step s R) x
  | stuck => exact q
theorem sRv {r : R T} {k : T → AH → RS} {Qn : VK} (a : At D sx σ H rho env h) (q : outS D sx W En H rho (r.toS (fun c v h1 => .exc c v env h1) .stuck k)) (g : ∀ t H' rho' h' v, At D sx σ H' rho' env h' → Step H rho H' rho' → Rp D sx H' rho' v t → outS D sx W En H' rho' (k t h') → Qn v H') : outE D sx W σ H rho Qn r :=
  outR.mono (fun t H' r' h' s R q v x => g t H' r' h' v (a.step s R) s x q) (sR a q)
theorem sRb {β : Type} {r : R β} {k : β → AH → RS} {Qn : β → Hp → Prop} (a : At D sx σ H rho env h) (q : outS D sx W En H rho (r.toS (fun c v h1 => .exc c v env h1) .stuck k)) (g : ∀ t H' rho' h', At D sx σ H' rho' env h' → Step H rho H' rho' → outS D sx W En H' rho' (k t h') → Qn t H') : outR D W σ H rho (fun b H' _ _ => Qn b H') r :=
  outR.mono (fun t H' r' h' s R q => g t H' r' h' (a.step s R) s q) (sR a q)
theorem nx_ok {e : Env} (a : At D sx σ H rho e h) (q : outS D sx W En H rho (.next e h)) : En.nx σ H := q σ H rho Step.rfl a

def But (sl : List Nat) (σ σ' : L2.St) : Prop := σ'.length = σ.length ∧ ∀ i, i ∉ sl → σ'[i]? = σ[i]?
theorem But.rfl {sl : List Nat} : But sl σ σ := ⟨Eq.refl _, fun _ _ => Eq.refl _⟩
theorem But.trans {s1 s2 : List Nat} {σ1 σ2 : L2.St} (a : But s1 σ σ1) (b : But s2 σ1 σ2) : But (s1 ++ s2) σ σ2 := ⟨b.1.trans a.1, fun i n => by
  rw [List.mem_append, not_or] at n
  exact (b.2 i n.2).trans (a.2 i n.1)⟩
theorem wipe_get : ∀ (vs : List Nat) (σ : L2.St) (i : Nat), (L2.wipe σ vs)[i]? = if i ∈ vs then (if i < σ.length then some none else none) else σ[i]?
  | [], σ, i => by simp [L2.wipe]
  | v :: vs, σ, i => by
    have hl : (L2.wipe σ vs).length = σ.length := L2.wipe_length _ _
    unfold L2.wipe
    by_cases hv : v = i
    · subst hv
      rw [if_pos (by simp)]
      by_cases hi : v < σ.length
      · rw [List.getElem?_set_self (by rw [hl]; exact hi), if_pos hi]
      · rw [List.getElem?_eq_none (by rw [List.length_set, hl]; omega), if_neg hi]
    · rw [List.getElem?_set_ne hv, wipe_get vs σ i]
      have : (i ∈ v :: vs) ↔ i ∈ vs := by simp [Ne.symm hv]
      simp only [this]
theorem But.wipe {sl vs : List Nat} {σ' : L2.St} (b : But sl σ σ') (hs : ∀ i ∈ sl, i ∈ vs) : L2.wipe σ' vs = L2.wipe σ vs := by
  refine List.ext_getElem? fun i => ?_
  rw [wipe_get, wipe_get, b.1]
  by_cases h : i ∈ vs
  · rw [if_pos h, if_pos h]
  · rw [if_neg h, if_neg h, b.2 i fun z => h (hs i z)]
def rdG (D : Wd) (sx : Sx) (g : TG) : L2.TG := fun v σ H Q => ∃ rho env h t e', At D sx σ H rho env h ∧ Rp D sx H rho v t ∧ g.asg t env = some e' ∧ ∀ σ', RelE D sx H rho σ' e' → But g.slots σ σ' → Q σ' H
def rdGs (D : Wd) (sx : Sx) (g : TGs) : L2.TGs := fun vs σ H Q => ∃ rho env h ts e', At D sx σ H rho env h ∧ RpL D sx H rho vs ts ∧ g.asg ts env = some e' ∧ ∀ σ', RelE D sx H rho σ' e' → But g.slots σ σ' → Q σ' H
abbrev XG (D : Wd) (X : Cx) (tg : Expr) (g : TG) : Prop := PG X tg (rdG D none g)
theorem PG_imp {X : Cx} {e : Expr} {t t' : L2.TG} (p : PG X e t) (i : ∀ v σ H Q, t' v σ H Q → t v σ H Q) : PG X e t' := ⟨fun pins s σ H v u Q I r h => p.run pins s σ H v u Q I r (i v σ H Q h)⟩
theorem PGs_imp {X : Cx} {e : List Expr} {t t' : L2.TGs} (p : PGs X e t) (i : ∀ v σ H Q, t' v σ H Q → t v σ H Q) : PGs X e t' := ⟨fun pins s σ H v u Q I r h => p.run pins s σ H v u Q I r (i v σ H Q h)⟩
section
variable {pos : Pos}
theorem g_nm {i : Nat} {x : Str} (hN : X.N.Nodup) (hi : X.N[i]? = some x) (hx : Loc X.env.scope x) (hf : X.fn x = true ∨ X.env.scope.names.lookup x = some .local) : PG X (.Name x pos) (rdG D sx (TG.nm i)) :=
  PG_imp (pg_name hN hi hx hf) fun v σ H Q ⟨rho, env, h, t, e', A, p, e, q⟩ => q _ (by cases e; exact A.e.set i p) ⟨by simp, fun j n => by
    have hj : i ≠ j := fun z => n (by simp [TG.slots, z])
    rw [List.getElem?_set_ne hj]⟩
theorem gs_nil : PGs X [] (rdGs D none TGs.nil) :=
  PGs_imp pgs_nil fun vs σ H Q ⟨rho, env, h, ts, e', A, p, e, q⟩ => by
    cases ts with
    | nil => cases p; cases e; exact ⟨rfl, q σ A.e But.rfl⟩
    | cons t ts => cases e
theorem gs_cons {e : Expr} {es : List Expr} {t : TG} {u : TGs} (h1 : XG D X e t) (h2 : PGs X es (rdGs D none u))
    (hs : (assignEach (e :: es) X.env).map (·.2) = assign e X.env :: (assignEach es X.env).map (·.2) := by rfl) : PGs X (e :: es) (rdGs D none (TGs.cons t u)) :=
  PGs_imp (pgs_cons h1 h2 hs) fun vs σ H Q ⟨rho, env, h, ts, e', A, p, e, q⟩ => by
    cases ts with
    | nil => cases e
    | cons t0 ts =>
      cases p with
      | cons p0 p =>
        have e2 : (match t.asg t0 env with | some e1 => TGs.asg u ts e1 | none => none) = some e' := e
        cases h1 : t.asg t0 env with
        | none => rw [h1] at e2; cases e2
        | some e1 =>
          rw [h1] at e2
          exact ⟨_, _, rfl, rho, env, h, t0, e1, A, p0, h1, fun σ' r b1 => ⟨rho, e1, h, ts, e', ⟨r, A.r⟩, p, e2, fun σ2 r2 b2 => q σ2 r2 (b1.trans b2)⟩⟩
theorem g_tp {es : List Expr} {k : Nat} {u : TGs} {n : Nat} (hc : X.calm = true) (h : PGs X es (rdGs D none u)) (hu : ∀ ts env e', u.asg ts env = some e' → ts.length = n)
    (hn : (assignEach es X.env).length = n := by rfl) (hst : (assignEach es X.env).findIdx? (·.1) = none := by rfl) : XG D X (.Tuple es k pos) (.tp u) :=
  PG_imp (pg_tup hc h hn hst) fun v σ H Q ⟨rho, env, h, t, e', A, p, e, q⟩ => by
    cases t with
    | tup ts =>
      cases p with
      | tup hq l => exact ⟨_, _, rfl, SqT.of hq, by rw [l.length]; exact hu _ _ _ e, rho, env, h, ts, e', A, l, e, q⟩
    | _ => cases e
def TGs.count : TGs → Nat
  | .nil => 0
  | .cons _ r => r.count + 1
theorem asg_len : ∀ {u : TGs} {ts : List T} {env e' : Env}, u.asg ts env = some e' → ts.length = u.count
  | .nil, [], _, _, _ => rfl
  | .nil, _ :: _, _, _, e => by cases e
  | .cons t r, [], _, _, e => by cases e
  | .cons t r, x :: xs, env, e', e => by
    have e2 : (match t.asg x env with | some e1 => TGs.asg r xs e1 | none => none) = some e' := e
    cases h1 : t.asg x env with
    | none => rw [h1] at e2; cases e2
    | some e1 =>
      rw [h1] at e2
      simp [TGs.count, asg_len e2]
end

structure Walk (D : Wd) (J : It) (H0 : Hp) (rho0 : Rho) (I : Items) : Prop where
  go : ∀ i H rho h t, Step H0 rho0 H rho → RelH D H rho h → I.chk h → I.xs[i]? = some t → J.go i H ∧ ∀ x H', J.yld i H x H' → Step H rho H' rho ∧ RelH D H' rho h ∧ Rp D none H' rho x t
  stop : ∀ i H rho h, Step H0 rho0 H rho → RelH D H rho h → I.chk h → I.xs.length ≤ i → J.stop i H
def rdI (D : Wd) (W : WX) (f : Env → AH → R Items) : TI := fun σ H R => ∃ rho env h, RelE D none H rho σ env ∧ RelH D H rho h ∧ outR D W σ H rho (fun I H' rho' h' => I.chk h' ∧ ∀ J, Walk D J H' rho' I → R J H') (f env h)
abbrev XI (D : Wd) (X : Cx) (W : WX) (C : Ctx) (tg it : Expr) (i : II) : Prop := PI X tg it (rdI D W (evI C i))
theorem PI_imp {X : Cx} {tg e : Expr} {t t' : TI} (p : PI X tg e t) (i : ∀ σ H Q, t' σ H Q → t σ H Q) : PI X tg e t' := ⟨fun pins s σ H Q I h => p.run pins s σ H Q I (i σ H Q h)⟩
theorem walk_lst (hK : D.K = X.K) {a : Addr} {vs : List V} {ts : List T} {o : Obj} (e : H a = some (.frz o (.lst vs))) (l : RpL D none H rho vs ts) : Walk D (Itl X.K a) H rho ⟨ts, none⟩ where
  go := fun i H1 rho1 h t s R _ ht => by
    have e1 : SqL X.K H1 a vs := .inl (.inr ⟨o, s.stay e rfl⟩)
    obtain ⟨v, hv, p⟩ := (l.step s).get ht
    exact ⟨⟨vs, v, e1, hv⟩, fun x H' ⟨hH, hx⟩ => by
      subst hH
      have := hx vs e1
      rw [hv] at this
      cases this
      exact ⟨Step.rfl, R, p⟩⟩
  stop := fun i H1 rho1 h s R _ hi => ⟨vs, .inl (.inr ⟨o, s.stay e rfl⟩), by rw [l.length]; exact hi⟩
theorem walk_tup {a : Addr} {vs : List V} {ts : List T} {K : PySem.W.Frag} (e : H a = some (.tup vs)) (l : RpL D none H rho vs ts) : Walk D (Itt K a) H rho ⟨ts, none⟩ where
  go := fun i H1 rho1 h t s R _ ht => by
    have e1 : SqT K H1 a vs := SqT.of (s.stay e rfl)
    obtain ⟨v, hv, p⟩ := (l.step s).get ht
    exact ⟨⟨vs, v, e1, hv⟩, fun x H' ⟨hH, hx⟩ => by
      subst hH
      have := hx vs e1
      rw [hv] at this
      cases this
      exact ⟨Step.rfl, R, p⟩⟩
  stop := fun i H1 rho1 h s R _ hi => ⟨vs, SqT.of (s.stay e rfl), by rw [l.length]; exact hi⟩
theorem walk_cell {a : Addr} {n : Nat} {ts : List T} {K : PySem.W.Frag} (r : rho[n]? = some a) : Walk D (Itl K a) H rho ⟨ts, some (n, .lst ts)⟩ where
  go := fun i H1 rho1 h t s R hc ht => by
    obtain ⟨vs, q, l⟩ := R.cell n a _ (s.get r) hc
    have e1 : SqL K H1 a vs := SqL.of q
    obtain ⟨v, hv, p⟩ := l.get ht
    exact ⟨⟨vs, v, e1, hv⟩, fun x H' ⟨hH, hx⟩ => by
      subst hH
      have := hx vs e1
      rw [hv] at this
      cases this
      exact ⟨Step.rfl, R, p⟩⟩
  stop := fun i H1 rho1 h s R hc hi => by
    obtain ⟨vs, q, l⟩ := R.cell n a _ (s.get r) hc
    exact ⟨vs, SqL.of q, by rw [l.length]; exact hi⟩
theorem walk_str {x : Str} : Walk D (Its x) H rho ⟨chars x, none⟩ where
  go := fun i H1 rho1 h t s R hc ht => by
    have ht' : (x.cps.toList.map fun c => T.str ⟨#[c]⟩)[i]? = some t := ht
    rw [List.getElem?_map] at ht'
    cases hx : x.cps.toList[i]? with
    | none => rw [hx] at ht'; cases ht'
    | some c =>
      rw [hx] at ht'
      cases ht'
      have hx2 : x.cps[i]? = some c := by rw [← Array.getElem?_toList]; exact hx
      refine ⟨(Array.getElem?_eq_some_iff.mp hx2).1, fun y H' ⟨hH, d, hd, hy⟩ => ?_⟩
      subst hH
      rw [hx2] at hd
      cases hd
      subst hy
      exact ⟨Step.rfl, R, .str _⟩
  stop := fun i H1 rho1 h s R hc hi => by
    have hi' : (x.cps.toList.map fun c => T.str ⟨#[c]⟩).length ≤ i := hi
    rw [List.length_map, Array.length_toList] at hi'
    exact hi'
theorem walk_rng {lo : Int} {n : Nat} : Walk D (Itr lo n) H rho ⟨rangeT lo n, none⟩ where
  go := fun i H1 rho1 h t s R hc ht => by
    have ht' : ((List.range n).map fun (k : Nat) => T.int (lo + k))[i]? = some t := ht
    rw [List.getElem?_map] at ht'
    by_cases hi : i < n
    · rw [List.getElem?_range hi] at ht'
      cases ht'
      exact ⟨hi, fun y H' ⟨hH, hy⟩ => by subst hH; subst hy; exact ⟨Step.rfl, R, .int _⟩⟩
    · rw [List.getElem?_eq_none (by simpa using hi)] at ht'; cases ht'
  stop := fun i H1 rho1 h s R hc hi => by
    have hi' : ((List.range n).map fun (k : Nat) => T.int (lo + k)).length ≤ i := hi
    rw [List.length_map, List.length_range] at hi'
    exact hi'
section
variable {tg a b : Expr} {ia ib : IE} {p pos : Pos}
theorem i_e (O : Okx D X) (ha : XP D X W C a ia) : XI D X W C tg a (.e ia) := by
  refine ⟨fun pins s σ H R I ⟨rho, env, h, e, r, q⟩ => ?_⟩
  have hw := ha.run pins s σ H (fun v H1 => ∃ t rho1 h1 Is, RelH D H1 rho1 h1 ∧ Rp D none H1 rho1 v t ∧ itemsOf h1 t = some Is ∧ Is.chk h1 ∧ ∀ J, Walk D J H1 rho1 Is → R J H1) I ⟨rho, env, h, e, r, rd_bind ⟨e, r⟩ q fun t H' rho' h' v A s p q => by
    obtain ⟨Is, ei, q2⟩ := of_of1 q
    obtain ⟨q3, q4⟩ := of_ok A q2
    exact ⟨t, rho', h', Is, A.r, p, ei, q3, q4⟩⟩
  refine thn hw fun u s1 ⟨v, H1, I1, rv, t, rho1, h1, Is, R1, p, ei, hchk, q⟩ => ?_
  unfold itemsOf iterV at ei
  have golist : ∀ {a : Addr} {vs : List V}, u = .ref a → SqL X.K H1 a vs → R (Itl X.K a) H1 → wpAny (model X.prog X.w) X.A (pyIter u) (PIE X pins σ tg R) X.xe s1 := fun {a vs} hu hq q => by
    subst hu
    obtain ⟨its, rv, p, hz⟩ := I1.list hq
    exact wpAny_pyIter_list p.isList (pi_one (tk := s1.toks) I1 _ (turn_list a _) ⟨_, Heap.get?_push_size _ rfl, rfl, rfl⟩ q)
  cases p with
  | tup hq l =>
    cases ei
    cases rv
    obtain ⟨its, rv, p, hz⟩ := I1.tuple (SqT.of hq)
    exact wpAny_pyIter_tuple (show s1.heap.IsTuple _ its.toArray from p) (pi_one (tk := s1.toks) I1 _ (turn_tuple _ _) ⟨_, Heap.get?_push_size _ rfl, rfl, rfl⟩ (q _ (walk_tup hq l)))
  | lst hq l =>
    cases ei
    cases rv
    exact golist rfl (.inl (.inr ⟨_, hq⟩)) (q _ (walk_lst O.K hq l))
  | str x =>
    cases ei
    obtain ⟨t, rfl⟩ := rv
    have q' := q _ (walk_str (x := x))
    cases hx : x.cps.all (· < 128)
    · exact wpAny_pyIter_wide hx (pi_one (tk := s1.toks) I1 _ (turn_str _ x t "str_iterator" (.inr rfl)) ⟨_, Heap.get?_push_size _ rfl, rfl, rfl⟩ q')
    · exact wpAny_pyIter_ascii hx (pi_one (tk := s1.toks) I1 _ (turn_str _ x t "str_ascii_iterator" (.inl rfl)) ⟨_, Heap.get?_push_size _ rfl, rfl, rfl⟩ q')
  | @ref a n hr =>
    rw [snap_ref] at ei
    cases hn : h1[n]? with
    | none => rw [hn] at ei; cases ei
    | some c =>
      rw [hn] at ei
      cases c with
      | lst ts =>
        simp only at ei
        rw [hn] at ei
        cases ei
        cases rv
        obtain ⟨vs, hq, l⟩ := R1.cell n _ _ hr hn
        exact golist rfl (SqL.of hq) (q _ (walk_cell hr))
      | dct tk ks vs => cases ei
      | obj c fs => cases ei
      | exo c u => cases ei
  | _ => cases ei
theorem i_rng (hg : Gl X "range") (hm : X.mg "range" = none) (ha : XP D X W C a ia) (hs : starEach [a] X.env = [(false, eval a X.env)] := by rfl) : XI D X W C tg (.Call (.Name "range" p) [a] [] pos) (.rng ia) :=
  PI_imp (pi_range1 hg hm (x_cons ha x_nil hs) hs) fun σ H R ⟨rho, env, h, e, r, q⟩ => ⟨rho, env, h, e, r, by
    have z : evL C (.cons ia .nil) env h = (evE C ia env h).bind fun x h1 => PS.R.ok [x] h1 := rfl
    rw [z]
    have q' : outR D W σ H rho (fun I H' rho' h' => I.chk h' ∧ ∀ J, Walk D J H' rho' I → R J H') ((evE C ia env h).bind fun x h1 => match x with
      | .int j => if small62 j then .ok ⟨rangeT 0 j.toNat, none⟩ h1 else .stuck
      | _ => .stuck) := q
    generalize evE C ia env h = f at q' ⊢
    cases f with
    | exc c v h1 => exact q'
    | stuck => exact q'
    | ok t h1 =>
      show ∀ H' rho', Step H rho H' rho' → RelH D H' rho' h1 → ∀ vs, RpL D none H' rho' vs [t] → _
      intro H' rho' s R1 vs l
      obtain ⟨v, rfl, p⟩ := rpl1 l
      cases t with
      | int j =>
        cases p
        have q2 : outR D W σ H rho (fun I H' rho' h' => I.chk h' ∧ ∀ J, Walk D J H' rho' I → R J H') (if small62 j then PS.R.ok (⟨rangeT 0 j.toNat, none⟩ : Items) h1 else .stuck) := q'
        by_cases c : small62 j
        · rw [if_pos c] at q2
          exact ⟨j, rfl, c.1, c.2, (q2 H' rho' s R1).2 _ walk_rng⟩
        · rw [if_neg c] at q2; exact q2.elim
      | _ => exact q'.elim⟩
end
end PS
end
section
set_option maxRecDepth 100000
set_option maxHeartbeats 2000000
namespace PS
open PySem PySem.Spec PyProof.Rows L2
variable {D : Wd} {X : Cx} {C : Ctx} {W : WX} {sx : Sx} {σ σ2 : L2.St} {H H' : Hp} {rho rho' : Rho} {env : Env} {h h' : AH} {pins : List (Addr × Obj)} {s : Shared} {En : Ends}

theorem keys_und {n : Nat} : ∀ kvs : List (Key × V), T.undL n (kvs.map fun p => keyT p.1) = true
  | [] => rfl
  | (.inl i, v) :: r => by simp only [List.map_cons, T.undL, keyT, T.und, Bool.true_and]; exact keys_und r
  | (.inr i, v) :: r => by simp only [List.map_cons, T.undL, keyT, T.und, Bool.true_and]; exact keys_und r
theorem keyl_und {n : Nat} : ∀ ks : List Key, T.undL n (ks.map keyT) = true
  | [] => rfl
  | .inl i :: r => by simp only [List.map_cons, T.undL, keyT, T.und, Bool.true_and]; exact keyl_und r
  | .inr i :: r => by simp only [List.map_cons, T.undL, keyT, T.und, Bool.true_and]; exact keyl_und r
theorem keysT_und {n : Nat} : ∀ kvs : List (List Key × V), T.undL n (kvs.map fun p => T.tup (p.1.map keyT)) = true
  | [] => rfl
  | (k, v) :: r => by simp only [List.map_cons, T.undL, T.und, Bool.and_eq_true]; exact ⟨keyl_und k, keysT_und r⟩
mutual
theorem Rp.und : ∀ {v : V} {t : T}, Rp D none H rho v t → t.und rho.length = true
  | _, _, .non => rfl
  | _, _, .bl b => rfl
  | _, _, .int i => rfl
  | _, _, .str x => rfl
  | _, _, .tup _ l => by simp only [T.und]; exact RpL.und l
  | _, _, .lst _ l => by simp only [T.und]; exact RpL.und l
  | _, _, .dK (kvs := kvs) _ hk l => by
    subst hk
    simp only [T.und, Bool.and_eq_true]
    exact ⟨keys_und _, RpL.und l⟩
  | _, _, .dT (kvs := kvs) _ hk l => by
    subst hk
    simp only [T.und, Bool.and_eq_true]
    exact ⟨keysT_und _, RpL.und l⟩
  | _, _, .ref e => by
    simp only [T.und]
    exact decide_eq_true (List.getElem?_eq_some_iff.mp e).1
  | _, _, .exn _ e _ _ => by cases e
theorem RpL.und : ∀ {vs : List V} {ts : List T}, RpL D none H rho vs ts → T.undL rho.length ts = true
  | _, _, .nil => rfl
  | _, _, .cons p l => by
    simp only [T.undL, Bool.and_eq_true]
    exact ⟨Rp.und p, RpL.und l⟩
end
mutual
theorem Rp.cutR {n : Nat} : ∀ {v : V} {t : T}, Rp D sx H rho v t → t.und n = true → Rp D none H (rho.take n) v t
  | _, _, .non, _ => .non
  | _, _, .bl b, _ => .bl b
  | _, _, .int i, _ => .int i
  | _, _, .str x, _ => .str x
  | _, _, .tup q l, e => .tup q (RpL.cutR l (by simpa only [T.und] using e))
  | _, _, .lst q l, e => .lst q (RpL.cutR l (by simpa only [T.und] using e))
  | _, _, .dK q hk l, e => .dK q hk (RpL.cutR l (by simp only [T.und, Bool.and_eq_true] at e; exact e.2))
  | _, _, .dT q hk l, e => .dT q hk (RpL.cutR l (by simp only [T.und, Bool.and_eq_true] at e; exact e.2))
  | _, _, .ref (n := m) q, e => .ref (by
    simp only [T.und] at e
    rw [List.getElem?_take_of_lt (of_decide_eq_true e)]
    exact q)
  | _, _, .exn _ _ _ _, e => by simp only [T.und] at e; cases e
theorem RpL.cutR {n : Nat} : ∀ {vs : List V} {ts : List T}, RpL D sx H rho vs ts → T.undL n ts = true → RpL D none H (rho.take n) vs ts
  | _, _, .nil, _ => .nil
  | _, _, .cons p l, e => by
    simp only [T.undL, Bool.and_eq_true] at e
    exact .cons (Rp.cutR p e.1) (RpL.cutR l e.2)
end
theorem CellR.und {a : Addr} : ∀ {c : Cell}, CellR D H rho a c → c.und rho.length = true
  | .lst _, ⟨vs, q, l⟩ => RpL.und l
  | .dct false _ _, ⟨kvs, q, z, l⟩ => by
    subst z
    unfold Cell.und
    simp only [Bool.and_eq_true]
    exact ⟨keys_und _, RpL.und l⟩
  | .dct true _ _, ⟨kvs, q, z, l⟩ => by
    subst z
    unfold Cell.und
    simp only [Bool.and_eq_true]
    exact ⟨keysT_und _, RpL.und l⟩
  | .obj _ _, ⟨dx, gs, q, b, f⟩ => RpL.und f.2
  | .exo _ _, ⟨d, v, q, q2, b, p⟩ => Rp.und p
theorem CellR.cutR {a : Addr} {n : Nat} : ∀ {c : Cell}, CellR D H rho a c → c.und n = true → CellR D H (rho.take n) a c
  | .lst _, ⟨vs, q, l⟩, e => ⟨vs, q, l.cutR e⟩
  | .dct false _ _, ⟨kvs, q, z, l⟩, e => ⟨kvs, q, z, l.cutR (by unfold Cell.und at e; simp only [Bool.and_eq_true] at e; exact e.2)⟩
  | .dct true _ _, ⟨kvs, q, z, l⟩, e => ⟨kvs, q, z, l.cutR (by unfold Cell.und at e; simp only [Bool.and_eq_true] at e; exact e.2)⟩
  | .obj _ _, ⟨dx, gs, q, b, f⟩, e => ⟨dx, gs, q, b, f.1, f.2.cutR e⟩
  | .exo _ _, ⟨d, v, q, q2, b, p⟩, e => ⟨d, v, q, q2, b, p.cutR e⟩
theorem RelH.k (R : RelH D H rho h) (n : Nat) : RelK D n H rho h := ⟨R.len, R.nd, fun m a c _ => R.cell m a c⟩
theorem gc_ok (R0 : RelH D H rho h) (s : Step H rho H' rho') (RK : RelK D h.length H' rho' h') (g : GcOk h h') : RelH D H' rho (h'.take h.length) ∧ rho'.take h.length = rho := by
  obtain ⟨⟨_, t, rfl⟩, _, _, _⟩ := s
  have e : (rho ++ t).take h.length = rho := by rw [← R0.len]; simp
  refine ⟨⟨?_, R0.nd, fun n a c e1 e2 => ?_⟩, e⟩
  · rw [List.length_take, R0.len, Nat.min_eq_left g.1]
  · have hn : n < h.length := by rw [← R0.len]; exact (List.getElem?_eq_some_iff.mp e1).1
    rw [List.getElem?_take_of_lt hn] at e2
    have r := RK.cell n a c hn (by rw [List.getElem?_append_left (by rw [R0.len]; exact hn)]; exact e1) e2
    have u : c.und h.length = true := by
      rcases g.2 n hn with z | ⟨c', z, u⟩
      · rw [e2] at z
        have := (R0.cell n a c e1 z.symm).und
        rwa [R0.len] at this
      · rw [e2] at z; cases z; exact u
    have := r.cutR u
    rwa [e] at this

structure Frz (n0 : Nat) (rho : Rho) (H H' : Hp) : Prop where
  at_ : ∀ a u, H a = some u → H' a = some u ∨ (frzb u = true ∧ ∃ o, H' a = some (.frz o u))
  old : ∀ n a, n < n0 → rho[n]? = some a → H' a = H a
  out : ∀ a, a ∉ rho → H' a = H a
theorem frzb_stays {u : HO} (e : stays u = true) : frzb u = false := by cases u <;> first | rfl | cases e
theorem Frz.rfl {n0 : Nat} : Frz n0 rho H H := ⟨fun _ _ e => .inl e, fun _ _ _ _ => Eq.refl _, fun _ _ => Eq.refl _⟩
theorem Frz.trans {n0 : Nat} {H1 : Hp} (a : Frz n0 rho H H1) (b : Frz n0 rho H1 H') : Frz n0 rho H H' := by
  refine ⟨fun x u e => ?_, fun n x hn e => (b.old n x hn e).trans (a.old n x hn e), fun x n => (b.out x n).trans (a.out x n)⟩
  rcases a.at_ x u e with q | ⟨f, o, q⟩
  · exact b.at_ x u q
  · rcases b.at_ x _ q with q2 | ⟨f2, _⟩
    · exact .inr ⟨f, o, q2⟩
    · cases f2
theorem Frz.step {n0 : Nat} (f : Frz n0 rho H H') : Step H rho H' rho := by
  refine ⟨⟨fun a o e s => ?_, [], by simp⟩, fun a o e n => by rw [f.out a n]; exact e, fun a o e => ?_, fun _ a b => absurd a b⟩
  · rcases f.at_ a o e with q | ⟨g, _⟩
    · exact q
    · rw [frzb_stays s] at g; cases g
  · rcases f.at_ a o e with q | ⟨g, o', q⟩
    · exact ⟨o, q⟩
    · exact ⟨_, q⟩
def CellF (D : Wd) (H : Hp) (rho : Rho) (a : Addr) : Cell → Prop
  | .lst ts => ∃ vs, (H a = some (.lst vs) ∨ ∃ o, H a = some (.frz o (.lst vs))) ∧ RpL D none H rho vs ts
  | .dct false ks ts => ∃ kvs : List (Key × V), (H a = some (.dK kvs) ∨ ∃ o, H a = some (.frz o (.dK kvs))) ∧ ks = kvs.map (fun p => keyT p.1) ∧ RpL D none H rho (kvs.map (·.2)) ts
  | .dct true ks ts => ∃ kvs : List (List Key × V), (H a = some (.dT kvs) ∨ ∃ o, H a = some (.frz o (.dT kvs))) ∧ ks = kvs.map (fun p => .tup (p.1.map keyT)) ∧ RpL D none H rho (kvs.map (·.2)) ts
  | .obj _ _ => True
  | .exo _ _ => True
structure RelF (D : Wd) (n0 : Nat) (H : Hp) (rho : Rho) (h : AH) : Prop where
  k : RelK D n0 H rho h
  new : ∀ (n : Nat) (a : Addr) (c : Cell), n0 ≤ n → rho[n]? = some a → h[n]? = some c → CellF D H rho a c
theorem RelH.f (R : RelH D H rho h) (n0 : Nat) : RelF D n0 H rho h := ⟨R.k n0, fun n a c _ e1 e2 => by
  have r := R.cell n a c e1 e2
  match c, r with
  | .lst _, ⟨vs, q, l⟩ => exact ⟨vs, .inl q, l⟩
  | .dct false _ _, ⟨kvs, q, z, l⟩ => exact ⟨kvs, .inl q, z, l⟩
  | .dct true _ _, ⟨kvs, q, z, l⟩ => exact ⟨kvs, .inl q, z, l⟩
  | .obj _ _, _ => trivial
  | .exo _ _, _ => trivial⟩
theorem frz_or {u : HO} {a : Addr} {n0 : Nat} (f : Frz n0 rho H H') (q : H a = some u ∨ ∃ o, H a = some (.frz o u)) : H' a = some u ∨ ∃ o, H' a = some (.frz o u) := by
  rcases q with q | ⟨o, q⟩
  · rcases f.at_ a u q with z | ⟨_, z⟩
    · exact .inl z
    · exact .inr z
  · rcases f.at_ a _ q with z | ⟨z, _⟩
    · exact .inr ⟨o, z⟩
    · cases z
theorem RelF.frz {n0 : Nat} (R : RelF D n0 H rho h) (f : Frz n0 rho H H') : RelF D n0 H' rho h := ⟨⟨R.k.len, R.k.nd, fun n a c hn e1 e2 => (R.k.cell n a c hn e1 e2).step f.step (f.old n a hn e1)⟩, fun n a c hn e1 e2 => by
  have r := R.new n a c hn e1 e2
  match c, r with
  | .lst _, ⟨vs, q, l⟩ => exact ⟨vs, frz_or f q, l.step f.step⟩
  | .dct false _ _, ⟨kvs, q, z, l⟩ => exact ⟨kvs, frz_or f q, z, l.step f.step⟩
  | .dct true _ _, ⟨kvs, q, z, l⟩ => exact ⟨kvs, frz_or f q, z, l.step f.step⟩
  | .obj _ _, _ => trivial
  | .exo _ _, _ => trivial⟩
theorem frz_one {n0 n : Nat} {a : Addr} {u : HO} (nd : rho.Nodup) (hn : n0 ≤ n) (ea : rho[n]? = some a) (I : Inv X pins σ H s) (fu : frzb u = true) (q : H a = some u ∨ ∃ o, H a = some (.frz o u)) : ∃ H' o, Inv X pins σ H' s ∧ Frz n0 rho H H' ∧ H' a = some (.frz o u) := by
  rcases q with q | ⟨o, q⟩
  · obtain ⟨o, J⟩ := Inv.freeze I q fu
    refine ⟨_, o, J, ⟨fun b w e => ?_, fun m b hm e => ?_, fun b nb => upd_ne fun z => nb (by rw [z]; exact List.mem_of_getElem? ea)⟩, upd_same⟩
    · by_cases hb : b = a
      · subst hb; rw [q] at e; cases e; exact .inr ⟨fu, o, upd_same⟩
      · exact .inl (by rw [upd_ne hb]; exact e)
    · refine upd_ne fun z => ?_
      subst z
      have := RelH.put.nodup_addr nd ea e
      omega
  · exact ⟨H, o, I, Frz.rfl, q⟩
theorem frz_ok {n0 : Nat} : ∀ (d : Nat) {t t' : T} {v : V} {H : Hp}, frzV n0 h d t = some t' → RelF D n0 H rho h → Rp D none H rho v t → Inv X pins σ H s → ∃ H', Inv X pins σ H' s ∧ Frz n0 rho H H' ∧ Rp D none H' rho v t' ∧ t'.und n0 = true
  | 0, t, t', v, H, e, R, p, I => by
    unfold frzV at e
    split at e
    · rename_i c
      cases e
      exact ⟨H, I, Frz.rfl, p, c⟩
    · cases e
  | d + 1, t, t', v, H, e, R, p, I => by
    have lst : ∀ {ts ts' : List T} {vs : List V} {H : Hp}, ts.mapM (frzV n0 h d) = some ts' → RelF D n0 H rho h → RpL D none H rho vs ts → Inv X pins σ H s → ∃ H', Inv X pins σ H' s ∧ Frz n0 rho H H' ∧ RpL D none H' rho vs ts' ∧ T.undL n0 ts' = true := by
      intro ts
      induction ts with
      | nil =>
        intro ts' vs H e R l I
        rw [List.mapM_nil] at e
        cases e
        cases l
        exact ⟨H, I, Frz.rfl, .nil, rfl⟩
      | cons t ts ih =>
        intro ts' vs H e R l I
        rw [List.mapM_cons] at e
        cases e1 : frzV n0 h d t with
        | none => rw [e1] at e; cases e
        | some t1 =>
          rw [e1] at e
          cases e2 : ts.mapM (frzV n0 h d) with
          | none => rw [e2] at e; cases e
          | some ts1 =>
            rw [e2] at e
            cases e
            cases l with
            | cons p l =>
              obtain ⟨H1, I1, f1, p1, u1⟩ := frz_ok d e1 R p I
              obtain ⟨H2, I2, f2, l2, u2⟩ := ih e2 (R.frz f1) (l.step f1.step) I1
              exact ⟨H2, I2, f1.trans f2, .cons (p1.step f2.step) l2, by simp only [T.undL, Bool.and_eq_true]; exact ⟨u1, u2⟩⟩
    have und : ∀ {t}, (if t.und n0 = true then some t else none) = some t' → Rp D none H rho v t → ∃ H', Inv X pins σ H' s ∧ Frz n0 rho H H' ∧ Rp D none H' rho v t' ∧ t'.und n0 = true := fun {t} e p => by
      split at e
      · rename_i c
        cases e
        exact ⟨H, I, Frz.rfl, p, c⟩
      · cases e
    cases t with
    | ref n =>
      have e' : (if n < n0 then some (T.ref n) else match h[n]? with
        | some (.lst xs) => (xs.mapM (frzV n0 h d)).map .lst
        | some (.dct tk ks vs) => if T.undL n0 ks = true then (vs.mapM (frzV n0 h d)).map (.dct tk ks) else none
        | _ => none) = some t' := e
      by_cases hn : n < n0
      · rw [if_pos hn] at e'
        cases e'
        exact ⟨H, I, Frz.rfl, p, by simp only [T.und]; exact decide_eq_true hn⟩
      · rw [if_neg hn] at e'
        cases p with
        | ref r =>
          cases hc : h[n]? with
          | none => rw [hc] at e'; cases e'
          | some c =>
            rw [hc] at e'
            cases c with
            | lst xs =>
              dsimp only at e'
              cases e1 : xs.mapM (frzV n0 h d) with
              | none => rw [e1] at e'; cases e'
              | some ys =>
                rw [e1] at e'
                cases e'
                obtain ⟨vs, q, l⟩ := R.new n _ _ (Nat.le_of_not_lt hn) r hc
                obtain ⟨H1, I1, f1, l1, u1⟩ := lst e1 R l I
                obtain ⟨H2, o, I2, f2, q2⟩ := frz_one R.k.nd (Nat.le_of_not_lt hn) r I1 (u := .lst vs) rfl (frz_or f1 q)
                exact ⟨H2, I2, f1.trans f2, .lst q2 (l1.step f2.step), by simp only [T.und]; exact u1⟩
            | dct tk ks vs =>
              dsimp only at e'
              by_cases hk : T.undL n0 ks = true
              · rw [if_pos hk] at e'
                cases e1 : vs.mapM (frzV n0 h d) with
                | none => rw [e1] at e'; cases e'
                | some ys =>
                  rw [e1] at e'
                  cases e'
                  cases tk with
                  | false =>
                    obtain ⟨kvs, q, z, l⟩ := R.new n _ _ (Nat.le_of_not_lt hn) r hc
                    obtain ⟨H1, I1, f1, l1, u1⟩ := lst e1 R l I
                    obtain ⟨H2, o, I2, f2, q2⟩ := frz_one R.k.nd (Nat.le_of_not_lt hn) r I1 (u := .dK kvs) rfl (frz_or f1 q)
                    exact ⟨H2, I2, f1.trans f2, .dK q2 z (l1.step f2.step), by simp only [T.und, Bool.and_eq_true]; exact ⟨hk, u1⟩⟩
                  | true =>
                    obtain ⟨kvs, q, z, l⟩ := R.new n _ _ (Nat.le_of_not_lt hn) r hc
                    obtain ⟨H1, I1, f1, l1, u1⟩ := lst e1 R l I
                    obtain ⟨H2, o, I2, f2, q2⟩ := frz_one R.k.nd (Nat.le_of_not_lt hn) r I1 (u := .dT kvs) rfl (frz_or f1 q)
                    exact ⟨H2, I2, f1.trans f2, .dT q2 z (l1.step f2.step), by simp only [T.und, Bool.and_eq_true]; exact ⟨hk, u1⟩⟩
              · rw [if_neg hk] at e'; cases e'
            | obj c fs => cases e'
            | exo c u => cases e'
    | tup xs =>
      have e' : (xs.mapM (frzV n0 h d)).map .tup = some t' := e
      cases e1 : xs.mapM (frzV n0 h d) with
      | none => rw [e1] at e'; cases e'
      | some ys =>
        rw [e1] at e'
        cases e'
        cases p with
        | tup q l =>
          obtain ⟨H1, I1, f1, l1, u1⟩ := lst e1 R l I
          exact ⟨H1, I1, f1, .tup (f1.step.stay q rfl) l1, by simp only [T.und]; exact u1⟩
    | _ => exact und e p
theorem Rp.plain {v : V} {t : T} (p : Rp D sx H rho v t) (e : t.und rho.length = true) : Rp D none H rho v t := by
  have := p.cutR e
  rwa [List.take_length] at this
end PS
end
section
set_option maxRecDepth 100000
set_option maxHeartbeats 2000000
namespace PS
open PySem PySem.Spec PyProof.Rows L2
variable {D : Wd} {X : Cx} {C : Ctx} {W : WX} {sx : Sx} {σ σ2 : L2.St} {H H' : Hp} {rho rho' : Rho} {env : Env} {h h' : AH} {pins : List (Addr × Obj)} {s : Shared} {En : Ends}

theorem evI_chk : ∀ {it : II} {Is : Items}, evI C it env h = .ok Is h' → Is.chk h' := by
  have z : ∀ {t : T} {h : AH} {Is : Items}, itemsOf h t = some Is → Is.chk h := fun {t h Is} e => by
    unfold itemsOf at e
    cases hi : iterV h t with
    | none => rw [hi] at e; cases e
    | some xs =>
      rw [hi] at e
      cases t with
      | ref n =>
        dsimp only at e
        cases hn : h[n]? with
        | none => rw [hn] at e; cases e
        | some c => rw [hn] at e; cases e; exact hn
      | _ => cases e; trivial
  intro it Is e
  cases it with
  | e a =>
    have e' : (evE C a env h).bind (fun x h1 => R.of (itemsOf h1 x) h1) = .ok Is h' := e
    cases ha : evE C a env h with
    | ok t h1 =>
      rw [ha] at e'
      cases hi : itemsOf h1 t with
      | none =>
        have e2 : R.of (itemsOf h1 t) h1 = .ok Is h' := e'
        rw [hi] at e2; cases e2
      | some Js =>
        have e2 : R.of (itemsOf h1 t) h1 = .ok Is h' := e'
        rw [hi] at e2; cases e2; exact z hi
    | exc _ _ _ => rw [ha] at e'; cases e'
    | stuck => rw [ha] at e'; cases e'
  | rng a =>
    have e' : (evE C a env h).bind (fun x h1 => match x with
      | .int j => if small62 j then .ok (⟨rangeT 0 j.toNat, none⟩ : Items) h1 else .stuck
      | _ => .stuck) = .ok Is h' := e
    cases ha : evE C a env h with
    | ok t h1 =>
      rw [ha] at e'
      cases t with
      | int j =>
        have e2 : (if small62 j then PS.R.ok (⟨rangeT 0 j.toNat, none⟩ : Items) h1 else .stuck) = .ok Is h' := e'
        split at e2
        · cases e2; trivial
        · cases e2
      | _ => cases e'
    | exc _ _ _ => rw [ha] at e'; cases e'
    | stuck => rw [ha] at e'; cases e'
  | rng2 a b =>
    have e' : (evE C a env h).bind (fun x h1 => (evE C b env h1).bind fun y h2 => match x, y with
      | .int i, .int j => if small62 i ∧ small62 j then .ok (⟨rangeT i (j - i).toNat, none⟩ : Items) h2 else .stuck
      | _, _ => .stuck) = .ok Is h' := e
    cases ha : evE C a env h with
    | ok t h1 =>
      rw [ha] at e'
      have e3 : (evE C b env h1).bind (fun y h2 => match t, y with
        | .int i, .int j => if small62 i ∧ small62 j then PS.R.ok (⟨rangeT i (j - i).toNat, none⟩ : Items) h2 else .stuck
        | _, _ => .stuck) = .ok Is h' := e'
      cases hb : evE C b env h1 with
      | ok u h2 =>
        rw [hb] at e3
        cases t with
        | int i =>
          cases u with
          | int j =>
            have e2 : (if small62 i ∧ small62 j then PS.R.ok (⟨rangeT i (j - i).toNat, none⟩ : Items) h2 else .stuck) = .ok Is h' := e3
            split at e2
            · cases e2; trivial
            · cases e2
          | _ => cases e3
        | _ => cases e3
      | exc _ _ _ => rw [hb] at e3; cases e3
      | stuck => rw [hb] at e3; cases e3
    | exc _ _ _ => rw [ha] at e'; cases e'
    | stuck => rw [ha] at e'; cases e'
  | enum a =>
    have e' : (evE C a env h).bind (fun x h1 => match seqV h1 x with
      | some xs => match x with
        | .ref n => match h1[n]? with
          | some c => .ok (⟨enumT 0 xs, some (n, c)⟩ : Items) h1
          | none => .stuck
        | _ => .ok ⟨enumT 0 xs, none⟩ h1
      | none => .stuck) = .ok Is h' := e
    cases ha : evE C a env h with
    | ok t h1 =>
      rw [ha] at e'
      have e2 : (match seqV h1 t with
        | some xs => match t with
          | .ref n => match h1[n]? with
            | some c => PS.R.ok (⟨enumT 0 xs, some (n, c)⟩ : Items) h1
            | none => .stuck
          | _ => .ok ⟨enumT 0 xs, none⟩ h1
        | none => .stuck) = .ok Is h' := e'
      cases hs : seqV h1 t with
      | none => rw [hs] at e2; cases e2
      | some xs =>
        rw [hs] at e2
        cases t with
        | ref n =>
          dsimp only at e2
          cases hn : h1[n]? with
          | none => rw [hn] at e2; cases e2
          | some c => rw [hn] at e2; cases e2; exact hn
        | _ => cases e2; trivial
    | exc _ _ _ => rw [ha] at e'; cases e'
    | stuck => rw [ha] at e'; cases e'
  | zip a b =>
    have e' : (evE C a env h).bind (fun x h1 => (evE C b env h1).bind fun y h2 => match x, y with
      | .ref _, _ => .stuck
      | _, .ref _ => .stuck
      | x, y => match seqV h2 x, seqV h2 y with
        | some xs, some ys => .ok (⟨zipT xs ys, none⟩ : Items) h2
        | _, _ => .stuck) = .ok Is h' := e
    cases ha : evE C a env h with
    | ok t h1 =>
      rw [ha] at e'
      have e3 : (evE C b env h1).bind (fun y h2 => match t, y with
        | .ref _, _ => .stuck
        | _, .ref _ => .stuck
        | x, y => match seqV h2 x, seqV h2 y with
          | some xs, some ys => PS.R.ok (⟨zipT xs ys, none⟩ : Items) h2
          | _, _ => .stuck) = .ok Is h' := e'
      cases hb : evE C b env h1 with
      | ok u h2 =>
        rw [hb] at e3
        have key : ∀ {xs ys : Option (List T)}, (match xs, ys with
          | some xs, some ys => PS.R.ok (⟨zipT xs ys, none⟩ : Items) h2
          | _, _ => .stuck) = .ok Is h' → Is.chk h' := fun {xs ys} q => by
          cases xs with
          | none => cases q
          | some xs =>
            cases ys with
            | none => cases q
            | some ys => cases q; trivial
        cases t <;> cases u <;> first | exact key e3 | (cases e3; trivial) | cases e3
      | exc _ _ _ => rw [hb] at e3; cases e3
      | stuck => rw [hb] at e3; cases e3
    | exc _ _ _ => rw [ha] at e'; cases e'
    | stuck => rw [ha] at e'; cases e'
theorem rdI_of {f : R Items} {Q : Items → Hp → Rho → AH → Prop} (hf : ∀ Is h', f = .ok Is h' → Is.chk h') (q : outR D W σ H rho (fun Is H' rho' h' => Is.chk h' → Q Is H' rho' h') f) : outR D W σ H rho (fun Is H' rho' h' => Is.chk h' ∧ Q Is H' rho' h') f := by
  cases f with
  | ok Is h1 => exact fun H' r' s R => ⟨hf _ _ rfl, q H' r' s R (hf _ _ rfl)⟩
  | exc c v h1 => exact q
  | stuck => exact q

section
variable {tg it c : Expr} {ii : II} {ic : IE} {g : TG} {body : List Stmt} {ib : ISs} {pos : Pos}
open Classical in
theorem s_for (hp : PassesOwn (model X.prog X.w) X.A X.env X.xe) (hc : X.calm = true) (hi : XI D X W C tg it ii) (hg : XG D X tg g) (hb : XSs D X W C body ib)
    (hs : ∀ x, foldedSetIterable it X.env x = pure x := by intro _; rfl) : XS D X W C (.For tg it body [] pos) (.forr g ii ib) :=
  PS_imp (ps_for hp hc hi hg hb hs) fun En σ H ⟨rho, env, h, A, q⟩ => ⟨rho, env, h, A.e, A.r, rdI_of (fun Is h' e => evI_chk e) (outR.mono (fun Is H0 rho0 h0 s0 R0 q0 hchk J wk => by
    have A0 := A.step s0 R0
    refine ⟨fun i m σ H => i ≤ Is.xs.length ∧ m = Is.xs.length - i ∧ ∃ rho1 env1 h1, Step H0 rho0 H rho1 ∧ At D none σ H rho1 env1 h1 ∧ Is.chk h1 ∧ outS D none W En H rho1 (forL g (fun env h => evSs C ib env h) Is.chk (Is.xs.drop i) env1 h1), ⟨Is.xs.length, Nat.zero_le _, by simp, rho0, env, h0, Step.rfl, A0, hchk, q0⟩, ?_⟩
    rintro i m σ H ⟨hi, rfl, rho1, env1, h1, s1, A1, hc1, q1⟩
    by_cases hl : i < Is.xs.length
    · have e1 : Is.xs[i]? = some Is.xs[i] := List.getElem?_eq_getElem hl
      obtain ⟨hgo, hy⟩ := wk.go i H rho1 h1 _ s1 A1.r hc1 e1
      refine .inr ⟨hgo, fun σ' H' => ∃ rho1 env1 h1, Step H0 rho0 H' rho1 ∧ At D none σ' H' rho1 env1 h1 ∧ Is.chk h1 ∧ outS D none W En H' rho1 (forL g (fun env h => evSs C ib env h) Is.chk (Is.xs.drop (i + 1)) env1 h1), fun σ' H' ⟨r2, e2, h2, s2, A2, c2, q2⟩ => ⟨Is.xs.length - (i + 1), by omega, hl, rfl, r2, e2, h2, s2, A2, c2, q2⟩, fun x H' hx => ?_⟩
      obtain ⟨sx, Rx, px⟩ := hy x H' hx
      rw [List.drop_eq_getElem_cons hl] at q1
      have q2 : outS D none W En H rho1 (match g.asg Is.xs[i] env1 with
        | none => .stuck
        | some e1 => match evSs C ib e1 h1 with
          | .next e2 h2 => if Is.chk h2 then forL g (fun env h => evSs C ib env h) Is.chk (Is.xs.drop (i + 1)) e2 h2 else .stuck
          | .cont e2 h2 => if Is.chk h2 then forL g (fun env h => evSs C ib env h) Is.chk (Is.xs.drop (i + 1)) e2 h2 else .stuck
          | .brk e2 h2 => .next e2 h2
          | r => r) := q1
      cases ha : g.asg Is.xs[i] env1 with
      | none => rw [ha] at q2; exact q2.elim
      | some e1 =>
        rw [ha] at q2
        dsimp only at q2
        refine ⟨rho1, env1, h1, _, e1, ⟨A1.e.step sx, Rx⟩, px, ha, fun σ' r _ => ⟨rho1, e1, h1, ⟨r, Rx⟩, ?_⟩⟩
        cases hbd : evSs C ib e1 h1 with
        | next e2 h2 =>
          rw [hbd] at q2
          dsimp only at q2
          by_cases hk : Is.chk h2
          · rw [if_pos hk] at q2
            exact fun σ2 H2 r2 s2 A2 => ⟨r2, e2, h2, (s1.trans sx).trans s2, A2, hk, outS.step (sx.trans s2) q2⟩
          · rw [if_neg hk] at q2; exact q2.elim
        | cont e2 h2 =>
          rw [hbd] at q2
          dsimp only at q2
          by_cases hk : Is.chk h2
          · rw [if_pos hk] at q2
            exact fun σ2 H2 r2 s2 A2 => ⟨r2, e2, h2, (s1.trans sx).trans s2, A2, hk, outS.step (sx.trans s2) q2⟩
          · rw [if_neg hk] at q2; exact q2.elim
        | brk e2 h2 =>
          rw [hbd] at q2
          exact fun σ2 H2 r2 s2 A2 => q2 σ2 H2 r2 (sx.trans s2) A2
        | ret m t h2 =>
          rw [hbd] at q2
          exact fun H2 r2 v s2 R2 p2 => q2 H2 r2 v (sx.trans s2) R2 p2
        | exc c t e2 h2 =>
          rw [hbd] at q2
          exact fun σ2 H2 r2 cls d s2 A2 x2 => q2 σ2 H2 r2 cls d (sx.trans s2) A2 x2
        | stuck => rw [hbd] at q2; exact q2.elim
    · have e : i = Is.xs.length := by omega
      subst e
      rw [List.drop_length] at q1
      exact .inl ⟨wk.stop _ H rho1 h1 s1 A1.r hc1 (Nat.le_refl _), nx_ok A1 q1⟩) (sR A q))⟩
theorem s_whl (hp : PassesOwn (model X.prog X.w) X.A X.env X.xe) (hc : XB D X W C c ic) (hb : XSs D X W C body ib) : XS D X W C (.While c body [] pos) (.whl ic ib) :=
  PS_imp (ps_while hp hc hb) fun En σ H ⟨rho, env, h, A, q⟩ => by
    refine ⟨fun m σ H => ∃ rho1 env1 h1, At D none σ H rho1 env1 h1 ∧ outS D none W En H rho1 (whlL (fun env h => evB C ic env h) (fun env h => evSs C ib env h) m env1 h1), ⟨whlFuel, rho, env, h, A, q⟩, ?_⟩
    rintro m σ H ⟨rho1, env1, h1, A1, q1⟩
    cases m with
    | zero => exact q1.elim
    | succ n =>
      have q2 : outS D none W En H rho1 (match evB C ic env1 h1 with
        | .ok true h1 => match evSs C ib env1 h1 with
          | .next e2 h2 => whlL (fun env h => evB C ic env h) (fun env h => evSs C ib env h) n e2 h2
          | .cont e2 h2 => whlL (fun env h => evB C ic env h) (fun env h => evSs C ib env h) n e2 h2
          | .brk e2 h2 => .next e2 h2
          | r => r
        | .ok false h1 => .next env1 h1
        | .exc k v h1 => .exc k v env1 h1
        | .stuck => .stuck) := q1
      refine ⟨rho1, env1, h1, A1.e, A1.r, ?_⟩
      cases hcd : evB C ic env1 h1 with
      | exc k v h2 =>
        rw [hcd] at q2
        exact fun H2 r2 cls d s2 R2 x2 => q2 σ H2 r2 cls d s2 (A1.step s2 R2) x2
      | stuck => rw [hcd] at q2; exact q2.elim
      | ok k h2 =>
        rw [hcd] at q2
        intro H2 r2 s2 R2
        cases k with
        | false =>
          rw [if_neg (by decide)]
          exact q2 σ H2 r2 s2 (A1.step s2 R2)
        | true =>
          rw [if_pos rfl]
          dsimp only at q2
          refine ⟨fun σ' H' => ∃ rho1 env1 h1, At D none σ' H' rho1 env1 h1 ∧ outS D none W En H' rho1 (whlL (fun env h => evB C ic env h) (fun env h => evSs C ib env h) n env1 h1), fun σ' H' w => ⟨n, Nat.lt_succ_self _, w⟩, r2, env1, h2, A1.step s2 R2, ?_⟩
          cases hbd : evSs C ib env1 h2 with
          | next e3 h3 =>
            rw [hbd] at q2
            exact fun σ3 H3 r3 s3 A3 => ⟨r3, e3, h3, A3, outS.step (s2.trans s3) q2⟩
          | cont e3 h3 =>
            rw [hbd] at q2
            exact fun σ3 H3 r3 s3 A3 => ⟨r3, e3, h3, A3, outS.step (s2.trans s3) q2⟩
          | brk e3 h3 =>
            rw [hbd] at q2
            exact fun σ3 H3 r3 s3 A3 => q2 σ3 H3 r3 (s2.trans s3) A3
          | ret m t h3 =>
            rw [hbd] at q2
            exact fun H3 r3 v s3 R3 p3 => q2 H3 r3 v (s2.trans s3) R3 p3
          | exc c t e3 h3 =>
            rw [hbd] at q2
            exact fun σ3 H3 r3 cls d s3 A3 x3 => q2 σ3 H3 r3 cls d (s2.trans s3) A3 x3
          | stuck => rw [hbd] at q2; exact q2.elim
end

section
variable {a b c e : Expr} {ia ib ic ie : IE} {pos p2 : Pos} {st : Stmt} {i : IS} {sts stb : List Stmt} {is isb : ISs}
theorem ss_nil : PSs X [] (rdS D sx W (evSs C .nil)) := PSs_imp pss_nil fun En σ H ⟨rho, env, h, A, q⟩ => nx_ok A q
theorem ss_cons (h1 : PS X st (rdS D sx W (evS C i))) (h2 : PSs X sts (rdS D sx W (evSs C is))) : PSs X (st :: sts) (rdS D sx W (evSs C (.cons i is))) :=
  PSs_imp (pss_cons h1 h2) fun En σ H ⟨rho, env, h, A, q⟩ => by
    have q' : outS D sx W En H rho (match evS C i env h with
      | .next e1 h1 => evSs C is e1 h1
      | q => q) := q
    refine ⟨rho, env, h, A, ?_⟩
    cases he : evS C i env h with
    | next e1 h1 =>
      rw [he] at q'
      exact fun σ' H' r' s' A' => ⟨r', e1, h1, A', outS.step s' q'⟩
    | stuck => rw [he] at q'; exact q'.elim
    | brk e1 h1 => rw [he] at q'; exact q'
    | cont e1 h1 => rw [he] at q'; exact q'
    | ret m t h1 => rw [he] at q'; exact q'
    | exc c t e1 h1 => rw [he] at q'; exact q'
theorem s_pass : PS X (.Pass pos) (rdS D sx W (evS C .pass)) := PS_imp ps_pass fun En σ H ⟨rho, env, h, A, q⟩ => nx_ok A q
theorem s_doc {x : Str} {j : Nat} : XS D X W C (.Expr (.Constant (.str x) j pos) p2) .pass := PS_imp ps_doc fun En σ H ⟨rho, env, h, A, q⟩ => nx_ok A q
theorem s_brk : XS D X W C (.Break pos) .brk := PS_imp ps_break fun En σ H ⟨rho, env, h, A, q⟩ => q σ H rho Step.rfl A
theorem s_cont : XS D X W C (.Continue pos) .cont := PS_imp ps_continue fun En σ H ⟨rho, env, h, A, q⟩ => q σ H rho Step.rfl A
theorem s_ex (he : XP D X W C e ie) (hs : swapsWith e none pos.line X.env = pure false := by rfl) : XS D X W C (.Expr e pos) (.ex ie) :=
  PS_imp (ps_expr he hs) fun En σ H ⟨rho, env, h, A, q⟩ => ⟨rho, env, h, A.e, A.r, sRv A q fun t H' r' h' v A' s' p' q' => nx_ok A' q'⟩
theorem asg_ok {g : TG} {x : V} {t : T} (A : At D sx σ H rho env h) (p : Rp D sx H rho x t) (q : outS D sx W En H rho (match g.asg t env with
    | some e1 => RS.next e1 h
    | none => .stuck)) : rdG D sx g x σ H En.nx := by
  cases ha : g.asg t env with
  | none => rw [ha] at q; exact q.elim
  | some e1 => rw [ha] at q; exact ⟨rho, env, h, t, e1, A, p, ha, fun σ' r _ => q σ' H rho Step.rfl ⟨r, A.r⟩⟩
theorem s_asg {tg : Expr} {g : TG} (he : XP D X W C e ie) (hg : XG D X tg g) (hs : swapsWithSole [tg] e pos.line X.env = pure false := by rfl) (hw : swappedStores [tg] e X.env = pure none := by rfl)
    (h1 : (assignEach [tg] X.env).map (·.2) = [assign tg X.env] := by rfl) : XS D X W C (.Assign [tg] e pos) (.asg g ie) :=
  PS_imp (ps_asg he hg hs hw h1) fun En σ H ⟨rho, env, h, A, q⟩ => ⟨rho, env, h, A.e, A.r, sRv A q fun t H' r' h' v A' s' p' q' => asg_ok A' p' q'⟩
theorem s_if (hc : XB D X W C c ic) (ha : XSs D X W C sts is) (hb : XSs D X W C stb isb) : XS D X W C (.If c sts stb pos) (.ife ic is isb) :=
  PS_imp (ps_if hc ha hb) fun En σ H ⟨rho, env, h, A, q⟩ => ⟨rho, env, h, A.e, A.r, sRb A q fun k H' r' h' A' s' q' => by
    cases k with
    | true => rw [if_pos rfl]; exact ⟨r', env, h', A', q'⟩
    | false => rw [if_neg (by decide)]; exact ⟨r', env, h', A', q'⟩⟩
theorem s_retN : XS D X W C (.Return none pos) .retN := PS_imp ps_retN fun En σ H ⟨rho, env, h, A, q⟩ => q H rho .non Step.rfl A.r .non
theorem s_ret (he : XP D X W C e ie) : XS D X W C (.Return (some e) pos) (.ret false ie) :=
  PS_imp (ps_ret he) fun En σ H ⟨rho, env, h, A, q⟩ => ⟨rho, env, h, A.e, A.r, sRv A q fun t H' r' h' v A' s' p' q' => by
    have q2 : outS D none W En H' r' (.ret none t h') := q'
    exact q2 H' r' v Step.rfl A'.r p'⟩
theorem frz_plain {n0 : Nat} : ∀ (d : Nat) {t t' : T} {v : V}, frzV n0 h d t = some t' → Rp D sx H rho v t → Rp D none H rho v t := by
  have und : ∀ {t t' : T} {v : V}, (if t.und n0 = true then some t else none) = some t' → Rp D sx H rho v t → Rp D none H rho v t := fun {t t' v} e p => by
    split at e
    · rename_i c
      exact (p.cutR c).stepK ⟨fun _ _ e _ => e, rho.drop n0, by rw [List.take_append_drop]⟩
    · cases e
  intro d
  induction d with
  | zero => intro t t' v e p; exact und e p
  | succ d ih =>
    intro t t' v e p
    cases t with
    | ref n =>
      cases p with
      | ref r => exact .ref r
    | tup xs =>
      have e' : (xs.mapM (frzV n0 h d)).map .tup = some t' := e
      cases p with
      | tup q l =>
        refine .tup q ?_
        cases e1 : xs.mapM (frzV n0 h d) with
        | none => rw [e1] at e'; cases e'
        | some ys =>
          clear e e' q
          rename_i a vs
          induction xs generalizing vs ys with
          | nil => cases l; exact .nil
          | cons x xs ihx =>
            rw [List.mapM_cons] at e1
            cases l with
            | cons p0 l =>
              cases ex : frzV n0 h d x with
              | none => rw [ex] at e1; cases e1
              | some y =>
                rw [ex] at e1
                cases ey : xs.mapM (frzV n0 h d) with
                | none => rw [ey] at e1; cases e1
                | some zs => exact .cons (ih ex p0) (ihx l zs ey)
    | _ => exact und e p
theorem s_retF (he : PE X e (rdE D sx W (evE C ie))) : PS X (.Return (some e) pos) (rdS D sx W (evS C (.ret true ie))) := by
  refine ⟨fun pins s σ H En I ⟨rho, env, h, A, q⟩ => ?_⟩
  have hw := he.run pins s σ H (fun v H1 => ∃ rho1 h1 t, RelH D H1 rho1 h1 ∧ Rp D sx H1 rho1 v t ∧ outS D sx W En H1 rho1 (match frzV C.n0 h1 4 t with
      | some t' => RS.ret (some C.n0) t' h1
      | none => .stuck)) I ⟨rho, env, h, A.e, A.r, sRv A q fun t H' r' h' v A' s' p' q' => ⟨r', h', t, A'.r, p', q'⟩⟩
  refine wpAny_Return_some (thn hw fun u s1 ⟨v, H1, I1, rv, rho1, h1, t, R1, p1, q1⟩ => ?_)
  cases hf : frzV C.n0 h1 4 t with
  | none => rw [hf] at q1; exact q1.elim
  | some t' =>
    rw [hf] at q1
    obtain ⟨H2, I2, f2, p2, u2⟩ := frz_ok 4 hf (R1.f C.n0) (frz_plain 4 hf p1) I1
    exact ⟨v, σ, H2, I2, rv, q1 H2 rho1 v f2.step (RelF.frz (R1.f C.n0) f2).k p2⟩
theorem s_aug {i : Nat} {o : Bo} {x : Str} {pos' : Pos} (hN : X.N.Nodup) (hi : X.N[i]? = some x) (hx : Loc X.env.scope x) (he : XP D X W C e ie) (ho : PIp X (opS o) (fun x y H Q => ∃ (W : WX) (σ : L2.St) (rho : Rho) (h : AH) (t t' : T), RelH D H rho h ∧ Rp D none H rho x t ∧ Rp D none H rho y t' ∧ outE D none W σ H rho Q (binT false o t t' h)))
    (hf : X.fn x = true ∨ X.env.scope.names.lookup x = some .local) : XS D X W C (.AugAssign (.Name x pos') (opS o) e pos) (.aug i o ie) :=
  PS_imp (ps_aug hN hi hx he ho hf) fun En σ H ⟨rho, env, h, A, q⟩ => by
    have q' : outS D none W En H rho (match env[i]? with
      | some (some x) => ((evE C ie env h).bind fun y h1 => binT false o x y h1).toS (fun c v h1 => .exc c v env h1) .stuck fun z h1 => RS.next (env.set i (some z)) h1
      | _ => .stuck) := q
    cases he : env[i]? with
    | none => rw [he] at q'; exact q'.elim
    | some ov =>
      cases ov with
      | none => rw [he] at q'; exact q'.elim
      | some t =>
        rw [he] at q'
        obtain ⟨v, ev, pv⟩ := A.e.2 i t he
        refine ⟨v, ev, rho, env, h, A.e, A.r, rd_bind A (sR A q') fun t2 H' r' h' v2 A' s' p' q2 => ⟨W, σ, r', h', t, t2, A'.r, pv.step s', p', ?_⟩⟩
        show outR D W σ H' r' (fun z H2 r2 _ => ∀ w, Rp D none H2 r2 w z → En.nx (σ.set i (some w)) H2) _
        exact outR.mono (fun z H2 r2 h2 s2 R2 q3 (w : V) (pw : Rp D none H2 r2 w z) => q3 _ H2 r2 Step.rfl ⟨(A'.e.step s2).set i pw, R2⟩) q2
end
end PS
end
section
set_option maxRecDepth 100000
set_option maxHeartbeats 2000000
namespace PS
open PySem PySem.Spec PyProof.Rows L2
variable {D : Wd} {X : Cx} {C : Ctx} {W : WX} {sx : Sx} {σ σ2 : L2.St} {H H' : Hp} {rho rho' : Rho} {env : Env} {h h' : AH} {pins : List (Addr × Obj)} {s : Shared} {En : Ends}

theorem isB_bind_not (r : R T) : ((r.isB).bind fun b h1 => R.ok (T.bl (!b)) h1).isB = (r.isB).bind fun b h1 => R.ok (!b) h1 := by
  cases r with
  | ok t h1 =>
    show ((R.of (truT h1 t) h1).bind fun b h1 => R.ok (T.bl (!b)) h1).isB = (R.of (truT h1 t) h1).bind fun b h1 => R.ok (!b) h1
    cases truT h1 t <;> rfl
  | exc _ _ _ => rfl
  | stuck => rfl
theorem evB_eq (C : Ctx) : ∀ (c : IE) (env : Env) (h : AH), evB C c env h = (evE C c env h).isB
  | .not a, env, h => by
    show (evB C a env h).bind (fun b h1 => R.ok (!b) h1) = (((evE C a env h).isB).bind fun b h1 => R.ok (T.bl (!b)) h1).isB
    rw [isB_bind_not, evB_eq C a]
  | .and a b, env, h => by
    show (evB C a env h).bind (fun k h1 => match k with | true => evB C b env h1 | false => R.ok false h1) = ((evE C a env h).bind fun x h1 => (R.of (truT h1 x) h1).bind fun k h2 => match k with | true => evE C b env h2 | false => R.ok x h2).isB
    rw [evB_eq C a]
    cases evE C a env h with
    | ok t h1 =>
      show (R.of (truT h1 t) h1).bind (fun k h1 => match k with | true => evB C b env h1 | false => R.ok false h1) = ((R.of (truT h1 t) h1).bind fun k h2 => match k with | true => evE C b env h2 | false => R.ok t h2).isB
      cases ht : truT h1 t with
      | none => rfl
      | some k =>
        cases k with
        | true => exact evB_eq C b env h1
        | false =>
          show R.ok false h1 = (R.ok t h1).isB
          show R.ok false h1 = R.of (truT h1 t) h1
          rw [ht]; rfl
    | exc _ _ _ => rfl
    | stuck => rfl
  | .or a b, env, h => by
    show (evB C a env h).bind (fun k h1 => match k with | true => R.ok true h1 | false => evB C b env h1) = ((evE C a env h).bind fun x h1 => (R.of (truT h1 x) h1).bind fun k h2 => match k with | true => R.ok x h2 | false => evE C b env h2).isB
    rw [evB_eq C a]
    cases evE C a env h with
    | ok t h1 =>
      show (R.of (truT h1 t) h1).bind (fun k h1 => match k with | true => R.ok true h1 | false => evB C b env h1) = ((R.of (truT h1 t) h1).bind fun k h2 => match k with | true => R.ok t h2 | false => evE C b env h2).isB
      cases ht : truT h1 t with
      | none => rfl
      | some k =>
        cases k with
        | false => exact evB_eq C b env h1
        | true =>
          show R.ok true h1 = R.of (truT h1 t) h1
          rw [ht]; rfl
    | exc _ _ _ => rfl
    | stuck => rfl
  | .cst _, _, _ => rfl
  | .var _, _, _ => rfl
  | .glb _ _, _, _ => rfl
  | .bin _ _ _ _, _, _ => rfl
  | .neg _, _, _ => rfl
  | .cmp _ _ _, _, _ => rfl
  | .chain _ _ _ _ _, _, _ => rfl
  | .ite _ _ _, _, _ => rfl
  | .tup _, _, _ => rfl
  | .lst _ _, _, _ => rfl
  | .dic _ _, _, _ => rfl
  | .kin _ _ _ _, _, _ => rfl
  | .kget _ _ _, _, _ => rfl
  | .idx _ _, _, _ => rfl
  | .slc _ _ _ _, _, _ => rfl
  | .rev _ _, _, _ => rfl
  | .fld _ _ _, _, _ => rfl
  | .fle _ _, _, _ => rfl
  | .xmk _ _, _, _ => rfl
  | .xfl _ _, _, _ => rfl
  | .xio _ _, _, _ => rfl
  | .xis _ _, _, _ => rfl
  | .cmpi _ _ _, _, _ => rfl
  | .call _ _, _, _ => rfl
  | .mk _ _ _, _, _ => rfl
  | .met _ _ _ _ _, _, _ => rfl
  | .bf _ _ _, _, _ => rfl
  | .bm _ _ _ _, _, _ => rfl
  | .isi _ _, _, _ => rfl
  | .eqo _ _ _ _ _, _, _ => rfl
  | .comp _ _ _ _ _ _, _, _ => rfl
  | .dcomp _ _ _ _ _, _, _ => rfl
  | .bad, _, _ => rfl

def noW : WX := fun _ _ _ _ => False
theorem RelH.aside (R : RelH D H rho h) {p : Addr} {o u : HO} (np : p ∉ rho) (e : H p = some u) (su : stays u = false) : RelH D (upd H p o) rho h :=
  ⟨R.len, R.nd, fun n a c e1 e2 => (R.cell n a c e1 e2).stepK (Keep.set e su) (upd_ne fun z => np (by rw [← z]; exact List.mem_of_getElem? e1))⟩
theorem RelH.enter (R : RelH D H rho h) {p : Addr} {c : Cell} (np : p ∉ rho) (hc : CellR D H (rho ++ [p]) p c) : RelH D H (rho ++ [p]) (h ++ [c]) := by
  have kp : Keep H rho H (rho ++ [p]) := ⟨fun _ _ e _ => e, [p], rfl⟩
  refine ⟨by simp [R.len], ?_, fun m a c' e1 e2 => ?_⟩
  · rw [List.nodup_append]
    refine ⟨R.nd, by simp, fun x hx y hy z => ?_⟩
    simp at hy
    subst hy
    subst z
    exact np hx
  · by_cases hm : m < rho.length
    · rw [List.getElem?_append_left hm] at e1
      rw [List.getElem?_append_left (by rw [← R.len]; exact hm)] at e2
      exact (R.cell m a c' e1 e2).stepK kp rfl
    · have hm2 : m = rho.length := by
        have := (List.getElem?_eq_some_iff.mp e1).1
        simp at this; omega
      subst hm2
      rw [List.getElem?_append_right (Nat.le_refl _)] at e1
      rw [R.len, List.getElem?_append_right (Nat.le_refl _)] at e2
      simp at e1 e2
      subst e1; subst e2
      exact hc
theorem comp_end {H0 : Hp} {rho0 : Rho} {Q : VK} {m : Bool} {ts : List T} {acc : List V} {p : Addr} (s0 : Step H0 rho0 H rho) (np : p ∉ rho) (n0 : H0 p = none) (e : H p = some (.lst acc)) (R : RelH D H rho h) (l : RpL D none H rho acc ts)
    (q : outE D none W σ H0 rho0 Q (fresh m ts h)) : FrzQ Q (.ref p) H := by
  unfold fresh at q
  by_cases hz : ts.length ≤ sizeLine
  · rw [if_pos hz] at q
    cases m with
    | true =>
      rw [if_pos rfl] at q
      have kp : Keep H rho H (rho ++ [p]) := ⟨fun _ _ e _ => e, [p], rfl⟩
      refine .inl (q H (rho ++ [p]) ⟨⟨s0.k.1, ?_⟩, s0.out, s0.there, fun a ma na => ?_⟩ (R.enter np ⟨acc, e, l.stepK kp⟩) _ (.ref ?_))
      · obtain ⟨t, ht⟩ := s0.k.2
        exact ⟨t ++ [p], by rw [ht]; simp⟩
      · simp only [List.mem_append, List.mem_singleton] at ma
        rcases ma with ma | ma
        · exact s0.new_ a ma na
        · subst ma; exact n0
      · rw [← R.len]; simp
    | false =>
      rw [if_neg (by decide)] at q
      refine .inr ⟨p, _, rfl, e, rfl, fun ob => ?_⟩
      exact q _ rho (s0.beside n0) (R.aside np e rfl) _ (.lst upd_same (l.stepK (Keep.set e rfl)))
  · rw [if_neg hz] at q; exact q.elim
theorem nox_ok {α : Type} {r : R α} {x : α} {h : AH} (e : r.nox = .ok x h) : r = .ok x h := by
  cases r <;> first | exact e | cases e
def okP {α : Type} (P : α → AH → Prop) : R α → Prop
  | .ok x h => P x h
  | _ => False
theorem okP.mono {α : Type} {P P' : α → AH → Prop} (i : ∀ x h, P x h → P' x h) : ∀ {r : R α}, okP P r → okP P' r
  | .ok _ _, q => i _ _ q
  | .exc _ _ _, q => q
  | .stuck, q => q
theorem okP.bind {α β : Type} {P : β → AH → Prop} {k : α → AH → R β} : ∀ {r : R α}, okP P (r.bind k) → okP (fun x h => okP P (k x h)) r
  | .ok _ _, q => q
  | .exc _ _ _, q => q
  | .stuck, q => q
theorem okP.ex {α : Type} {P : α → AH → Prop} : ∀ {r : R α}, okP P r → ∃ x h, r = .ok x h ∧ P x h
  | .ok _ _, q => ⟨_, _, rfl, q⟩
  | .exc _ _ _, q => q.elim
  | .stuck, q => q.elim
theorem fresh_len {Q : VK} {m : Bool} {ts : List T} {H0 : Hp} {rho0 : Rho} (q : outE D none W σ H0 rho0 Q (fresh m ts h)) : ts.length ≤ sizeLine := by
  unfold fresh at q
  by_cases hz : ts.length ≤ sizeLine
  · exact hz
  · rw [if_neg hz] at q; exact q.elim
open Classical in
theorem comp_loop {Q2 : VK} {g : TG} {cond : Env → AH → R Bool} {elt : Env → AH → R T} {own : List Nat} {Is : Items} {m : Bool} {tt : TT} {te : TE} {Q : VK} {J : It} {H0 : Hp} {rho0 : Rho} {h0 : AH} (hs : ∀ i ∈ g.slots, i ∈ own) (A0 : At D none σ H0 rho0 env h0) (wk : Walk D J H0 rho0 Is) (hchk : Is.chk h0)
    (ht : ∀ σ H Q, rdB D none noW cond σ H Q → tt σ H Q) (he : ∀ σ H Q, rdE D none noW elt σ H Q → te σ H Q)
    (q : okP (fun us h' => outE D none W σ H0 rho0 Q (fresh m us h')) (compL g (fun e h => (cond e h).nox) (fun e h => (elt e h).nox) Is.chk Is.xs (wipeE env own) h0)) (hq : ∀ v H, FrzQ Q v H → Q2 v H) (p : Addr) (np : H0 p = none) :
    ∃ W : Nat → Nat → Hp → Prop, (∃ m, W 0 m (upd H0 p (.lst []))) ∧ ∀ i m H, W i m H → (J.stop i H ∧ Q2 (.ref p) H) ∨ (J.go i H ∧ ∃ Nx : Hp → Prop, (∀ H', Nx H' → ∃ m', m' < m ∧ W (i + 1) m' H') ∧ ∀ x H', J.yld i H x H' → rdG D none g x (L2.wipe σ own) H' fun σ2 H2 => L2.wipe σ2 own = L2.wipe σ own ∧ tt σ2 H2 fun b H3 =>
      if b = true then te σ2 H3 fun y H4 => ∃ acc, H4 p = some (.lst acc) ∧ acc.length < sizeLine ∧ Nx (upd H4 p (.lst (acc ++ [y]))) else Nx H3) := by
  have nr0 : p ∉ rho0 := fun z => by
    obtain ⟨o, e, _⟩ := A0.r.mem z
    rw [np] at e; cases e
  let Iv : Nat → Hp → Prop := fun i H => ∃ rho1 h1 acc ts, Step H0 rho0 H rho1 ∧ p ∉ rho1 ∧ H p = some (.lst acc) ∧ RelH D H rho1 h1 ∧ Is.chk h1 ∧ RpL D none H rho1 acc ts ∧
    okP (fun us h' => outE D none W σ H0 rho0 Q (fresh m (ts ++ us) h')) (compL g (fun e h => (cond e h).nox) (fun e h => (elt e h).nox) Is.chk (Is.xs.drop i) (wipeE env own) h1)
  refine ⟨fun i m H => i ≤ Is.xs.length ∧ m = Is.xs.length - i ∧ Iv i H, ⟨Is.xs.length, Nat.zero_le _, by simp, rho0, h0, [], [], Step.rfl.beside np, nr0, upd_same, A0.r.beside np, hchk, .nil, q⟩, ?_⟩
  rintro i m' H ⟨hi, rfl, rho1, h1, acc, ts, s1, np1, ep, R1, hc1, l1, q1⟩
  by_cases hl : i < Is.xs.length
  · have e1 : Is.xs[i]? = some Is.xs[i] := List.getElem?_eq_getElem hl
    obtain ⟨hgo, hy⟩ := wk.go i H rho1 h1 _ s1 R1 hc1 e1
    refine .inr ⟨hgo, Iv (i + 1), fun H' iv => ⟨Is.xs.length - (i + 1), by omega, hl, rfl, iv⟩, fun x H' hx => ?_⟩
    obtain ⟨sy, Ry, px⟩ := hy x H' hx
    rw [List.drop_eq_getElem_cons hl] at q1
    have q2 : okP (fun us h' => outE D none W σ H0 rho0 Q (fresh m (ts ++ us) h')) (match g.asg Is.xs[i] (wipeE env own) with
      | none => .stuck
      | some e1 => ((cond e1 h1).nox).bind fun b h1 => match b with
        | true => ((elt e1 h1).nox).bind fun t h2 => if Is.chk h2 then (compL g (fun e h => (cond e h).nox) (fun e h => (elt e h).nox) Is.chk (Is.xs.drop (i + 1)) (wipeE env own) h2).bind fun ts h3 => .ok (t :: ts) h3 else .stuck
        | false => if Is.chk h1 then compL g (fun e h => (cond e h).nox) (fun e h => (elt e h).nox) Is.chk (Is.xs.drop (i + 1)) (wipeE env own) h1 else .stuck) := q1
    cases ha : g.asg Is.xs[i] (wipeE env own) with
    | none => rw [ha] at q2; exact q2.elim
    | some e1 =>
      rw [ha] at q2
      dsimp only at q2
      have Aw : At D none (L2.wipe σ own) H' rho1 (wipeE env own) h1 := ⟨((A0.e.step s1).step sy).wipe own, Ry⟩
      refine ⟨rho1, wipeE env own, h1, _, e1, Aw, px, ha, fun σ' r b => ⟨?_, ?_⟩⟩
      · rw [b.wipe hs]
        refine List.ext_getElem? fun j => ?_
        rw [wipe_get, wipe_get, L2.wipe_length]
        by_cases hj : j ∈ own
        · rw [if_pos hj, if_pos hj]
        · rw [if_neg hj, if_neg hj]
      · refine ht _ _ _ ⟨rho1, e1, h1, r, Ry, ?_⟩
        have keepP : ∀ {H2 : Hp} {rho2 : Rho}, Step H' rho1 H2 rho2 → p ∉ rho2 ∧ H2 p = some (.lst acc) := fun {H2 rho2} s2 => by
          have ep' : H' p = some (.lst acc) := sy.out p _ ep np1
          refine ⟨fun z => ?_, s2.out p _ ep' np1⟩
          have := s2.new_ p z np1
          rw [ep'] at this; cases this
        obtain ⟨b, h2, ec, q3⟩ := okP.ex (okP.bind q2)
        have ec := nox_ok ec
        rw [ec]
        intro H2 rho2 s2 R2
        cases b with
        | false =>
          rw [if_neg (by decide)]
          by_cases hk : Is.chk h2
          · have q3 : okP _ (if Is.chk h2 then compL g (fun e h => (cond e h).nox) (fun e h => (elt e h).nox) Is.chk (Is.xs.drop (i + 1)) (wipeE env own) h2 else .stuck) := q3
            rw [if_pos hk] at q3
            obtain ⟨a1, a2⟩ := keepP s2
            exact ⟨rho2, h2, acc, ts, (s1.trans sy).trans s2, a1, a2, R2, hk, (l1.step sy).step s2, q3⟩
          · have q3 : okP _ (if Is.chk h2 then compL g (fun e h => (cond e h).nox) (fun e h => (elt e h).nox) Is.chk (Is.xs.drop (i + 1)) (wipeE env own) h2 else .stuck) := q3
            rw [if_neg hk] at q3; exact q3.elim
        | true =>
          rw [if_pos rfl]
          obtain ⟨t, h3, ee, q4⟩ := okP.ex (okP.bind q3)
          have ee := nox_ok ee
          refine he _ _ _ ⟨rho2, e1, h2, r.step s2, R2, ?_⟩
          rw [ee]
          intro H3 rho3 s3 R3 y py
          by_cases hk : Is.chk h3
          · rw [if_pos hk] at q4
            obtain ⟨a1, a2⟩ := keepP (s2.trans s3)
            have l3 : RpL D none H3 rho3 acc ts := ((l1.step sy).step s2).step s3
            have q5 := okP.bind q4
            refine ⟨acc, a2, ?_, rho3, h3, acc ++ [y], ts ++ [t], (((s1.trans sy).trans s2).trans s3).beside np, a1, upd_same, R3.aside a1 a2 rfl, hk, (l3.append (.cons py .nil)).stepK (Keep.set a2 rfl), ?_⟩
            · obtain ⟨us, h4, _, q6⟩ := okP.ex q5
              have := fresh_len q6
              rw [l3.length]
              simp at this
              omega
            · refine okP.mono (fun us h4 q6 => ?_) q5
              rw [List.append_assoc]
              exact q6
          · rw [if_neg hk] at q4; exact q4.elim
  · have e : i = Is.xs.length := by omega
    subst e
    rw [List.drop_length] at q1
    refine .inl ⟨wk.stop _ H rho1 h1 s1 R1 hc1 (Nat.le_refl _), ?_⟩
    have q3 : outE D none W σ H0 rho0 Q (fresh m (ts ++ []) h1) := q1
    rw [List.append_nil] at q3
    exact hq _ _ (comp_end s1 np1 np ep R1 l1 q3)
section
variable {elt tg iter c : Expr} {ifs : List Expr} {scope : Scope} {own : List (Str × Nat)} {pos : Pos} {ii : II} {g : TG} {io : IO} {ie ic : IE} {m : Bool}
inductive XTs (D : Wd) (X : Cx) (C : Ctx) : List Expr → IO → Prop
  | nil : XTs D X C [] .none
  | one {c : Expr} {ic : IE} (h : XB D X noW C c ic) : XTs D X C [c] (.some ic)
noncomputable def condOf (C : Ctx) : IO → Env → AH → R Bool
  | .none => fun _ h => .ok true h
  | .some c => fun env h => (evE C c env h).isB
theorem xts_pts (h : XTs D X C ifs io) : PTs X ifs (rdB D none noW (condOf C io)) := by
  cases h with
  | nil => exact ⟨fun pins s σ H Q I ⟨rho, env, h, e, r, q⟩ => pts_nil.run pins s σ H Q I (q H rho Step.rfl r)⟩
  | one hc =>
    rename_i c ic
    refine ⟨fun pins s σ H Q I ⟨rho, env, h, e, r, q⟩ => (pts_one hc).run pins s σ H Q I ⟨rho, env, h, e, r, ?_⟩⟩
    rw [evB_eq]
    exact q
theorem comp_rd0 {Q Q2 : VK} {cd : Env → AH → R Bool} (hs : ∀ i ∈ g.slots, i ∈ own.map (·.2)) (hq : ∀ v H, FrzQ Q v H → Q2 v H) (e : RelE D none H rho σ env) (r : RelH D H rho h)
    (q : outE D none W σ H rho Q ((evI C ii env h).bind fun I h1 => ((compL g (fun e h => (cd e h).nox) (fun env h => (evE C ie env h).nox) I.chk I.xs (wipeE env (own.map (·.2))) h1).nox.bind fun ts h2 => fresh m ts h2))) :
    tLc (rdI D W (evI C ii)) (rdG D none g) (rdB D none noW cd) (rdE D none noW (evE C ie)) (own.map (·.2)) σ H Q2 := by
  refine ⟨rho, env, h, e, r, rdI_of (fun Is h' e => evI_chk e) ?_⟩
  refine outR.mono (fun Is H0 rho0 h0 s0 R0 q0 hchk J wk p np => ?_) (outR.bind q)
  refine comp_loop (m := m) (W := W) hs ⟨e.step s0, R0⟩ wk hchk (fun _ _ _ q => q) (fun _ _ _ q => q) ?_ hq p np
  generalize compL g (fun e h => (cd e h).nox) (fun env h => (evE C ie env h).nox) Is.chk Is.xs (wipeE env (own.map (·.2))) h0 = r at q0 ⊢
  cases r with
  | ok us h1 => exact q0
  | exc _ _ _ => exact q0.elim
  | stuck => exact q0.elim
theorem comp_rd {Q2 : VK} (hs : ∀ i ∈ g.slots, i ∈ own.map (·.2)) : ∀ σ H Q, (∀ v H, FrzQ Q v H → Q2 v H) → rdE D none W (evE C (.comp m (own.map (·.2)) g ii io ie)) σ H Q → tLc (rdI D W (evI C ii)) (rdG D none g) (rdB D none noW (condOf C io)) (rdE D none noW (evE C ie)) (own.map (·.2)) σ H Q2 := by
  intro σ H Q hq hw
  obtain ⟨rho, env, h, e, r, q⟩ := hw
  cases io with
  | none => exact comp_rd0 (cd := condOf C .none) hs hq e r q
  | some c => exact comp_rd0 (cd := condOf C (.some c)) hs hq e r q
theorem x_comp (hc : X.calm = true) (hN : X.N.Nodup) (hi : XI D X W C tg iter ii) (ok : BlkOk X.N X.env.scope scope own) (hs : ∀ i ∈ g.slots, i ∈ own.map (·.2))
    (hg : ∀ (s : Shared) (H : Hp) (A : Addr) (cl : List (Str × Addr)) (fp : List Addr), XG D (X.blk s H scope (compEnvC scope cl A X.env) fp) tg g) (ht : ∀ (s : Shared) (H : Hp) (A : Addr) (cl : List (Str × Addr)) (fp : List Addr), XTs D (X.blk s H scope (compEnvC scope cl A X.env) fp) C ifs io)
    (he : ∀ (s : Shared) (H : Hp) (A : Addr) (cl : List (Str × Addr)) (fp : List Addr), XP D (X.blk s H scope (compEnvC scope cl A X.env) fp) noW C elt ie) (hf : ∀ x, foldedSetIterable iter X.env x = pure x := by intro _; rfl) :
    XP D X W C (.ListComp elt [⟨tg, iter, ifs, 0⟩] scope pos) (.comp m (own.map (·.2)) g ii io ie) :=
  PE_imp (PE_frz (pe_lc hc hN hi ok hg (fun s H A cl fp => xts_pts (ht s H A cl fp)) he hf)) (fun σ H Q q => comp_rd hs σ H Q (fun _ _ q => q) q)
theorem s_comp {i : Nat} {y : Str} {py spos : Pos} (hc : X.calm = true) (hN : X.N.Nodup) (hy : X.N[i]? = some y) (hyl : X.env.scope.names.lookup y = some .local)
    (hsw : swapsWith (.ListComp elt [⟨tg, iter, ifs, 0⟩] scope pos) (some (.Name y py)) spos.line X.env = pure true) (hi : XI D X W C tg iter ii) (ok : BlkOk X.N X.env.scope scope own) (hs : ∀ i ∈ g.slots, i ∈ own.map (·.2))
    (hg : ∀ (s : Shared) (H : Hp) (A : Addr) (cl : List (Str × Addr)) (fp : List Addr), XG D (X.blk s H scope (compEnvC scope cl A X.env) fp) tg g) (ht : ∀ (s : Shared) (H : Hp) (A : Addr) (cl : List (Str × Addr)) (fp : List Addr), XTs D (X.blk s H scope (compEnvC scope cl A X.env) fp) C ifs io)
    (he : ∀ (s : Shared) (H : Hp) (A : Addr) (cl : List (Str × Addr)) (fp : List Addr), XP D (X.blk s H scope (compEnvC scope cl A X.env) fp) noW C elt ie) (hf : ∀ x, foldedSetIterable iter X.env x = pure x := by intro _; rfl) :
    XS D X W C (.Assign [.Name y py] (.ListComp elt [⟨tg, iter, ifs, 0⟩] scope pos) spos) (.asg (.nm i) (.comp m (own.map (·.2)) g ii io ie)) := by
  refine ⟨fun pins s σ H En I ⟨rho, env, h, A, q⟩ => ?_⟩
  have q1 : rdE D none W (evE C (.comp m (own.map (·.2)) g ii io ie)) σ H (fun x H1 => En.nx (σ.set i (some x)) H1) := ⟨rho, env, h, A.e, A.r, sRv A q fun t H' r' h' v A' s' p' q' => q' _ H' r' Step.rfl ⟨A'.e.set i p', A'.r⟩⟩
  have q2 := comp_rd (D := D) (own := own) (Q2 := fun x H1 => ∃ v, σ.set i (some x) = σ.set i (some v) ∧ FrzQ (fun x H1 => En.nx (σ.set i (some x)) H1) v H1) hs σ H _ (fun v H q => ⟨v, rfl, q⟩) q1
  have hp := (ps_setLc hc hN hy hyl hsw hi ok hg (fun s H A cl fp => xts_pts (ht s H A cl fp)) he hf).run pins s σ H { En with nx := fun σ' H' => ∃ v, σ' = σ.set i (some v) ∧ FrzQ (fun x H1 => En.nx (σ.set i (some x)) H1) v H' } I q2
  refine thn hp fun f s1 sp => ?_
  cases f with
  | next =>
    obtain ⟨σ', H', I', v, rfl, q3⟩ := sp
    rcases q3 with q3 | ⟨p, u, rfl, e, f, q3⟩
    · exact ⟨_, H', I', q3⟩
    · obtain ⟨o, J⟩ := Inv.freeze I' e f
      exact ⟨_, _, J, q3 o⟩
  | brk => exact sp
  | cont => exact sp
  | ret u => exact sp
end
end PS
end
section
set_option maxRecDepth 100000
set_option maxHeartbeats 2000000
namespace PS
open PySem PySem.Spec PyProof.Rows L2
variable {D : Wd} {X : Cx} {C : Ctx} {W : WX} {sx : Sx} {σ σ2 : L2.St} {H H' : Hp} {rho rho' : Rho} {env : Env} {h h' : AH} {pins : List (Addr × Obj)} {s : Shared} {En : Ends}

def spX (D : Wd) (c : Nat) : Sp := fun vs H Q _ => ∃ a v, vs = [.ref a, v] ∧ H a = some (exo a (D.xa c) none) ∧ ∀ dx, H dx = none → dx ≠ a → Q .non (upd (upd H dx (exd dx [(D.xf c, v)])) a (exo a (D.xa c) (some dx)))
structure ErrOk (D : Wd) (X : Cx) (c : Nat) : Prop where
  lt : c < D.nx
  oc : OexC X.K (D.xa c)
  ini : ∃ fI, PySem.W.findIn X.K (.ref (D.xa c)) "__init__" = some (some (.ref fI)) ∧ PySem.W.typeIn X.K (.ref fI) = some (.type "function") ∧ ∃ k fd ps, FnOk X.prog X.w X.K X.mg X.base (L2.CX X.prog X.w) k fI fd ps (spX D c) ∧ Room (k + 1) X.A ∧ Binds X.K fd ps []
theorem s_raise {c : Nat} {e : Expr} {ie : IE} {x : Str} {p pos pos2 : Pos} (hc : X.calm = true) (tk : Takes X W) (T : ErrOk D X c) (he : XP D X W C e ie) (hg : Gl X x) (hm : X.mg x = some (.ref (D.xa c)))
    (hdb : (x == ("__debug__" : Str)) = false := by decide) (hs : starEach (e :: []) X.env = (false, eval e X.env) :: starEach [] X.env := by rfl) (hpl : (backTo pos (starEach [] X.env)).any (·.1) = false := by rfl) :
    XS D X W C (.Raise (some (.Call (.Name x p) [e] [] pos)) none pos2) (.rais c ie) := by
  obtain ⟨fI, i1, i2, k, fd, ps, F, hr, hb⟩ := T.ini
  have ha : XL D X W C [e] (.cons ie .nil) := x_cons he x_nil hs
  refine PS_imp (ps_raise hc tk (pmk_oex (CX := L2.CX X.prog X.w) (ds := []) (dvs := []) T.oc i1 i2 F hr hb .nil (fun pins σ H s e s' I c => passAt takes_none5 σ pins H s e s' I c) hg hm ha hdb hs hpl)) fun En σ H ⟨rho, env, h, A, q⟩ => ?_
  refine ⟨rho, env, h, A.e, A.r, ?_⟩
  show outR D W σ H rho _ ((evE C ie env h).bind fun x h1 => R.ok [x] h1)
  have q' : outS D none W En H rho ((evE C ie env h).toS (fun c v h1 => .exc c v env h1) .stuck fun t h1 => RS.exc c t env h1) := q
  generalize evE C ie env h = r at q' ⊢
  cases r with
  | exc c v h1 => exact fun H' r' cls d s R x => q' σ H' r' cls d s (A.step s R) x
  | stuck => exact q'
  | ok t h1 =>
    intro H1 rho1 s1 R1 vs l
    obtain ⟨v, rfl, pv⟩ := rpl1 l
    refine ⟨by show 1 ≤ 1000; decide, fun a na => ⟨a, v, rfl, upd_same, fun dx ndx dne => ⟨rfl, dx, [(D.xf c, v)], upd_same, ?_, ?_, ?_⟩⟩⟩
    · rw [upd_ne dne, upd_same]
    · rwa [upd_ne dne] at ndx
    · have n1 : H1 dx = none := by rwa [upd_ne dne] at ndx
      have eqH : upd (del (upd (upd (upd H1 a (exo a (D.xa c) none)) dx (exd dx [(D.xf c, v)])) a (exo a (D.xa c) (some dx))) a) dx (.xd [(D.xf c, v)]) = upd H1 dx (.xd [(D.xf c, v)]) := by
        funext b
        by_cases hb : b = dx
        · subst hb; rw [upd_same, upd_same]
        · rw [upd_ne hb, upd_ne hb]
          by_cases ha : b = a
          · subst ha; rw [del_same, na]
          · rw [del_ne ha, upd_ne ha, upd_ne hb, upd_ne ha]
      rw [eqH]
      have st := Step.new (H := H1) (r := rho1) (o := HO.xd [(D.xf c, v)]) n1
      exact q' σ _ rho1 _ _ (s1.trans st) ((A.step s1 R1).step st (R1.beside n1)) ⟨dx, v, T.lt, rfl, rfl, upd_same, pv.step st⟩

abbrev HdS := Value × Nat × (Addr → Value → Option Addr → TS)
def gone (i : Nat) (E : Ends) : Ends := { nx := fun σ' H' => E.nx (σ'.set i none) H', rt := E.rt, bk := fun σ' H' => E.bk (σ'.set i none) H', ct := fun σ' H' => E.ct (σ'.set i none) H' }
def wAsM (K : PySem.W.Frag) (Wout : WX) (E : Ends) : List HdS → WX
  | [] => Wout
  | (c, i, ts) :: r => fun cls d σ H => ∃ b, PySem.W.exmOne K cls c = some b ∧ (b = true → ∀ a, H a = none → ts a cls d (gone i E) (σ.set i (some (.ref a))) H) ∧ (b = false → wAsM K Wout E r cls d σ H)
inductive HdsA (X : Cx) : List ExceptHandler → List HdS → Prop
  | nil : HdsA X [] []
  | cons {x n : Str} {c : Value} {i : Nat} {ts : Addr → Value → Option Addr → TS} {b₀ : Stmt} {suite : List Stmt} {np pos' : Pos} {hds : List ExceptHandler} {l : List HdS} (hi : X.N[i]? = some n) (hln : X.env.kindOf n = some .local) (hc : Names X x c)
      (hsu : ∀ (a : Addr) (oe : Obj) (cls : Value) (d : Option Addr) (pn : List (Addr × Obj)), Zc cls d oe → (∃ vs, oe.data = .fields vs) → PSs (X.suite a ((a, oe) :: pn)) (b₀ :: suite) (ts a cls d)) (r : HdsA X hds l) :
      HdsA X (.ExceptHandler (some (.Name x np)) (some n) (b₀ :: suite) pos' :: hds) ((c, i, ts) :: l)
section
variable {body : List Stmt} {h₀ : ExceptHandler} {hds : List ExceptHandler} {l : List HdS} {pos : Pos} {tb : WX → TS} {Wout : WX}
theorem ps_try_asM (hs : X.stack = X.env :: X.outer) (hf : X.env.frame = some X.env.locals) (hN : X.N.Nodup) (tk : Takes X Wout)
    (hb : ∀ (W : WX) (pn : List (Addr × Obj)) (xe : Value → Shared → Prop), Takes (X.tr pn xe) W → PassesOwn (model X.prog X.w) X.A X.env xe → PSs (X.tr pn xe) body (tb W))
    (hh : HdsA X (h₀ :: hds) l) : PS X (.Try body (h₀ :: hds) [] [] pos) (fun E σ H => tb (wAsM X.K Wout E l) E σ H) := by
  refine ⟨fun pins s σ H E I h => ?_⟩
  have ok := I.ok
  have hfr : X.A.frames = some (X.env :: X.outer) := by rw [ok.frames, hs]
  refine wpAny_Try_except ?_
  refine wpAny_mono ((hb (wAsM X.K Wout E l) (X.pn ++ pins) (fun e s₁ => wpAny (model X.prog X.w) X.A (noteFrame e X.env) (fun _ s₂ => wpAny (model X.prog X.w) X.A (setFlight e none) (fun _ s₃ =>
    wpAny (model X.prog X.w) X.A (handleBy e X.env (h₀ :: hds)) (SP X pins E) X.xe s₃) X.xe s₂) X.xe s₁) (fun u s' xx => ?_) PassesOwn.looking).run [] s σ H E (I.toTry _) h) (fun f s1 hsp => ?_) (fun e s1 he => he)
  · obtain ⟨a, B, sI, pins', σ', H', cls, d, rfl, J', nb, up, sky, na, os, ag, w⟩ := xx
    have J : Inv X pins σ' H' sI := J'.ofTry ok
    have sky' : Sky B (X.env :: X.outer) a (Zc cls d) X.env.locals s'.heap := by rw [← hs]; exact sky
    show wpAny (model X.prog X.w) X.A (noteFrame (.ref a) X.env) _ _ _
    refine Sky.land Zc.steady hfr hf sky' fun h3 fl3 up3 => ?_
    have J3 : Inv X pins σ' H' { s' with heap := h3 } := J.landed nb fl3.1 (up.trans up3) os ag
    obtain ⟨oe3, vs3, he3, hz3, hd3⟩ := fl3.there
    have nfr : a ∉ frs (X.env :: X.outer) := fun hm => by
      obtain ⟨_, o', e', hnf⟩ := fl3.2.2.1.mem hm
      rw [he3] at e'; cases e'
      exact hnf _ hd3
    have nL : a ≠ X.env.locals := fun z => nfr (List.mem_filterMap.mpr ⟨X.env, List.mem_cons_self, by rw [hf, z]⟩)
    have nF : a ∉ X.fs := fun hm => by
      obtain ⟨e, he, q⟩ := List.mem_filterMap.mp hm
      exact nfr (List.mem_filterMap.mpr ⟨e, List.mem_cons_of_mem _ he, q⟩)
    have S3 := J3.suite he3 hd3 na nL nF
    have go : ∀ {hds' : List ExceptHandler} {l' : List HdS}, HdsA X hds' l' → wAsM X.K Wout E l' cls d σ' H' → wpAny (model X.prog X.w) X.A (handleBy (.ref a) X.env hds') (SP X pins E) X.xe { s' with heap := h3 } := by
      intro hds' l' hk
      induction hk with
      | nil =>
        intro w
        refine wpAny_handleBy_nil ?_
        obtain ⟨k1, k2, k3, oe, vs, T, oT, ts', he, hz, hd, h1, hr⟩ := id fl3
        unfold PySem.passOn
        refine wpAny_bind (wpAny_field he hd h1 ?_)
        rw [if_neg (show ¬ ((Value.ref T == Value.none) = true) from by simp)]
        have fin : wpAny (model X.prog X.w) X.A (setFlight (.ref a) X.env.frame) (fun _ s4 => wpAny (model X.prog X.w) X.A (throw (.ref a) : Sem Flow) (SP X pins E) X.xe s4) X.xe { s' with heap := h3 } := by
          rw [hf]
          refine HandSPX.setFlight_upZ fl3 fun h4 hh4 up4 => wpAny_throw (tk _ _ ?_)
          exact ⟨a, B, sI, pins, σ', H', cls, d, rfl, J, nb, (up.trans up3).trans up4, .inr (.inr (by rw [hs]; exact hh4)), na, os, ag, w⟩
        first
          | exact wpAny_bind (wpAny_pure (wpAny_bind fin))
          | exact wpAny_bind fin
      | @cons x n c i ts b₀ suite np pos' hds2 l2 hi hln hc hsu r ih =>
        intro w
        obtain ⟨b, hb1, hyes, hno⟩ := w
        have hloc : Loc X.env.scope n := .inl hln
        refine wpAny_handleBy_cons (codeAny_handlers_test ?_) (by intro q; cases q)
        have LT : PySem.W.Looks (model X.prog X.w) h3 (typeOf (.ref a)) cls := fun A Q E s k q => wpAny_typeOf_ref (k _ _ he3) (by rw [hz3.1]; exact q)
        have LM := PySem.W.exm_one (M := model X.prog X.w) (J3.kIn) LT hb1
        have test : ∀ {Q : Value → Shared → Prop} {E : Value → Shared → Prop}, Q c { s' with heap := h3 } → wpAny (model X.prog X.w) (X.A.mark (some (.ref a))) (eval (.Name x np) X.env) Q E { s' with heap := h3 } := fun {Q E} q => by
          obtain ⟨hg, hdbg, hm | ⟨hm, hv, hnn⟩⟩ := hc
          · exact ld_glob (X := X.suite a ((a, oe3) :: (X.pn ++ pins))) S3 hg hm q hdbg
          · exact ld_blt (X := X.suite a ((a, oe3) :: (X.pn ++ pins))) S3 hg hm hv q hnn hdbg
        refine test (LM.here ?_)
        cases b with
        | true =>
          refine codeAny_handlers_suite_as ?_
          refine HandSPX.lands_againZ fl3 fun h4 fl4 up4 => ?_
          have J4 : Inv X pins σ' H' { s' with heap := h4 } := J.landed nb fl4.1 ((up.trans up3).trans up4) os ag
          obtain ⟨oe4, vs4, he4, hz4, hd4⟩ := fl4.there
          have S4 := J4.suite he4 hd4 na nL nF
          refine store_ok (X := X.suite a ((a, oe4) :: (X.pn ++ pins))) (v := .ref a) S4 hN hi hloc rfl (fun s5 S5 => ?_) (.inr hln)
          refine wpAny_mono ((hsu a oe4 cls d (X.pn ++ pins) hz4 ⟨_, hd4⟩).run [] s5 _ H' _ S5 (hyes rfl a na)) (fun f s6 hsp => ?_) (fun _ _ z => False.elim z)
          have end_ : ∀ {σ6 : L2.St} {H6 : Hp} {Q : Shared → Prop}, Inv (X.suite a ((a, oe4) :: (X.pn ++ pins))) [] σ6 H6 s6 → (∀ s7, Inv X pins (σ6.set i none) H6 s7 → Q s7) →
              wpAny (model X.prog X.w) X.A (do bindName X.env n .none; unbindBehindTheSuite X.env n pos') (fun _ s7 => Q s7) X.xe s6 := fun {σ6 H6 Q} S6 hq => gone_ok (S6.unsuite ok) hN hi hln hq
          cases f with
          | next =>
            obtain ⟨σ6, H6, S6, q6⟩ := hsp
            exact end_ S6 fun s7 J7 => ⟨_, _, J7, q6⟩
          | brk =>
            obtain ⟨σ6, H6, S6, q6⟩ := hsp
            exact end_ S6 fun s7 J7 => ⟨_, _, J7, q6⟩
          | cont =>
            obtain ⟨σ6, H6, S6, q6⟩ := hsp
            exact end_ S6 fun s7 J7 => ⟨_, _, J7, q6⟩
          | ret u =>
            obtain ⟨v6, σ6, H6, S6, r6, q6⟩ := hsp
            exact end_ S6 fun s7 J7 => ⟨_, _, _, J7, r6, q6⟩
        | false =>
          show wpAny _ X.A (handleBy (.ref a) X.env hds2) _ _ _
          exact ih (hno rfl)
    exact go hh w
  · cases f with
    | next =>
      obtain ⟨σ', H', J', q⟩ := hsp
      exact wpAny_execs_nil ⟨σ', H', J'.ofTry ok, q⟩
    | brk =>
      obtain ⟨σ', H', J', q⟩ := hsp
      exact ⟨σ', H', J'.ofTry ok, q⟩
    | cont =>
      obtain ⟨σ', H', J', q⟩ := hsp
      exact ⟨σ', H', J'.ofTry ok, q⟩
    | ret u =>
      obtain ⟨v, σ', H', J', r, q⟩ := hsp
      exact ⟨v, σ', H', J'.ofTry ok, r, q⟩
end
end PS
end
section
set_option maxRecDepth 100000
set_option maxHeartbeats 2000000
namespace PS
open PySem PySem.Spec PyProof.Rows L2
variable {D : Wd} {X : Cx} {C : Ctx} {W : WX} {sx : Sx} {σ σ2 : L2.St} {H H' : Hp} {rho rho' : Rho} {env : Env} {h h' : AH} {pins : List (Addr × Obj)} {s : Shared} {En : Ends}
mutual
theorem Rp.any : ∀ {v : V} {t : T}, Rp D none H rho v t → Rp D sx H rho v t
  | _, _, .non => .non
  | _, _, .bl b => .bl b
  | _, _, .int i => .int i
  | _, _, .str x => .str x
  | _, _, .tup q l => .tup q (RpL.any l)
  | _, _, .lst q l => .lst q (RpL.any l)
  | _, _, .dK q k l => .dK q k (RpL.any l)
  | _, _, .dT q k l => .dT q k (RpL.any l)
  | _, _, .ref q => .ref q
  | _, _, .exn _ q _ _ => nomatch q
theorem RpL.any : ∀ {vs : List V} {ts : List T}, RpL D none H rho vs ts → RpL D sx H rho vs ts
  | _, _, .nil => .nil
  | _, _, .cons p l => .cons (Rp.any p) (RpL.any l)
end
theorem RelE.any (e : RelE D none H rho σ env) : RelE D sx H rho σ env := ⟨e.1, fun i t q => let ⟨v, a, b⟩ := e.2 i t q; ⟨v, a, b.any⟩⟩
theorem RelE.plain {n : Nat} (e : RelE D sx H rho σ env) (hn : rho.length = n) (pl : plainE n env = true) : RelE D none H rho σ env := ⟨e.1, fun i t q => by
  obtain ⟨v, a, b⟩ := e.2 i t q
  refine ⟨v, a, b.plain ?_⟩
  have hm := List.mem_of_getElem? q
  have := List.all_eq_true.mp pl _ hm
  rw [hn]
  exact this⟩
theorem RelE.unset (e : RelE D sx H rho σ env) (i : Nat) : RelE D sx H rho (σ.set i none) (env.set i none) := by
  refine ⟨by simp [e.1], fun j u q => ?_⟩
  by_cases hj : i = j
  · subst hj
    by_cases hi : i < env.length
    · rw [List.getElem?_set_self hi] at q; cases q
    · rw [List.getElem?_eq_none (by simpa using hi)] at q; cases q
  · rw [List.getElem?_set_ne hj] at q ⊢
    exact e.2 j u q
inductive HdsP (D : Wd) (X : Cx) (C : Ctx) : List ExceptHandler → IHs → List HdS → Prop
  | nil : HdsP D X C [] .nil []
  | cons {x n : Str} {k i : Nat} {b₀ : Stmt} {suite : List Stmt} {ib : ISs} {np pos' : Pos} {hds : List ExceptHandler} {ih : IHs} {l : List HdS} (hi : X.N[i]? = some n) (hln : X.env.kindOf n = some .local) (hc : Names X x (.ref (D.xa k))) (hx : ∀ c, c < D.nx → PySem.W.exmOne X.K (.ref (D.xa c)) (.ref (D.xa k)) = some (C.sub c k))
      (hsu : ∀ (a : Addr) (oe : Obj) (cls : Value) (d : Option Addr) (pn : List (Addr × Obj)), Zc cls d oe → (∃ vs, oe.data = .fields vs) → PSs (X.suite a ((a, oe) :: pn)) (b₀ :: suite) (rdS D (some (a, cls, d)) noW (evSs C ib))) (r : HdsP D X C hds ih l) :
      HdsP D X C (.ExceptHandler (some (.Name x np)) (some n) (b₀ :: suite) pos' :: hds) (.cons k i ib ih) ((.ref (D.xa k), i, fun a cls d => rdS D (some (a, cls, d)) noW (evSs C ib)) :: l)
theorem HdsP.a {hds : List ExceptHandler} {ih : IHs} {l : List HdS} (h : HdsP D X C hds ih l) : HdsA X hds l := by
  induction h with
  | nil => exact .nil
  | cons hi hln hc hx hsu r ih => exact .cons hi hln hc hsu ih
theorem hds_ok {Wout : WX} {hds : List ExceptHandler} {ih : IHs} {l : List HdS} (hp : HdsP D X C hds ih l) {c : Nat} {t : T} {cls : Value} {d : Option Addr} (s1 : Step H rho H' rho') (A : At D none σ H' rho' env h) (x : ExR D H' rho' cls d c t) (q : outS D none Wout En H rho (evHs C ih c t env h)) : wAsM X.K Wout En l cls d σ H' := by
  induction hp with
  | nil => exact q σ H' rho' cls d s1 A x
  | @cons nx n k i b₀ suite ib np pos' hds ih l hi hln hc hx hsu r ihr =>
    obtain ⟨dd, v, lt, rfl, rfl, ed, pv⟩ := x
    refine ⟨C.sub c k, hx c lt, fun hb a na => ?_, fun hb => ?_⟩
    · have q1 : outS D none Wout En H rho (match evSs C ib (env.set i (some (.exn c t))) h with
        | .next e1 h1 => if plainE h1.length (e1.set i none) = true then .next (e1.set i none) h1 else .stuck
        | .cont e1 h1 => if plainE h1.length (e1.set i none) = true then .cont (e1.set i none) h1 else .stuck
        | .brk e1 h1 => if plainE h1.length (e1.set i none) = true then .brk (e1.set i none) h1 else .stuck
        | .ret m t h1 => .ret m t h1
        | _ => .stuck) := by
        have q0 : outS D none Wout En H rho (if C.sub c k = true then _ else _) := q
        rw [if_pos hb] at q0
        exact q0
      refine ⟨rho', _, h, ⟨(A.e.any (sx := some (a, .ref (D.xa c), some dd))).set i (.exn lt rfl ed pv.any), A.r⟩, ?_⟩
      cases hs : evSs C ib (env.set i (some (.exn c t))) h with
      | next e1 h1 =>
        rw [hs] at q1
        dsimp only at q1
        by_cases hp : plainE h1.length (e1.set i none) = true
        · rw [if_pos hp] at q1
          exact fun σ2 H2 r2 s2 A2 => q1 _ H2 r2 (s1.trans s2) ⟨(A2.e.unset i).plain A2.r.len hp, A2.r⟩
        · rw [if_neg hp] at q1; exact q1.elim
      | cont e1 h1 =>
        rw [hs] at q1
        dsimp only at q1
        by_cases hp : plainE h1.length (e1.set i none) = true
        · rw [if_pos hp] at q1
          exact fun σ2 H2 r2 s2 A2 => q1 _ H2 r2 (s1.trans s2) ⟨(A2.e.unset i).plain A2.r.len hp, A2.r⟩
        · rw [if_neg hp] at q1; exact q1.elim
      | brk e1 h1 =>
        rw [hs] at q1
        dsimp only at q1
        by_cases hp : plainE h1.length (e1.set i none) = true
        · rw [if_pos hp] at q1
          exact fun σ2 H2 r2 s2 A2 => q1 _ H2 r2 (s1.trans s2) ⟨(A2.e.unset i).plain A2.r.len hp, A2.r⟩
        · rw [if_neg hp] at q1; exact q1.elim
      | ret m t h1 =>
        rw [hs] at q1
        exact fun H2 r2 v s2 R2 p2 => q1 H2 r2 v (s1.trans s2) R2 p2
      | exc _ _ _ _ => rw [hs] at q1; exact q1.elim
      | stuck => rw [hs] at q1; exact q1.elim
    · refine ihr ?_
      have q0 : outS D none Wout En H rho (if C.sub c k = true then _ else evHs C ih c t env h) := q
      rw [if_neg (by rw [hb]; decide)] at q0
      exact q0
section
variable {body : List Stmt} {h₀ : ExceptHandler} {hds : List ExceptHandler} {l : List HdS} {pos : Pos} {ib : ISs} {ih : IHs}
theorem s_try (hs : X.stack = X.env :: X.outer) (hf : X.env.frame = some X.env.locals) (hN : X.N.Nodup) (tk : Takes X W)
    (hb : ∀ (W : WX) (pn : List (Addr × Obj)) (xe : Value → Shared → Prop), Takes (X.tr pn xe) W → PassesOwn (model X.prog X.w) X.A X.env xe → PSs (X.tr pn xe) body (rdS D none W (evSs C ib)))
    (hh : HdsP D X C (h₀ :: hds) ih l) : XS D X W C (.Try body (h₀ :: hds) [] [] pos) (.tr ib ih) :=
  PS_imp (ps_try_asM hs hf hN tk (tb := fun W => rdS D none W (evSs C ib)) hb hh.a) fun En σ H ⟨rho, env, h, A, q⟩ => by
    refine ⟨rho, env, h, A, ?_⟩
    have q' : outS D none W En H rho (match evSs C ib env h with
      | .exc c v e1 h1 => evHs C ih c v e1 h1
      | r => r) := q
    cases hr : evSs C ib env h with
    | exc c v e1 h1 =>
      rw [hr] at q'
      exact fun σ' H' r' cls d s' A' x => hds_ok hh s' A' x q'
    | next e1 h1 => rw [hr] at q'; exact q'
    | brk e1 h1 => rw [hr] at q'; exact q'
    | cont e1 h1 => rw [hr] at q'; exact q'
    | ret m t h1 => rw [hr] at q'; exact q'
    | stuck => rw [hr] at q'; exact q'
end
theorem x_fle {a : Addr} {oe : Obj} {cls : Value} {d : Option Addr} {pn : List (Addr × Obj)} {e : Expr} {ie : IE} {pos : Pos} {f : Nat} {n : Str} (T : ∀ c, c < D.nx → C.xi c = f → D.xf c = n ∧ XfC X.K (D.xa c) ∧ PySem.W.findIn X.K (.ref (D.xa c)) n = some none)
    (hz : Zc cls d oe) (hf : ∃ vs, oe.data = .fields vs) (he : PE (X.suite a ((a, oe) :: pn)) e (rdE D (some (a, cls, d)) noW (evE C ie))) (hb : attributeBase e n X.env (eval e X.env) = eval e X.env := by rfl) :
    PE (X.suite a ((a, oe) :: pn)) (.Attribute e n pos) (rdE D (some (a, cls, d)) noW (evE C (.fle ie f))) := by
  refine ⟨fun pins s σ H Q I ⟨rho, env, h, e1, r1, q⟩ => ?_⟩
  have hw := he.run pins s σ H (fun v H1 => ∃ c t rho1 h1, RelH D H1 rho1 h1 ∧ Rp D (some (a, cls, d)) H1 rho1 v (.exn c t) ∧ C.xi c = f ∧ ∀ w, Rp D (some (a, cls, d)) H1 rho1 w t → Q w H1) I ⟨rho, env, h, e1, r1, rd_bind ⟨e1, r1⟩ q fun t H' rho' h' v A s p q => by
    cases t with
    | exn c u =>
      have q' : outE D (some (a, cls, d)) noW σ H' rho' Q (if C.xi c = f then .ok u h' else .stuck) := q
      by_cases hc : C.xi c = f
      · rw [if_pos hc] at q'
        exact ⟨c, u, rho', h', A.r, p, hc, of_ok A q'⟩
      · rw [if_neg hc] at q'; exact q'.elim
    | _ => exact q.elim⟩
  refine attr_of hb (thn hw fun u s1 ⟨x, H1, I1, rx, c, t, rho1, h1, R1, p, hc, q1⟩ => ?_)
  cases p with
  | @exn _ dd _ v _ lt es ed pv =>
    cases es
    obtain ⟨en, T1, T2⟩ := T c lt hc
    obtain rfl : u = Value.ref a := rx
    obtain ⟨ha, _⟩ := I1.pin (a, oe) (List.mem_append_left _ List.mem_cons_self)
    obtain ⟨vs, hd⟩ := hf
    have hx : ObjOk X.prog X.w H1 s1.heap _ (.xd _) := I1.hok _ _ ed
    obtain ⟨mA, hns, hr⟩ := hx
    obtain ⟨od, ho, hl⟩ := lookIn_ns hns
    have l : List.lookup n [(D.xf c, v)] = some v := by rw [en]; simp [List.lookup]
    obtain ⟨w, hu, ru⟩ := RelO.some_of (v := v) (o := mA n) (by rw [← l]; exact hr n)
    have J : PySem.W.InstAt s1.heap a oe (D.xa c) (some od) := ⟨ha, hz.1, by unfold PySem.W.notCls; rw [hd] <;> rfl, by rw [hz.2]; exact ho⟩
    exact HandSPX.exc_get I1.kIn J T1.ga T1.gg T1.exC (PySem.W.findObj_own T1.hdC T2 rfl (by rw [hl, hu])) (handed_of ru) ⟨v, H1, I1.tok _, ru, q1 v pv⟩
def spR (D : Wd) (F : List T → AH → R T) : Sp := fun vs H Q E => ∃ rho h ts, RelH D H rho h ∧ RpL D none H rho vs ts ∧ outE D none (fun cls d _ H' => E cls d H') [] H rho Q (F ts h)
theorem outR_W {α : Type} {W' : WX} {Q : α → Hp → Rho → AH → Prop} (hw : ∀ cls d H', W cls d σ H' → W' cls d σ2 H') : ∀ {r : R α}, outR D W σ H rho Q r → outR D W' σ2 H rho Q r
  | .ok _ _, q => q
  | .exc _ _ _, q => fun H' r' cls d s R x => hw _ _ _ (q H' r' cls d s R x)
  | .stuck, q => q
theorem run_len {P : Prg} {k f : Nat} {fn : Fn} {ts : List T} {Q : VK} (hf : P.fns[f]? = some fn) (q : outE D none W σ H rho Q (runFn P k f ts h)) : ts.length = fn.np := by
  cases k with
  | zero => exact q.elim
  | succ k =>
    have q' : outE D none W σ H rho Q (match P.fns[f]? with
      | none => .stuck
      | some fn => if ts.length = fn.np then endR fn.gc h (endS fn.gc h.length (evSs ⟨runFn P k, h.length, P.sub, P.xi⟩ fn.body (ts.map some ++ List.replicate (fn.ns - fn.np) none) h)) else .stuck) := q
    rw [hf] at q'
    dsimp only at q'
    by_cases c : ts.length = fn.np
    · exact c
    · rw [if_neg c] at q'; exact q'.elim
theorem start_rel {N : List Str} {vs : List V} {ts : List T} (l : RpL D none H rho vs ts) : RelE D none H rho (L2.start N vs) (ts.map some ++ List.replicate (N.length - ts.length) none) := by
  refine ⟨by simp [L2.start, l.length], fun i t e => ?_⟩
  unfold L2.start
  by_cases hi : i < ts.length
  · rw [List.getElem?_append_left (by simpa using hi), List.getElem?_map] at e
    cases ht : ts[i]? with
    | none => rw [ht] at e; cases e
    | some u =>
      rw [ht] at e
      cases e
      obtain ⟨v, hv, p⟩ := l.get ht
      exact ⟨v, by rw [List.getElem?_append_left (by rw [List.length_map, l.length]; exact hi), List.getElem?_map, hv]; rfl, p⟩
  · rw [List.getElem?_append_right (by simpa using hi)] at e
    rw [List.getElem?_replicate] at e
    split at e <;> cases e
open Classical in
theorem end_ok {E : XK} {Q : VK} {gc : Bool} {r : RS} (R0 : RelH D H rho h) (q : outE D none (fun cls d _ H' => E cls d H') [] H rho Q (endR gc h (endS gc h.length r))) : outS D none (fun cls d _ H' => E cls d H') { nx := fun _ H' => Q .non H', rt := Q } H rho r := by
  have okk : ∀ {t : T} {h1 : AH} {H' : Hp} {rho' : Rho} {v : V}, outE D none (fun cls d _ H' => E cls d H') [] H rho Q (endR gc h (.ok t h1)) → Step H rho H' rho' → (gc = true → RelK D h.length H' rho' h1) → (gc = false → RelH D H' rho' h1) → Rp D none H' rho' v t → Q v H' := fun {t h1 H' rho' v} q s k1 k2 p => by
    cases gc with
    | true =>
      have q' : outE D none (fun cls d _ H' => E cls d H') [] H rho Q (if t.und h.length = true ∧ GcOk h h1 then .ok t (h1.take h.length) else .stuck) := q
      by_cases c : t.und h.length = true ∧ GcOk h h1
      · rw [if_pos c] at q'
        obtain ⟨R1, e1⟩ := gc_ok R0 s (k1 rfl) c.2
        have p' := p.cutR c.1
        rw [e1] at p'
        refine q' H' rho ⟨⟨s.k.1, [], by simp⟩, s.out, s.there, fun _ a b => absurd a b⟩ R1 v p'
      · rw [if_neg c] at q'; exact q'.elim
    | false => exact q H' rho' s (k2 rfl) v p
  cases r with
  | next e h1 => exact fun σ' H' r' s A => okk (v := .non) q s (fun _ => A.r.k _) (fun _ => A.r) .non
  | brk e h1 => cases gc <;> exact q.elim
  | cont e h1 => cases gc <;> exact q.elim
  | stuck => cases gc <;> exact q.elim
  | ret m t h1 =>
    intro H' r' v s RM p
    have q' : outE D none (fun cls d _ H' => E cls d H') [] H rho Q (endR gc h (if m = none ∨ (gc = true ∧ m = some h.length) then .ok t h1 else .stuck)) := q
    by_cases c : m = none ∨ (gc = true ∧ m = some h.length)
    · rw [if_pos c] at q'
      refine okk q' s (fun _ => ?_) (fun hg => ?_) p
      · cases m with
        | none => exact RelH.k RM _
        | some n =>
          rcases c with c | c
          · cases c
          · cases c.2; exact RM
      · rcases c with c | c
        · subst c; exact RM
        · rw [hg] at c; cases c.1
    · rw [if_neg c] at q'
      cases gc <;> exact q'.elim
  | exc c t e h1 =>
    intro σ' H' r' cls d s A x
    cases gc with
    | true =>
      have q' : outE D none (fun cls d _ H' => E cls d H') [] H rho Q (if t.und h.length = true ∧ GcOk h h1 then .exc c t (h1.take h.length) else .stuck) := q
      by_cases c0 : t.und h.length = true ∧ GcOk h h1
      · rw [if_pos c0] at q'
        obtain ⟨R1, e1⟩ := gc_ok R0 s (A.r.k _) c0.2
        obtain ⟨dd, v, lt, a, b, ed, pv⟩ := x
        have p' := pv.cutR c0.1
        rw [e1] at p'
        exact q' H' rho cls d ⟨⟨s.k.1, [], by simp⟩, s.out, s.there, fun _ a b => absurd a b⟩ R1 ⟨dd, v, lt, a, b, ed, p'⟩
      · rw [if_neg c0] at q'; exact q'.elim
    | false => exact q H' r' cls d s A.r x
end PS
end
section
set_option maxRecDepth 100000
set_option maxHeartbeats 2000000
namespace PS
open PySem PySem.Spec PyProof.Rows L2
variable {D : Wd} {X : Cx} {C : Ctx} {W : WX} {sx : Sx} {σ σ2 : L2.St} {H H' : Hp} {rho rho' : Rho} {env : Env} {h h' : AH} {pins : List (Addr × Obj)} {s : Shared} {En : Ends}

structure FnE (D : Wd) (P : Program) (w : World) (K : PySem.W.Frag) (mg : Str → Option Value) (base : Heap) (A : Around) (F : List T → AH → R T) (a : Addr) : Prop where
  ex : ∃ k fd ps, FnOk P w K mg base (L2.CX P w) k a fd ps (spR D F) ∧ Room k A ∧ Binds K fd ps []
structure FnM (D : Wd) (P : Program) (w : World) (K : PySem.W.Frag) (mg : Str → Option Value) (base : Heap) (A : Around) (F : List T → AH → R T) (a : Addr) : Prop where
  ex : ∃ k fd ps, FnOk P w K mg base (L2.CX P w) k a fd ps (spR D F) ∧ Room (k + 1) A ∧ Binds K fd ps []
section
variable {a e : Expr} {es : List Expr} {ia ie : IE} {l : IL} {x : Str} {p pos : Pos} {f c : Nat} {fa : Addr}
theorem x_call (F : FnE D X.prog X.w X.K X.mg X.base X.A (C.F f) fa) (tk : Takes X W) (hg : Gl X x) (hm : X.mg x = some (.ref fa)) (hk : PySem.W.keepIn X.K (.ref fa) = true) (ha : XL D X W C (e :: es) l)
    (hdb : (x == ("__debug__" : Str)) = false := by decide) (he : starEach (e :: es) X.env = (false, eval e X.env) :: starEach es X.env := by rfl) (hpl : (backTo pos (starEach es X.env)).any (·.1) = false := by rfl) :
    XP D X W C (.Call (.Name x p) (e :: es) [] pos) (.call f l) := by
  obtain ⟨k, fd, ps, F, hr, hb⟩ := F.ex
  exact PE_imp (pe_callS F hr hg hm hk hb (fun σ => passAt tk σ) ha hdb he hpl) fun σ H Q ⟨rho, env, h, e, r, q⟩ => ⟨rho, env, h, e, r, rd_bindL ⟨e, r⟩ q fun ts H' rho' h' vs A s p q => ⟨rho', h', ts, A.r, p, outR_W (fun _ _ _ w => w) q⟩⟩
theorem run_makeS {CX : CXT} {k : Nat} {f C : Addr} {fd : FuncData} {ps : List Str} {sp : Sp} {E : XK} {H : Hp} {Q : VK} {us : List Value} {vs : List V} (M : Mk X.K C f) (F : FnOk X.prog X.w X.K X.mg X.base CX k f fd ps sp) (hr : Room (k + 1) X.A) (hb : Binds X.K fd ps [])
    (hx : PassesAt CX X σ E) (I : Inv X pins σ H s) (r : Vals vs us)
    (h : ∀ x dx, H x = none → H dx = none → dx ≠ x → sp (.ref x :: vs) (upd (upd H dx (.own x)) x (.ins C dx [])) (fun v H2 => v = .non ∧ Q (.ref x) H2) E) :
    wpAny (model X.prog X.w) X.A (call (.ref C) us) (EP X pins σ Q) X.xe s := by
  have hq := h (s.heap.objs.size + 1) s.heap.objs.size (I.hok.fresh (Nat.le_succ _)) (I.hok.fresh (Nat.le_refl _)) (Nat.ne_of_lt (Nat.lt_succ_self _))
  have I2 := Inv.made (C := C) I
  have r2 : Vals (V.ref (s.heap.objs.size + 1) :: vs) (Value.ref (s.heap.objs.size + 1) :: us) := .cons rfl r
  have hl : (Value.ref (s.heap.objs.size + 1) :: us).length = ps.length := by
    have e := r2.length
    rw [F.len _ _ _ _ hq] at e
    exact e.symm
  have hbd := hb _ (Value.ref (s.heap.objs.size + 1) :: us) I2.kIn (by rw [List.append_nil]; exact hl)
  rw [List.append_nil] at hbd
  refine wpAny_call (make_map (f := f) I.kIn M.makes M.init (beq_iff_eq.mp M.fn) (codeAny_mono (F.run _ X.stack _ _ ⟨Value.ref (s.heap.objs.size + 1) :: us, []⟩ (Value.ref (s.heap.objs.size + 1) :: us) _ _ E (hr.make C us [])
    (I2.env0.make C us []) hbd r2 hq) fun r s' hq' => ?_))
  cases r with
  | error e => exact hx pins _ _ e s' I2 hq'
  | ok fl =>
    cases fl with
    | ret u =>
      obtain ⟨v, H', I3, rv, ev, q3⟩ := I2.after hq'
      subst ev
      exact ⟨rv, ⟨V.ref (s.heap.objs.size + 1), H', I3, rfl, q3⟩⟩
    | next => exact False.elim hq'
    | brk => exact False.elim hq'
    | cont => exact False.elim hq'
theorem x_mk (hc : c < D.nc) (M : Mk X.K (D.ca c) fa) (F : FnM D X.prog X.w X.K X.mg X.base X.A (C.F f) fa) (tk : Takes X W) (hg : Gl X x) (hm : X.mg x = some (.ref (D.ca c))) (ha : XL D X W C (e :: es) l)
    (hdb : (x == ("__debug__" : Str)) = false := by decide) (he : starEach (e :: es) X.env = (false, eval e X.env) :: starEach es X.env := by rfl) (hpl : (backTo pos (starEach es X.env)).any (·.1) = false := by rfl) :
    XP D X W C (.Call (.Name x p) (e :: es) [] pos) (.mk c f l) := by
  obtain ⟨k, fd, ps, F, hr, hb⟩ := F.ex
  refine ⟨fun pins s σ H Q I ⟨rho, env, h, e1, r, q⟩ => ?_⟩
  refine wpAny_Call_Name_kw (ld_glob I hg hm ?_ hdb)
  have hA := ha.run pos pins s σ H (fun vs H1 => ∃ rho1 h1 ts, RelH D H1 rho1 h1 ∧ RpL D none H1 rho1 vs ts ∧ outE D none W σ H1 rho1 Q ((C.F f (.ref h1.length :: ts) (h1 ++ [.obj c []])).bind fun r h2 => match r with
      | .non => .ok (.ref h1.length) h2
      | _ => .stuck)) I ⟨rho, env, h, e1, r, rd_bindL ⟨e1, r⟩ q fun ts H' rho' h' vs A s p q => ⟨rho', h', ts, A.r, p, q⟩⟩
  refine PySem.W.callWith_K (h₀ := X.base) I.ok.mod.kin M.kp (thn hA fun us s1 ⟨vs, H1, I1, rv, rho1, h1, ts, R1, l1, q1⟩ => ⟨I1.kIn, ?_⟩) he hpl
  refine run_makeS M F hr hb (passAt tk σ) I1 rv fun y dx ny ndx dne => ?_
  have ny2 : (upd H1 dx (.own y)) y = none := by rw [upd_ne (Ne.symm dne)]; exact ny
  have st1 : Step H1 rho1 (upd H1 dx (.own y)) rho1 := Step.new ndx
  have st2 : Step (upd H1 dx (.own y)) rho1 (upd (upd H1 dx (.own y)) y (.ins (D.ca c) dx [])) (rho1 ++ [y]) := Step.new' ny2
  have R2 : RelH D (upd (upd H1 dx (.own y)) y (.ins (D.ca c) dx [])) (rho1 ++ [y]) (h1 ++ [.obj c []]) := (R1.beside ndx).push ny2 ⟨dx, [], upd_same, hc, rfl, .nil⟩
  have py : (rho1 ++ [y])[h1.length]? = some y := by rw [← R1.len]; simp
  refine ⟨_, _, .ref h1.length :: ts, R2, .cons (.ref py) (l1.step (st1.trans st2)), ?_⟩
  generalize C.F f (.ref h1.length :: ts) (h1 ++ [.obj c []]) = rr at q1 ⊢
  cases rr with
  | stuck => exact q1
  | exc c2 t h2 => exact fun H2 rho2 cls d s2 R3 x3 => q1 H2 rho2 cls d ((st1.trans st2).trans s2) R3 x3
  | ok t h2 =>
    cases t with
    | non =>
      intro H2 rho2 s2 R3 v pv
      cases pv
      exact ⟨rfl, q1 H2 rho2 ((st1.trans st2).trans s2) R3 _ (.ref (s2.get py))⟩
    | _ => exact q1.elim
end

def tyV2 (D : Wd) : Ty → V
  | .int => .ty "int"
  | .bool => .ty "bool"
  | .str => .ty "str"
  | .tuple => .ty "tuple"
  | .list => .ty "list"
  | .cls c => .ref (D.ca c)
def tyU (D : Wd) : Ty → Value
  | .int => .type "int"
  | .bool => .type "bool"
  | .str => .type "str"
  | .tuple => .type "tuple"
  | .list => .type "list"
  | .cls c => .ref (D.ca c)
def tyLt (D : Wd) : Ty → Prop
  | .cls c => c < D.nc
  | _ => True
theorem clsV_ty : ∀ y : Ty, ClsV (tyV2 D y) (tyU D y)
  | .int => .ty _
  | .bool => .ty _
  | .str => .ty _
  | .tuple => .ty _
  | .list => .ty _
  | .cls _ => .own _
theorem isi_ok (O : Okx D X) {v : V} {t : T} {y : Ty} {b : Bool} (hy : tyLt D y) (R : RelH D H rho h) (p : Rp D none H rho v t) (e : isTy h t y = some b) : ∃ tt, TyX D.K H v tt ∧ PySem.W.kitOne D.K tt (tyU D y) = some b := by
  unfold isTy at e
  have hcls : ∀ c, y = .cls c → ∀ T ∈ ["NoneType", "bool", "int", "str", "tuple", "list"], PySem.W.kitOne D.K (.type T) (.ref (D.ca c)) = some false := fun c hc => by
    subst hc
    exact (O.cls c hy).kb
  cases p with
  | non =>
    cases e
    refine ⟨_, .base .non, ?_⟩
    cases y with
    | cls c => exact hcls c rfl _ (by simp)
    | _ => exact kit_ty (by decide +kernel)
  | bl x =>
    refine ⟨_, .base (.bl x), ?_⟩
    cases y with
    | cls c => cases e; exact hcls c rfl _ (by simp)
    | _ => cases e; exact kit_ty (by decide +kernel)
  | int x =>
    refine ⟨_, .base (.int x), ?_⟩
    cases y with
    | cls c => cases e; exact hcls c rfl _ (by simp)
    | _ => cases e; exact kit_ty (by decide +kernel)
  | str x =>
    refine ⟨_, .base (.str x), ?_⟩
    cases y with
    | cls c => cases e; exact hcls c rfl _ (by simp)
    | _ => cases e; exact kit_ty (by decide +kernel)
  | tup q l =>
    refine ⟨_, .base (.tup q), ?_⟩
    cases y with
    | cls c => cases e; exact hcls c rfl _ (by simp)
    | _ => cases e; exact kit_ty (by decide +kernel)
  | lst q l =>
    refine ⟨_, .base (.frz q), ?_⟩
    cases y with
    | cls c => cases e; exact hcls c rfl _ (by simp)
    | _ => cases e; exact kit_ty (by decide +kernel)
  | dK => cases e
  | dT => cases e
  | exn _ es _ _ => cases es
  | @ref a n r =>
    rw [snap_ref] at e
    cases hn : h[n]? with
    | none =>
      rw [hn] at e
      dsimp only at e
      rw [hn] at e
      cases e
    | some cl =>
      rw [hn] at e
      cases cl with
      | lst xs =>
        obtain ⟨vs, q, l⟩ := R.cell n _ _ r hn
        refine ⟨_, .base (.lst q), ?_⟩
        cases y with
        | cls c => cases e; exact hcls c rfl _ (by simp)
        | _ => cases e; exact kit_ty (by decide +kernel)
      | dct tk ks vs => cases e
      | obj c fs =>
        dsimp only at e
        rw [hn] at e
        obtain ⟨dx, gs, q, hb, f⟩ := R.cell n _ _ r hn
        have K := O.cls c hb
        refine ⟨_, .base (.ins q K.cl K.ha K.hn K.htk K.hm), ?_⟩
        cases y with
        | cls d => cases e; exact K.kk d hy
        | _ => cases e; exact K.kc _ (by simp)
      | exo _ _ =>
        dsimp only at e
        rw [hn] at e
        cases e
section
variable {a e c : Expr} {es : List Expr} {ia ie : IE} {l : IL} {x : Str} {p pos : Pos}
theorem x_isi (O : Okx D X) {y : Ty} (hy : tyLt D y) (hg : Gl X "isinstance") (hm : X.mg "isinstance" = none) (ha : XP D X W C a ia) (hc : PE X c (tC (tyV2 D y)))
    (he : starEach [a, c] X.env = (false, eval a X.env) :: starEach [c] X.env := by rfl) (he2 : starEach [c] X.env = (false, eval c X.env) :: starEach [] X.env := by rfl) (hpl : (backTo pos (starEach [c] X.env)).any (·.1) = false := by rfl) :
    XP D X W C (.Call (.Name "isinstance" p) [a, c] [] pos) (.isi ia [y]) :=
  PE_imp (pe_callB call_isi hg hm (by rfl) (pa_cons ha (pa_cons hc pa_nil he2) he) (by decide) (by decide) he hpl) fun σ H Q ⟨rho, env, h, e, r, q⟩ => ⟨rho, env, h, e, r, rd_bind ⟨e, r⟩ q fun t H' rho' h' v A s p q => by
    obtain ⟨b, eb, q2⟩ := of_of q
    have eb' : isTy h' t y = some b := by
      have e2 : (match isTy h' t y with | some true => some true | some false => some false | none => none) = some b := eb
      cases hh : isTy h' t y with
      | none => rw [hh] at e2; cases e2
      | some k => rw [hh] at e2; cases k <;> exact e2
    obtain ⟨tt, t1, t2⟩ := isi_ok O hy A.r p eb'
    exact ⟨v, _, tt, _, b, rfl, clsV_ty y, O.K ▸ t1, O.K ▸ t2, val_ok A.r (.bl b) q2⟩⟩
theorem c_ty {x : Str} {T : String} {pos : Pos} (hg : Gl X x) (hm : X.mg x = none) (hv : bootBuiltins x = some (.type T)) (hn : x ≠ "__name__" := by decide) (hd : (x == ("__debug__" : Str)) = false := by decide) : PE X (.Name x pos) (tC (.ty T)) := pe_bltn hg hm hv rfl hn hd
theorem c_cls {x : Str} {c : Nat} {pos : Pos} (hg : Gl X x) (hm : X.mg x = some (.ref (D.ca c))) (hd : (x == ("__debug__" : Str)) = false := by decide) : PE X (.Name x pos) (tC (.ref (D.ca c))) := pe_glob hg hm rfl hd

theorem s_setf (O : Okx D X) {c f : Nat} {p' : Pos} (hj : ∀ i j, D.fl i = D.fl j → i = j) (hno : NoAttr D.K (D.ca c) (D.fl f)) (ha : XP D X W C a ia) (he : XP D X W C e ie) (hs : swapsWith e (some (.Attribute a (D.fl f) p')) pos.line X.env = pure false := by rfl) : XS D X W C (.Assign [.Attribute a (D.fl f) p'] e pos) (.setf ia c f ie) :=
  PS_imp (ps_fld ha he hs) fun En σ H ⟨rho, env, h, A, q⟩ => ⟨rho, env, h, A.e, A.r, rd_bind A (sR A q) fun t H' rho' h' v A' s p q => ⟨rho', env, h', A'.e, A'.r, rd_bind A' q fun o H2 rho2 h2 w A2 s2 p2 q2 => by
    cases o with
    | ref n =>
      have q3 : outR D W σ H2 rho2 (fun _ H' rho' h' => outS D none W En H' rho' (RS.next env h')) (match h2[n]? with
        | some (.obj c' fs) => if c' = c ∧ fs.length < 100 then .ok () (h2.set n (.obj c (putF f t fs))) else .stuck
        | _ => .stuck) := q2
      cases hn : h2[n]? with
      | none => rw [hn] at q3; exact q3.elim
      | some cl =>
        rw [hn] at q3
        cases cl with
        | obj c' fs =>
          dsimp only at q3
          by_cases hc : c' = c ∧ fs.length < 100
          · rw [if_pos hc] at q3
            obtain ⟨rfl, hl⟩ := hc
            obtain ⟨a, dx, gs, rfl, r2, hH, hb, fr⟩ := cell_obj A2.r p2 hn
            have hgl : gs.length = fs.length := by
              have := congrArg List.length fr.1
              simpa using this
            refine ⟨a, _, dx, gs, rfl, hH, O.K ▸ (O.cls _ hb).cl, O.K ▸ hno, by omega, ?_⟩
            have st : Step H2 rho2 (upd H2 a (.ins (D.ca c') dx (L2.putF (D.fl f) v gs))) rho2 := Step.set r2 hH rfl
            have fr2 := fr_put hj (p.step s2) (f := f) fr
            exact q3 _ rho2 st (A2.r.put r2 hH rfl ⟨dx, _, upd_same, hb, fr2.stepK st.k⟩) σ _ rho2 Step.rfl ⟨A2.e.step st, A2.r.put r2 hH rfl ⟨dx, _, upd_same, hb, fr2.stepK st.k⟩⟩
          · rw [if_neg hc] at q3; exact q3.elim
        | lst _ => exact q3.elim
        | dct _ _ _ => exact q3.elim
        | exo _ _ => exact q3.elim
    | _ => exact q2.elim⟩⟩
end
end PS
end
section
set_option maxRecDepth 100000
set_option maxHeartbeats 2000000
namespace PS
open PySem PySem.Spec PyProof.Rows L2
variable {D : Wd} {X : Cx} {C : Ctx} {W : WX} {sx : Sx} {σ σ2 : L2.St} {H H' : Hp} {rho rho' : Rho} {env : Env} {h h' : AH} {pins : List (Addr × Obj)} {s : Shared} {En : Ends}
section
variable {a e o i : Expr} {es : List Expr} {ia ie io ii : IE} {l : IL} {x : Str} {p pos p' : Pos}

theorem fresh_dic {Q : VK} {m tk : Bool} {u : HO} (hu : u = if tk then .dT [] else .dK []) (R : RelH D H rho h) (q : outE D none W σ H rho Q (if m = true then .ok (.ref h.length) (h ++ [.dct tk [] []]) else .ok (.dct tk [] []) h)) {p : Addr} (n : H p = none) : FrzQ Q (.ref p) (upd H p u) := by
  cases m with
  | true =>
    rw [if_pos rfl] at q
    refine .inl (q _ (rho ++ [p]) (Step.new' n) (R.push n ?_) _ (.ref ?_))
    · cases tk with
      | false => subst hu; exact ⟨[], upd_same, rfl, .nil⟩
      | true => subst hu; exact ⟨[], upd_same, rfl, .nil⟩
    · rw [← R.len]; simp
  | false =>
    rw [if_neg (by decide)] at q
    refine .inr ⟨p, _, rfl, upd_same, ?_, fun ob => ?_⟩
    · cases tk <;> subst hu <;> rfl
    · rw [upd_upd]
      refine q _ rho (Step.new n) (R.beside n) _ ?_
      cases tk with
      | false => subst hu; exact .dK (kvs := []) upd_same rfl .nil
      | true => subst hu; exact .dT (kvs := []) upd_same rfl .nil
theorem x_dicK {m : Bool} : XP D X W C (.Dict [] [] pos) (.dic m false) :=
  PE_imp (PE_frz pe_dnewK) fun σ H Q ⟨rho, env, h, e, r, q⟩ p n => fresh_dic (tk := false) (m := m) rfl r q n
theorem x_dicT {m : Bool} : XP D X W C (.Dict [] [] pos) (.dic m true) :=
  PE_imp (PE_frz pe_dnewT) fun σ H Q ⟨rho, env, h, e, r, q⟩ p n => fresh_dic (tk := true) (m := m) rfl r q n

theorem put_gen {κ : Type} [DecidableEq κ] (f : κ → T) (g : κ → NestedKey) (hf : ∀ a, (f a).key = some (g a)) (hg : ∀ a b, g a = g b → a = b) (k : κ) {x : V} {t : T} (px : Rp D none H rho x t) (kvs : List (κ × V)) {ts : List T} (l : RpL D none H rho (kvs.map (·.2)) ts) :
    (∃ j, findK (g k) (kvs.map fun p => f p.1) = some j ∧ (putK kvs k x).map (fun p => f p.1) = kvs.map (fun p => f p.1) ∧ RpL D none H rho ((putK kvs k x).map (·.2)) (setK (g k) t (kvs.map fun p => f p.1) ts)) ∨
    (findK (g k) (kvs.map fun p => f p.1) = none ∧ (putK kvs k x).map (fun p => f p.1) = kvs.map (fun p => f p.1) ++ [f k] ∧ RpL D none H rho ((putK kvs k x).map (·.2)) (ts ++ [t])) := by
  rcases find_gen f g hf hg k kvs with ⟨j, v, h1, h2, h3⟩ | ⟨h1, h2⟩
  · obtain ⟨a1, a2⟩ := set_gen f g hf hg k px kvs l
    refine .inl ⟨j, h1, ?_⟩
    unfold putK
    rw [if_pos (any_some h3)]
    exact ⟨a1, a2⟩
  · refine .inr ⟨h1, ?_⟩
    unfold putK
    rw [if_neg (by rw [any_none h2]; decide)]
    refine ⟨by simp, ?_⟩
    rw [List.map_append]
    exact l.append (.cons px .nil)
def rSetT (D : Wd) : TSet := fun o i v H Q => ∃ (W : WX) (σ : L2.St) (rho : Rho) (h : AH) (t1 t2 t3 : T), RelH D H rho h ∧ Rp D none H rho o t1 ∧ Rp D none H rho i t2 ∧ Rp D none H rho v t3 ∧ outR D W σ H rho (fun _ H' _ _ => Q H') (setT t1 t2 t3 h)
theorem set_ok (O : Okx D X) : PSet X (rSetT D) := by
  intro pins s σ H o i v ov iv u Q I ro ri rv ⟨W, σ2, rho, h, t1, t2, t3, R, p1, p2, p3, q⟩
  cases t1 with
  | ref n =>
    have q' : outR D W σ2 H rho (fun _ H' _ _ => Q H') (match h[n]? with
      | some (.lst xs) => match t2 with
        | .int i => match L2.ixN xs.length i with
          | some j => .ok () (h.set n (.lst (xs.set j t3)))
          | none => .stuck
        | _ => .stuck
      | some (.dct tk ks vs) => match keyOk tk t2 with
        | some key => match findK key ks with
          | some _ => if ks.length < sizeLine then .ok () (h.set n (.dct tk ks (setK key t3 ks vs))) else .stuck
          | none => if ks.length < sizeLine then .ok () (h.set n (.dct tk (ks ++ [t2]) (vs ++ [t3]))) else .stuck
        | none => .stuck
      | _ => .stuck) := q
    cases hn : h[n]? with
    | none => rw [hn] at q'; exact q'.elim
    | some c =>
      rw [hn] at q'
      cases c with
      | obj c fs => exact q'.elim
      | exo c u => exact q'.elim
      | lst xs =>
        cases t2 with
        | int k =>
          dsimp only at q'
          cases hj : L2.ixN xs.length k with
          | none => rw [hj] at q'; exact q'.elim
          | some j =>
            rw [hj] at q'
            obtain ⟨a, vs, rfl, r, hH, lv⟩ := cell_lst (t := .non) R p1 hn
            cases p2
            have st : Step H rho (upd H a (.lst (vs.set j v))) rho := Step.set r hH rfl
            exact set_list pins s σ H _ _ v ov iv u Q I ro ri rv ⟨a, vs, k, j, rfl, rfl, hH, by rw [lv.length]; exact hj, q' _ rho st (R.put r hH rfl ⟨_, upd_same, (lv.set p3 j).stepK st.k⟩)⟩
        | _ => exact q'.elim
      | dct tk ks vs =>
        dsimp only at q'
        cases hk : keyOk tk t2 with
        | none => rw [hk] at q'; exact q'.elim
        | some key =>
          rw [hk] at q'
          dsimp only at q'
          cases p1 with
          | @ref a _ r =>
          obtain rfl : ov = Value.ref a := ro
          cases tk with
          | false =>
            obtain ⟨ky, rfl, rfl⟩ := keyOk_false hk
            have ex := rp_keyT p2
            subst ex
            obtain ⟨kvs, hH, hks, l⟩ := R.cell n a _ r hn
            subst hks
            have st : ∀ u, Step H rho (upd H a u) rho := fun u => Step.set r hH rfl
            rcases put_gen keyT nk key_keyT (fun _ _ e => nk_inj e) ky p3 kvs l with ⟨j, h1, h2, h3⟩ | ⟨h1, h2, h3⟩
            · rw [h1] at q'
              dsimp only at q'
              by_cases hlt : (kvs.map fun p => keyT p.1).length < sizeLine
              · rw [if_pos hlt] at q'
                rw [List.length_map] at hlt
                exact d_setItem (by have := O.u; omega) I (.inl ⟨kvs, ky, hH, rfl, hlt, rfl⟩) ri rv fun s' I' => ⟨_, I', q' _ rho (st _) (R.put r hH rfl ⟨_, upd_same, h2.symm, h3.stepK (st _).k⟩)⟩
              · rw [if_neg hlt] at q'; exact q'.elim
            · rw [h1] at q'
              dsimp only at q'
              by_cases hlt : (kvs.map fun p => keyT p.1).length < sizeLine
              · rw [if_pos hlt] at q'
                rw [List.length_map] at hlt
                exact d_setItem (by have := O.u; omega) I (.inl ⟨kvs, ky, hH, rfl, hlt, rfl⟩) ri rv fun s' I' => ⟨_, I', q' _ rho (st _) (R.put r hH rfl ⟨_, upd_same, h2.symm, h3.stepK (st _).k⟩)⟩
              · rw [if_neg hlt] at q'; exact q'.elim
          | true =>
            obtain ⟨ky, rfl, rfl⟩ := keyOk_true hk
            cases p2 with
            | tup hq lk =>
              have ex := rpL_keyT lk
              subst ex
              obtain ⟨kvs, hH, hks, l⟩ := R.cell n a _ r hn
              subst hks
              have st : ∀ u, Step H rho (upd H a u) rho := fun u => Step.set r hH rfl
              rcases put_gen (fun k : List Key => T.tup (k.map keyT)) (fun k => .tup (k.map nk)) key_tup (fun _ _ e => nks_inj (by injection e)) ky p3 kvs l with ⟨j, h1, h2, h3⟩ | ⟨h1, h2, h3⟩
              · rw [h1] at q'
                dsimp only at q'
                by_cases hlt : (kvs.map fun p => T.tup (p.1.map keyT)).length < sizeLine
                · rw [if_pos hlt] at q'
                  rw [List.length_map] at hlt
                  exact d_setItem (by have := O.u; omega) I (.inr ⟨kvs, ky, _, hH, rfl, hq, hlt, rfl⟩) ri rv fun s' I' => ⟨_, I', q' _ rho (st _) (R.put r hH rfl ⟨_, upd_same, h2.symm, h3.stepK (st _).k⟩)⟩
                · rw [if_neg hlt] at q'; exact q'.elim
              · rw [h1] at q'
                dsimp only at q'
                by_cases hlt : (kvs.map fun p => T.tup (p.1.map keyT)).length < sizeLine
                · rw [if_pos hlt] at q'
                  rw [List.length_map] at hlt
                  exact d_setItem (by have := O.u; omega) I (.inr ⟨kvs, ky, _, hH, rfl, hq, hlt, rfl⟩) ri rv fun s' I' => ⟨_, I', q' _ rho (st _) (R.put r hH rfl ⟨_, upd_same, h2.symm, h3.stepK (st _).k⟩)⟩
                · rw [if_neg hlt] at q'; exact q'.elim
  | _ => exact q.elim
theorem s_seti (O : Okx D X) (ho : XP D X W C o io) (hi : XP D X W C i ii) (he : XP D X W C e ie) (ha : ∀ v, assign (.Subscript o i p') X.env v = (do
      let ov ← holding [v] (eval o X.env)
      let iv ← holding [v, ov] (eval i X.env)
      standAt p'
      holding [v, ov, iv] (setItem ov iv v)
      release [v, ov, iv] []) := by intro _; rfl) (hs : swapsWithSole [.Subscript o i p'] e pos.line X.env = pure false := by rfl) (hw : swappedStores [.Subscript o i p'] e X.env = pure none := by rfl)
    (h1 : (assignEach [.Subscript o i p'] X.env).map (·.2) = [assign (.Subscript o i p') X.env] := by rfl) : XS D X W C (.Assign [.Subscript o i p'] e pos) (.seti io ii ie) :=
  PS_imp (ps_asg he (pg_sub ho hi (set_ok O) ha) hs hw h1) fun En σ H ⟨rho, env, h, A, q⟩ => ⟨rho, env, h, A.e, A.r, rd_bind A (sR A q) fun t H1 rho1 h1 v A1 s1 p1 q1 => ⟨rho1, env, h1, A1.e, A1.r, rd_bind A1 q1 fun t2 H2 rho2 h2 v2 A2 s2 p2 q2 => ⟨rho2, env, h2, A2.e, A2.r, rd_bind A2 q2 fun t3 H3 rho3 h3 v3 A3 s3 p3 q3 =>
    ⟨W, σ, rho3, h3, t2, t3, t, A3.r, p2.step s3, p3, (p1.step s2).step s3, outR.mono (fun _ H4 r4 h4 s4 R4 q4 => q4 σ H4 r4 Step.rfl (A3.step s4 R4)) q3⟩⟩⟩⟩
theorem s_par {j k kt k2 : Nat} {x y : Str} {a b : Expr} {ia ib : IE} {px py pt pt2 : Pos} (hc : X.calm = true) (hN : X.N.Nodup) (hj : X.N[j]? = some x) (hk : X.N[k]? = some y) (hjk : j ≠ k)
    (hx : X.env.scope.names.lookup x = some .local) (hy : X.env.scope.names.lookup y = some .local) (ha : XL D X W C [a, b] (.cons ia (.cons ib .nil)))
    (hw : swappedStores [.Tuple [.Name x px, .Name y py] kt pt] (.Tuple [a, b] k2 pt2) X.env = pure (some [x, y]))
    (hs : swapsWithSole [.Tuple [.Name x px, .Name y py] kt pt] (.Tuple [a, b] k2 pt2) pos.line X.env = pure false := by rfl) :
    XS D X W C (.Assign [.Tuple [.Name x px, .Name y py] kt pt] (.Tuple [a, b] k2 pt2) pos) (.asg (.tp (.cons (.nm j) (.cons (.nm k) .nil))) (.tup (.cons ia (.cons ib .nil)))) :=
  PS_imp (ps_par hc hN hj hk hjk hx hy ha hw hs) fun En σ H ⟨rho, env, h, A, q⟩ => by
    refine ⟨rho, env, h, A.e, A.r, ?_⟩
    have q' : outS D none W En H rho (((evL C (.cons ia (.cons ib .nil)) env h).bind fun xs h1 => if xs.length ≤ sizeLine then R.ok (T.tup xs) h1 else .stuck).toS (fun c v h1 => .exc c v env h1) .stuck fun x h1 => match (TG.tp (.cons (.nm j) (.cons (.nm k) .nil))).asg x env with
      | some e1 => .next e1 h1
      | none => .stuck) := q
    have hl : ∀ {ts h1}, evL C (.cons ia (.cons ib .nil)) env h = .ok ts h1 → ∃ t u, ts = [t, u] := fun {ts h1} e => by
      have e' : (evE C ia env h).bind (fun x h1 => ((evE C ib env h1).bind fun y h2 => R.ok [y] h2).bind fun xs h2 => R.ok (x :: xs) h2) = .ok ts h1 := e
      cases e1 : evE C ia env h with
      | ok t h2 =>
        rw [e1] at e'
        have e' : ((evE C ib env h2).bind fun y h2 => R.ok [y] h2).bind (fun xs h2 => R.ok (t :: xs) h2) = .ok ts h1 := e'
        cases e2 : evE C ib env h2 with
        | ok u h3 => rw [e2] at e'; cases e'; exact ⟨t, u, rfl⟩
        | exc _ _ _ => rw [e2] at e'; cases e'
        | stuck => rw [e2] at e'; cases e'
      | exc _ _ _ => rw [e1] at e'; cases e'
      | stuck => rw [e1] at e'; cases e'
    cases hr : evL C (.cons ia (.cons ib .nil)) env h with
    | exc c t h1 => rw [hr] at q'; exact fun H' r' cls d s R x => q' σ H' r' cls d s (A.step s R) x
    | stuck => rw [hr] at q'; exact q'
    | ok ts h1 =>
      rw [hr] at q'
      obtain ⟨t, u, rfl⟩ := hl hr
      have hz : ([t, u] : List T).length ≤ sizeLine := by rw [sizeLine_eq]; show 2 ≤ 16777216; decide
      have q2 : outS D none W En H rho ((if ([t, u] : List T).length ≤ sizeLine then R.ok (T.tup [t, u]) h1 else .stuck).toS (fun c v h1 => .exc c v env h1) .stuck fun x h1 => match (TG.tp (.cons (.nm j) (.cons (.nm k) .nil))).asg x env with
        | some e1 => .next e1 h1
        | none => .stuck) := q'
      rw [if_pos hz] at q2
      intro H1 rho1 s1 R1 vs l
      obtain ⟨v, w, rfl, pv, pw⟩ := rpl2 l
      exact ⟨v, w, rfl, q2 _ H1 rho1 s1 ⟨((A.e.step s1).set j pv).set k pw, R1⟩⟩

theorem x_kin {n : Bool} {k : Nat} {zs : List Str} {d : Addr} {es : Array DictEntry} {m : Nat} (hK : KDict X.K X.w d es m) (hz : ∀ z, ∃ r, PySem.W.nsIn X.K d z = some r ∧ r.isSome = zs.contains z) (ha : XP D X W C a ia) {b : Expr} (hb : PE X b (tC (.ref d)))
    (hm : behindInMarks (if n then .NotIn else .In) b = false) : XP D X W C (.Compare a [if n then .NotIn else .In] [b] pos) (.kin n k zs ia) := by
  cases n with
  | false =>
    refine PE_imp (pe_cmpR (op_in_kd hK) ha hb hm) fun σ H Q ⟨rho, env, h, e, r, q⟩ => ⟨rho, env, h, e, r, rd_bind ⟨e, r⟩ q fun t H' rho' h' v A s p q => ?_⟩
    cases t with
    | str z =>
      cases p
      obtain ⟨r, h1, h2⟩ := hz z
      have q2 := val_ok A.r (.bl _) q
      refine ⟨z, r, rfl, rfl, h1, ?_⟩
      rw [h2]
      simpa using q2
    | _ => exact q.elim
  | true =>
    refine PE_imp (pe_cmpR (op_notIn_kd hK) ha hb hm) fun σ H Q ⟨rho, env, h, e, r, q⟩ => ⟨rho, env, h, e, r, rd_bind ⟨e, r⟩ q fun t H' rho' h' v A s p q => ?_⟩
    cases t with
    | str z =>
      cases p
      obtain ⟨r, h1, h2⟩ := hz z
      have q2 := val_ok A.r (.bl _) q
      refine ⟨z, r, rfl, rfl, h1, ?_⟩
      rw [h2]
      simpa using q2
    | _ => exact q.elim
theorem b_kin {n : Bool} {k : Nat} {zs : List Str} {d : Addr} {es : Array DictEntry} {m : Nat} (hK : KDict X.K X.w d es m) (hz : ∀ z, ∃ r, PySem.W.nsIn X.K d z = some r ∧ r.isSome = zs.contains z) (ha : XP D X W C a ia) {b : Expr} (hb : PE X b (tC (.ref d)))
    (hm : behindInMarks (if n then .NotIn else .In) b = false) : XB D X W C (.Compare a [if n then .NotIn else .In] [b] pos) (.kin n k zs ia) := by
  have key : ∀ {σ H} {Q : Bool → Hp → Prop}, rdB D none W (evB C (.kin n k zs ia)) σ H Q → rdE D none W (evE C ia) σ H (fun x H1 => ∃ z, x = .str z ∧ Q (n != zs.contains z) H1) := fun {σ H Q} ⟨rho, env, h, e, r, q⟩ => by
    have q' : outR D W σ H rho (fun b H' _ _ => Q b H') (((evE C ia env h).bind fun x h1 => match x with
      | .str z => R.ok (.bl (n != zs.contains z)) h1
      | _ => .stuck).isB) := q
    have q2 : outR D W σ H rho (fun b H' _ _ => Q b H') ((evE C ia env h).bind fun x h1 => (match x with
      | .str z => R.ok (T.bl (n != zs.contains z)) h1
      | _ => .stuck).isB) := by
      generalize evE C ia env h = rr at q' ⊢
      cases rr <;> exact q'
    refine ⟨rho, env, h, e, r, rd_bind ⟨e, r⟩ q2 fun t H' rho' h' v A s p q => ?_⟩
    cases t with
    | str z => cases p; exact ⟨z, rfl, of_ok A q⟩
    | _ => exact q.elim
  cases n with
  | false =>
    refine PT_imp (pt_cmpR (op_in_kd hK) ha hb hm) fun σ H Q q => ?_
    obtain ⟨rho, env, h, e, r, q⟩ := key q
    refine ⟨rho, env, h, e, r, outR.mono (fun t H' r' h' s R q v p => ?_) q⟩
    obtain ⟨z, rfl, q⟩ := q v p
    obtain ⟨r, h1, h2⟩ := hz z
    refine ⟨z, r, rfl, rfl, h1, _, rfl, ?_⟩
    rw [h2]
    simpa using q
  | true =>
    refine PT_imp (pt_cmpR (op_notIn_kd hK) ha hb hm) fun σ H Q q => ?_
    obtain ⟨rho, env, h, e, r, q⟩ := key q
    refine ⟨rho, env, h, e, r, outR.mono (fun t H' r' h' s R q v p => ?_) q⟩
    obtain ⟨z, rfl, q⟩ := q v p
    obtain ⟨r, h1, h2⟩ := hz z
    refine ⟨z, r, rfl, rfl, h1, _, rfl, ?_⟩
    rw [h2]
    simpa using q
theorem x_kget {k : Nat} {zs : List (Str × T)} {d : Addr} {es : Array DictEntry} {m : Nat} (hK : KDict X.K X.w d es m) (hz : ∀ z t, zs.lookup z = some t → ∃ i u tk, t = .int i ∧ PySem.W.nsIn X.K d z = some (some u) ∧ u = .int i tk) (hb : PE X a (tC (.ref d))) (hi : XP D X W C i ii) (hs : PlainIx i := by intro _ _; rfl) :
    XP D X W C (.Subscript a i pos) (.kget k zs ii) :=
  PE_imp (pe_ix ix_kdict hb hi hs) fun σ H Q ⟨rho, env, h, e, r, q⟩ => ⟨rho, env, h, e, r, rd_bind ⟨e, r⟩ q fun t H' rho' h' v A s p q => by
    cases t with
    | str z =>
      cases p
      obtain ⟨u, eu, q2⟩ := of_of1 q
      obtain ⟨n, w, tk, rfl, h1, rfl⟩ := hz z u eu
      exact ⟨d, z, .int n, rfl, rfl, ⟨es, m, _, hK.at_, hK.lit, h1, ⟨tk, rfl⟩⟩, val_ok A.r (.int n) q2⟩
    | _ => exact q.elim⟩
end
end PS
end
section
set_option maxRecDepth 100000
set_option maxHeartbeats 2000000
namespace PS
open PySem PySem.Spec PyProof.Rows L2
variable {D : Wd} {X : Cx} {C : Ctx} {W : WX} {sx : Sx} {σ σ2 : L2.St} {H H' : Hp} {rho rho' : Rho} {env : Env} {h h' : AH} {pins : List (Addr × Obj)} {s : Shared} {En : Ends}

abbrev wB (E : XK) : WX := fun cls d _ H => E cls d H
theorem fn_ok {P : Prg} {prog : Program} {w : World} {K : PySem.W.Frag} {mg : Str → Option Value} {base : Heap} {f : Nat} {fn : Fn} (hf : P.fns[f]? = some fn) {x qual : Str} {params : Arguments} {body : List Stmt} {scope : Scope} {dvs : List V} {kws : List (Str × V)} {a : Addr} {fd : FuncData}
    (F : FunD K x qual params body scope dvs kws a fd) {N ps : List Str} (S : FnScope N ps scope) (hN : N.length = fn.ns) (hps : ps.length = fn.np) (k j : Nat)
    (walk : ∀ (cdv : Value) (A : Around) (outer : List PySem.Env) (s : Shared) (H : Hp) (E : XK) (n0 : Nat), Room j (A.deeper (envOfC qual scope s.heap.objs.size a cdv)) →
      XSs D (cxOf (L2.CX prog w) prog w K mg base N qual scope a cdv A outer s H E) (wB E) ⟨runFn P k, n0, P.sub, P.xi⟩ body fn.body) :
    FnOk prog w K mg base (L2.CX prog w) (j + 1) a fd ps (spR D (runFn P (k + 1) f)) := by
  refine FunD.ok F S (fun vs H Q E ⟨rho, h, ts, R, l, q⟩ => ?_) fun cdv A outer s H vs Q E hr ⟨rho, h, ts, R, l, q⟩ => ⟨_, walk cdv A outer s H E h.length hr, rho, _, h, ⟨start_rel l, R⟩, ?_⟩
  · rw [l.length, run_len hf q, hps]
  · have hl := run_len hf q
    have q' : outE D none (wB E) [] H rho Q (match P.fns[f]? with
      | none => .stuck
      | some fn => if ts.length = fn.np then endR fn.gc h (endS fn.gc h.length (evSs ⟨runFn P k, h.length, P.sub, P.xi⟩ fn.body (ts.map some ++ List.replicate (fn.ns - fn.np) none) h)) else .stuck) := q
    rw [hf] at q'
    dsimp only at q'
    rw [if_pos hl] at q'
    have e := end_ok R q'
    rw [hN, hl]
    exact e
theorem fn_ok0 {P : Prg} {prog : Program} {w : World} {K : PySem.W.Frag} {mg : Str → Option Value} {base : Heap} {f j : Nat} {a : Addr} {fd : FuncData} {ps : List Str} : FnOk prog w K mg base (L2.CX prog w) j a fd ps (spR D (runFn P 0 f)) :=
  ⟨fun vs H Q E ⟨rho, h, ts, R, l, q⟩ => q.elim, fun _ _ _ _ _ _ _ _ _ _ _ _ _ ⟨rho, h, ts, R, l, q⟩ => q.elim⟩
theorem err_ok {prog : Program} {w : World} {K : PySem.W.Frag} {mg : Str → Option Value} {base : Heap} {c : Nat} {x qual f vn : Str} {params : Arguments} {scope : Scope} {p1 p2 p3 pos : Pos} {kws : List (Str × V)} {dvs : List V} {a : Addr} {fd : FuncData}
    (F : FunD K x qual params [.Assign [.Attribute (.Name "self" p1) f p2] (.Name vn p3) pos] scope dvs kws a fd) (S : FnScope ["self", vn] ["self", vn] scope) (hf : D.xf c = f) (oc : OexC K (D.xa c)) (hno : PySem.W.findIn K (.ref (D.xa c)) f = some none)
    (v1 : Vis scope "self") (v2 : Vis scope vn) (hd : (vn == ("__debug__" : Str)) = false := by decide) (hcd : (vn == ("__classdict__" : Str)) = false := by decide) :
    FnOk prog w K mg base (L2.CX prog w) 1 a fd ["self", vn] (spX D c) := by
  refine FunD.ok F S (fun vs H Q E ⟨a, v, e, _⟩ => by rw [e]; rfl) fun cdv A outer s H vs Q E hr ⟨a, v, e, ea, q⟩ => ⟨_, pss_one (ps_ost (pe_var (i := 0) rfl v1) (pe_var (i := 1) rfl v2 hd hcd)), ?_⟩
  subst e
  refine ⟨v, rfl, .ref a, rfl, a, D.xa c, rfl, oc, hno, .inl ⟨ea, fun dx n1 n2 => ?_⟩⟩
  rw [← hf]
  exact q dx n1 n2

theorem view_rd (R : RelH D H rho h) {v : V} {t : T} {xs : List T} (x : Rp D none H rho v t) (e : isList h t = some xs) : ∃ a vs, v = .ref a ∧ Rd H a (.lst vs) ∧ RpL D none H rho vs xs := by
  unfold isList at e
  cases x with
  | lst q l =>
    simp only [snap] at e
    cases e
    exact ⟨_, _, rfl, .inr ⟨_, q⟩, l⟩
  | @ref a n q =>
    rw [snap_ref] at e
    cases hn : h[n]? with
    | none => rw [hn] at e; cases e
    | some c =>
      rw [hn] at e
      cases c with
      | lst ys =>
        cases e
        obtain ⟨vs, q1, l⟩ := R.cell n a _ q hn
        exact ⟨_, _, rfl, .inl q1, l⟩
      | dct tk ks vs => cases e
      | obj c fs => cases e
      | exo c u => cases e
  | _ => cases e
theorem list_extend_tupleAt (l : Addr) (items : Array Value) (n : Nat) (b : Addr) (items2 : Array Value) (n2 : Nat) (dd : Option Addr) (sl : Array (Option Value)) (hs0 : ¬(!items.isEmpty && Builtin.List.listTooLong (items.size + items2.size)) = true) (hs1 : items.size ≤ sizeLine) (hs2 : items.size + items2.size ≤ sizeLine + 1) :
    Meets (Builtin.«list.extend» ⟨[.ref l, .ref b], []⟩) (fun _ R s => s.heap.get? l = some { cls := .type "list", dict := none, data := .seq items n, slots := #[] } ∧ s.heap.get? b = some { cls := .type "tuple", dict := dd, data := .seq items2 n2, slots := sl } ∧ R (.ok (.ret Value.none)) { s with heap := s.heap.update l (Obj.mapSeq fun x => x ++ items2), toks := s.toks }) :=
  .of_wp fun prog w A R s h => by
    obtain ⟨hp, g, d, tk, os⟩ := s; obtain ⟨hl, hb, h⟩ := h; have f1 := AutoSeq1.idx_int; have f2 := AutoSeq1.sub_tuple_tuple; have f3 := AutoSeq1.sub_list_list; have f4 := AutoSeq1.sub_tuple_list; have f5 := AutoSeq1.sub_list_tuple;
    have hz' : (items ++ items2).size ≤ sizeLine + 1 := by rw [Array.size_append]; exact hs2
    wp_walk using (wpAny_updateSeq hl rfl (hz := hs1) (_hz' := hz')), AutoSeq1.wpAny_loadPart' hl, AutoSeq1.wpAny_loadPart' hb; exact ⟨_, rfl, h⟩
theorem bm_extend (O : Okx D X) {m : Bool} : MtR X "list.extend" (rBm D m .extend) := by
  intro pins s σ H x xs v us Q I rx rs ⟨W, σ2, rho, h, t, ts, R, px, l, q⟩
  match ts, l, q with
  | [y], l, q =>
    obtain ⟨v1, rfl, p1⟩ := rpl1 l
    cases t with
    | ref n =>
      have q' : outE D none W σ2 H rho Q (match h[n]? with
        | some (.lst xs) => match extV h y with
          | some zs => if xs.length + zs.length ≤ sizeLine ∧ watchV y ≠ some n then .ok .non (h.set n (.lst (xs ++ zs))) else .stuck
          | none => .stuck
        | _ => .stuck) := q
      cases hn : h[n]? with
      | none => rw [hn] at q'; exact q'.elim
      | some c =>
        rw [hn] at q'
        cases c with
        | lst zs =>
          dsimp only at q'
          cases hs : extV h y with
          | none => rw [hs] at q'; exact q'.elim
          | some ys =>
            rw [hs] at q'
            dsimp only at q'
            by_cases c : zs.length + ys.length ≤ sizeLine ∧ watchV y ≠ some n
            · rw [if_pos c] at q'
              obtain ⟨a, vs, rfl, r, hH, lv⟩ := cell_lst (t := .non) R px hn
              have src : (∃ b ws, v1 = .ref b ∧ RpL D none H rho ws ys ∧ ∃ (its2 : List Value) (n2 : Nat), Vals ws its2 ∧ s.heap.get? b = some { cls := .type "list", data := .seq its2.toArray n2 }) ∨
                  (∃ b ws, v1 = .ref b ∧ RpL D none H rho ws ys ∧ ∃ (its2 : List Value) (n2 : Nat) (dd : Option Addr) (sl : Array (Option Value)), Vals ws its2 ∧ s.heap.get? b = some { cls := .type "tuple", dict := dd, data := .seq its2.toArray n2, slots := sl }) := by
                have lst : isList h y = some ys → (∃ b ws, v1 = .ref b ∧ RpL D none H rho ws ys ∧ ∃ (its2 : List Value) (n2 : Nat), Vals ws its2 ∧ s.heap.get? b = some { cls := .type "list", data := .seq its2.toArray n2 }) := fun e => by
                  obtain ⟨b, ws, e1, hb, lw⟩ := view_rd R p1 e
                  obtain ⟨z2, its2, n2, r2, e2⟩ := hb.ok I.hok
                  exact ⟨b, ws, e1, lw, its2, n2, r2, e2⟩
                cases p1 with
                | tup q1 l1 =>
                  cases hs
                  obtain ⟨its2, r2, ⟨⟨cls, dd, data, sl⟩, ho, hc, n2, hd⟩, hz⟩ := I.tuple (SqT.of q1)
                  simp only at hc hd
                  subst hc hd
                  exact .inr ⟨_, _, rfl, l1, its2, n2, dd, sl, r2, ho⟩
                | _ => exact .inl (lst hs)
              cases rx
              obtain ⟨u, rfl, ru⟩ := L2.Vals.one rs
              obtain ⟨z, its, nn, rr, hl, e⟩ := I.lstM hH
              have c1 := c.1
              have l1 := lv.length
              rcases src with ⟨b, ws, rfl, lw, its2, n2, r2, e2⟩ | ⟨b, ws, rfl, lw, its2, n2, dd, sl, r2, e2⟩
              all_goals
                cases ru
                have q2 := put_lst R r hH rfl (lv.append lw) .non q'
                have l2 := lw.length
                have hl2 := r2.length
                have fin : EP X pins σ Q .none { s with heap := s.heap.update a (Obj.mapSeq (· ++ its2.toArray)), toks := s.toks } :=
                  ⟨.non, _, I.lset (its' := its ++ its2) hH e (by simp) (rr.append r2) (by rw [List.length_append]; omega), rfl, q2⟩
                have hsz : its.toArray.size + its2.toArray.size ≤ sizeLine := by rw [List.size_toArray, List.size_toArray]; omega
                have hlong : ¬ (!its.toArray.isEmpty && Builtin.List.listTooLong (its.toArray.size + its2.toArray.size)) = true := by
                  rw [notLongL hsz, Bool.and_false]
                  exact Bool.false_ne_true
              · exact call_meets PySem.F.slot_list_extend ⟨_, e, rfl⟩ PySem.F.entry_list_extend (PySem.F.args_list_extend_2 _ _)
                  (AutoSeq1.list_extend_list_list_0 a its.toArray nn b its2.toArray n2 hlong (by rw [List.size_toArray]; omega) (by omega)) ⟨e, e2, fin⟩
              · exact call_meets PySem.F.slot_list_extend ⟨_, e, rfl⟩ PySem.F.entry_list_extend (PySem.F.args_list_extend_2 _ _)
                  (list_extend_tupleAt a its.toArray nn b its2.toArray n2 dd sl hlong (by rw [List.size_toArray]; omega) (by omega)) ⟨e, e2, fin⟩
            · rw [if_neg c] at q'; exact q'.elim
        | dct tk ks vs => exact q'.elim
        | obj c fs => exact q'.elim
        | exo c u => exact q'.elim
    | _ => exact q.elim
  | [], _, q => exact q.elim
  | t :: _ :: _, _, q => exact q.elim
def strVal (a : Str) : Value → Bool
  | .str z _ => decide (a = z)
  | _ => false
theorem count_strs {a : Str} : ∀ {ts : List T} {vs : List V} {us : List Value}, RpL D none H rho vs ts → Vals vs us → ts.all isStrT = true → us.countP (strVal a) = ts.countP (isStr a) ∧ ∀ u ∈ us, ∃ z t, u = .str z t
  | [], _, _, l, r, _ => by
    cases l; cases r
    exact ⟨rfl, by simp⟩
  | t :: ts, _, _, l, r, h => by
    cases l with
    | cons p l =>
      cases r with
      | cons r1 r =>
        simp only [List.all_cons, Bool.and_eq_true] at h
        obtain ⟨i1, i2⟩ := count_strs (a := a) l r h.2
        cases p with
        | str x =>
          obtain ⟨tk, rfl⟩ := r1
          refine ⟨?_, fun u hu => ?_⟩
          · rw [List.countP_cons, List.countP_cons, i1]
            rfl
          · rcases List.mem_cons.mp hu with rfl | hu
            · exact ⟨_, _, rfl⟩
            · exact i2 u hu
        | _ => exact absurd h.1 (by simp [isStrT])
theorem bm_count (O : Okx D X) {m : Bool} : MtR X "list.count" (rBm D m .count) := by
  intro pins s σ H x xs v us Q I rx rs ⟨W, σ2, rho, h, t, ts, R, px, l, q⟩
  match ts, l, q with
  | [y], l, q =>
    obtain ⟨v1, rfl, p1⟩ := rpl1 l
    have q' : outE D none W σ2 H rho Q (match isList h t with
      | some xs => match cntT xs y with
        | some n => .ok (.int (n : Nat)) h
        | none => .stuck
      | none => .stuck) := q
    cases hs : isList h t with
    | none => rw [hs] at q'; exact q'.elim
    | some ys =>
      rw [hs] at q'
      dsimp only at q'
      cases p1 with
      | str a =>
        by_cases c : ys.all isStrT = true
        · rw [show cntT ys (.str a) = some (ys.countP (isStr a)) from if_pos c] at q'
          dsimp only at q'
          obtain ⟨b, ws, rfl, hb, lw⟩ := view_rd R px hs
          cases rx
          obtain ⟨u, rfl, ru⟩ := L2.Vals.one rs
          obtain ⟨tk, rfl⟩ := ru
          obtain ⟨z2, its2, n2, r2, e2⟩ := hb.ok I.hok
          obtain ⟨cc, cs⟩ := count_strs (a := a) lw r2 c
          refine call_meets PySem.F.slot_list_count ⟨_, e2, rfl⟩ PySem.F.entry_list_count (PySem.F.args_list_count_2 _ _) (PySem.SeqAt.list_countAt b its2.toArray n2 none #[] (.str a tk) (strVal a)) ⟨e2, fun y hy => ?_, ?_⟩
          · obtain ⟨z, t2, rfl⟩ := cs y (by simpa using hy)
            show PySem.SeqAt.EqAt _ _ _ _ (decide (a = z))
            have := PySem.SeqAt.EqAt.str_str (A := X.A.in1) (s := s) z t2 a tk
            rw [show decide (a = z) = (z == a) from by
              by_cases e : z = a
              · subst e; simp
              · have e2 : ¬ a = z := fun q => e q.symm
                simp [e, e2]]
            exact this
          · rw [List.toList_toArray, cc]
            exact ⟨.int _, H, I.tok _, ⟨_, rfl⟩, val_ok R (.int _) q'⟩
        · rw [show cntT ys (.str a) = none from if_neg c] at q'; exact q'.elim
      | _ => exact q'.elim
  | [], _, q => exact q.elim
  | t :: _ :: _, _, q => exact q.elim
end PS
end
section
set_option maxRecDepth 100000
set_option maxHeartbeats 2000000
namespace PS
open PySem PySem.Spec PyProof.Rows L2
variable {D : Wd} {X : Cx} {C : Ctx} {W : WX} {sx : Sx} {σ σ2 : L2.St} {H H' : Hp} {rho rho' : Rho} {env : Env} {h h' : AH} {pins : List (Addr × Obj)} {s : Shared} {En : Ends}
theorem Okx.of {X' : Cx} (O : Okx D X) (h1 : X'.K = X.K) (h2 : X'.A = X.A) : Okx D X' := ⟨O.K.trans h1.symm, by rw [h2]; exact O.u, O.cls⟩
theorem x_bad {e : Expr} : PE X e (rdE D sx W (evE C .bad)) := ⟨fun pins s σ H Q I ⟨rho, env, h, e, r, q⟩ => q.elim⟩
theorem b_bad {e : Expr} : XB D X W C e .bad := ⟨fun pins s σ H Q I ⟨rho, env, h, e, r, q⟩ => q.elim⟩
theorem s_bad {e : Stmt} : PS X e (rdS D sx W (evS C .bad)) := ⟨fun pins s σ H Q I ⟨rho, env, h, A, q⟩ => q.elim⟩
theorem x_gi {x : Str} {k : Nat} {i : Int} {pos : Pos} (hg : Gl X x) (hm : ∃ t, X.mg x = some (.int i t)) (hd : (x == ("__debug__" : Str)) = false := by decide) : XP D X W C (.Name x pos) (.glb k (.int i)) := by
  obtain ⟨t, hm⟩ := hm
  exact x_gint hg hm ⟨t, rfl⟩ hd
theorem x_gs {x : Str} {k : Nat} {i : Str} {pos : Pos} (hg : Gl X x) (hm : ∃ t, X.mg x = some (.str i t)) (hd : (x == ("__debug__" : Str)) = false := by decide) : XP D X W C (.Name x pos) (.glb k (.str i)) := by
  obtain ⟨t, hm⟩ := hm
  exact x_gstr hg hm ⟨t, rfl⟩ hd
theorem c_cls2 {x : Str} {d : Addr} {pos : Pos} (hg : Gl X x) (hm : X.mg x = some (.ref d)) (hd : (x == ("__debug__" : Str)) = false := by decide) : PE X (.Name x pos) (tC (.ref d)) := pe_glob hg hm rfl hd
theorem x_kinE {a : Expr} {ia : IE} {pos : Pos} {n : Bool} {k : Nat} {zs : List Str} {d : Addr} (hK : ∃ es m, KDict X.K X.w d es m) (hz : ∀ z, ∃ r, PySem.W.nsIn X.K d z = some r ∧ r.isSome = zs.contains z) (ha : XP D X W C a ia) {b : Expr} (hb : PE X b (tC (.ref d)))
    (hm : behindInMarks (if n then .NotIn else .In) b = false) : XP D X W C (.Compare a [if n then .NotIn else .In] [b] pos) (.kin n k zs ia) := by
  obtain ⟨es, m, hK⟩ := hK
  exact x_kin hK hz ha hb hm
theorem b_kinE {a : Expr} {ia : IE} {pos : Pos} {n : Bool} {k : Nat} {zs : List Str} {d : Addr} (hK : ∃ es m, KDict X.K X.w d es m) (hz : ∀ z, ∃ r, PySem.W.nsIn X.K d z = some r ∧ r.isSome = zs.contains z) (ha : XP D X W C a ia) {b : Expr} (hb : PE X b (tC (.ref d)))
    (hm : behindInMarks (if n then .NotIn else .In) b = false) : XB D X W C (.Compare a [if n then .NotIn else .In] [b] pos) (.kin n k zs ia) := by
  obtain ⟨es, m, hK⟩ := hK
  exact b_kin hK hz ha hb hm
theorem x_kgetE {a i : Expr} {ii : IE} {pos : Pos} {k : Nat} {zs : List (Str × T)} {d : Addr} (hK : ∃ es m, KDict X.K X.w d es m) (hz : ∀ z t, zs.lookup z = some t → ∃ i u tk, t = .int i ∧ PySem.W.nsIn X.K d z = some (some u) ∧ u = .int i tk) (hb : PE X a (tC (.ref d))) (hi : XP D X W C i ii) (hs : PlainIx i := by intro _ _; rfl) :
    XP D X W C (.Subscript a i pos) (.kget k zs ii) := by
  obtain ⟨es, m, hK⟩ := hK
  exact x_kget hK hz hb hi hs
def eqoR (F : List T → AH → R T) (c n : Nat) (y : T) (h : AH) : R T := match h[n]? with
  | some (.obj c' _) => if c' = c ∧ eqOk h y = true then ((F [.ref n, y] h).nox).bind fun r h3 => match r with
    | .bl k => .ok (.bl (false != k)) h3
    | _ => .stuck else .stuck
  | _ => .stuck
theorem looks_rp (O : Okx D X) {c : Nat} (hc : c < D.nc) {y : V} {u : Value} {t : T} (I : Inv X pins σ H s) (R : RelH D H rho h) (ry : RelV y u) (p : Rp D none H rho y t) (e : eqOk h t = true) :
    ∃ tb, PySem.W.Looks (model X.prog X.w) s.heap (typeOf u) tb ∧ PySem.W.notFirst X.K (D.ca c) tb = true := by
  have nf := O.K ▸ (O.cls c hc).nf
  have ty : ∀ {T : String}, (∀ s' : Shared, (∀ b o, s.heap.get? b = some o → s'.heap.get? b = some o) → s'.TypeIs u T) → T ∈ ["NoneType", "bool", "int", "str", "tuple", "list"] → ∃ tb, PySem.W.Looks (model X.prog X.w) s.heap (typeOf u) tb ∧ PySem.W.notFirst X.K (D.ca c) tb = true := fun {T} hT hm =>
    ⟨.type T, fun A Q E s' k q => wpAny_typeOf (hT s' k) q, nf T hm⟩
  cases p with
  | non => cases ry; exact ty (T := "NoneType") (fun s' _ => rfl) (by simp)
  | bl b => cases ry; exact ty (T := "bool") (fun s' _ => rfl) (by simp)
  | int i => obtain ⟨t, rfl⟩ := ry; exact ty (T := "int") (fun s' _ => typeIs_int s' i t) (by simp)
  | str x => obtain ⟨t, rfl⟩ := ry; exact ty (T := "str") (fun s' _ => typeIs_str s' x t) (by simp)
  | tup q l =>
    cases ry
    obtain ⟨its, rv, ht, hz⟩ := I.tuple (SqT.of q)
    obtain ⟨o, ho, hcl, hd⟩ := ht
    exact ty (T := "tuple") (fun s' k => ⟨o, k _ _ ho, hcl⟩) (by simp)
  | lst q l =>
    cases ry
    obtain ⟨its, rv, pl, hz⟩ := I.list (.inl (.inr ⟨_, q⟩))
    obtain ⟨o, n, ho, hcl, hd⟩ := pl
    exact ty (T := "list") (fun s' k => ⟨o, k _ _ ho, hcl⟩) (by simp)
  | dK => cases e
  | dT => cases e
  | exn _ es _ _ => cases es
  | @ref a n r =>
    cases ry
    unfold eqOk at e
    rw [snap_ref] at e
    cases hn : h[n]? with
    | none => rw [hn] at e; dsimp only at e; rw [hn] at e; cases e
    | some cl =>
      rw [hn] at e
      cases cl with
      | lst xs =>
        obtain ⟨vs, q, l⟩ := R.cell n _ _ r hn
        obtain ⟨its, rv, pl, hz⟩ := I.list (SqL.of q)
        obtain ⟨o, n, ho, hcl, hd⟩ := pl
        exact ty (T := "list") (fun s' k => ⟨o, k _ _ ho, hcl⟩) (by simp)
      | dct tk ks vs => cases e
      | obj c2 fs =>
        obtain ⟨dx, gs, q, hb, f⟩ := R.cell n _ _ r hn
        obtain ⟨mA, J, _⟩ := ins_get I.hok q
        obtain ⟨od, J, _⟩ := J.look
        exact ⟨_, J.type, O.K ▸ (O.cls c hc).nfc c2 hb⟩
      | exo _ _ =>
        dsimp only at e
        rw [hn] at e
        cases e
theorem op_eqo (O : Okx D X) {c : Nat} {fa : Addr} {F : List T → AH → R T} (hlt : c < D.nc) (FE : FnE D X.prog X.w X.K X.mg X.base X.A (fun ts h => (F ts h).nox) fa) (hs : PySem.W.findIn X.K (.ref (D.ca c)) "__eq__" = some (some (.ref fa))) (hf : PySem.W.isFn X.K (.ref fa) = true) :
    OpR X (compareOp .Eq) (fun x y H Q => ∃ (W : WX) (σ : L2.St) (rho : Rho) (h : AH) (n : Nat) (t : T), RelH D H rho h ∧ Rp D none H rho x (.ref n) ∧ Rp D none H rho y t ∧ outE D none W σ H rho Q (eqoR F c n t h)) := by
  intro pins s σ H x y v u Q I rx ry ⟨W, σ2, rho, h, n, t, R, px, py, q⟩
  show wpAny (model X.prog X.w) X.A (richCompare .Eq v u) (EP X pins σ Q) X.xe s
  unfold eqoR at q
  cases hn : h[n]? with
  | none => rw [hn] at q; exact q.elim
  | some cl =>
    rw [hn] at q
    cases cl with
    | lst _ => exact q.elim
    | dct _ _ _ => exact q.elim
    | exo _ _ => exact q.elim
    | obj c' fs =>
      dsimp only at q
      by_cases hc : c' = c ∧ eqOk h t = true
      · rw [if_pos hc] at q
        obtain ⟨rfl, he⟩ := hc
        obtain ⟨a, dx, gs, rfl, r2, hH, hb, fr⟩ := cell_obj R px hn
        obtain rfl : v = Value.ref a := rx
        obtain ⟨tb, lk, nf⟩ := looks_rp O hlt I R ry py he
        obtain ⟨mA, J, _⟩ := ins_get I.hok hH
        obtain ⟨od, J, _⟩ := J.look
        obtain ⟨m, hF⟩ := I.fr
        refine PySem.W.cmp_K (op := .Eq) (tb := tb) (by have := O.u; omega) hF I.ok.mod.kin J lk nf hs hf ?_
        obtain ⟨k, fd, ps, Fn, hr, hbd⟩ := FE.ex
        have run := run_fnS (E := WE noW) (Q := fun w H' => ∃ k, w = .bl k ∧ Q (.bl k) H') Fn hr hbd (passAt takes_none5 σ) I (.cons rfl (.cons ry .nil)) (vs := [.ref a, y]) ⟨rho, h, [.ref n, t], R, .cons px (.cons py .nil), by
          show outE D none _ [] H rho _ ((F [.ref n, t] h).nox)
          generalize F [.ref n, t] h = rr at q ⊢
          cases rr with
          | stuck => exact q
          | exc c v h1 => exact q
          | ok w h1 =>
            intro H' rho' s' R' v pv
            cases w with
            | bl k =>
              cases pv
              refine ⟨k, rfl, q H' rho' s' R' _ ?_⟩
              show Rp D none H' rho' (.bl k) (.bl (false != k))
              cases k <;> exact .bl _
            | _ => exact q.elim⟩
        refine thn run fun w s' ⟨vv, H', I', rv, k, ek, qq⟩ => ?_
        subst ek
        cases rv
        exact ⟨.bl k, H', I', rfl, qq⟩
      · rw [if_neg hc] at q; exact q.elim
section
variable {c f : Nat} {a b : Expr} {ia ib : IE} {pos : Pos} {fa : Addr}
theorem t_eqo : ∀ σ H Q, rdE D none W (evE C (.eqo false c f ia ib)) σ H Q → tOp (fun x y H Q => ∃ (W : WX) (σ : L2.St) (rho : Rho) (h : AH) (n : Nat) (t : T), RelH D H rho h ∧ Rp D none H rho x (.ref n) ∧ Rp D none H rho y t ∧ outE D none W σ H rho Q (eqoR (C.F f) c n t h)) (rdE D none W (evE C ia)) (rdE D none W (evE C ib)) σ H Q := fun σ H Q ⟨rho, env, h, e, r, q⟩ =>
  ⟨rho, env, h, e, r, rd_bind ⟨e, r⟩ q fun t H' rho' h' v A s p q => ⟨rho', env, h', A.e, A.r, rd_bind A q fun t2 H2 rho2 h2 v2 A2 s2 p2 q2 => by
    cases t with
    | ref n => exact ⟨W, σ, rho2, h2, n, t2, A2.r, p.step s2, p2, q2⟩
    | _ => exact q2.elim⟩⟩
theorem x_eqo (O : Okx D X) (hlt : c < D.nc) (FE : FnE D X.prog X.w X.K X.mg X.base X.A (fun ts h => (C.F f ts h).nox) fa) (hs : PySem.W.findIn X.K (.ref (D.ca c)) "__eq__" = some (some (.ref fa))) (hf : PySem.W.isFn X.K (.ref fa) = true)
    (ha : XP D X W C a ia) (hb : XP D X W C b ib) : XP D X W C (.Compare a [.Eq] [b] pos) (.eqo false c f ia ib) :=
  PE_imp (pe_cmpR (op_eqo O hlt FE hs hf) ha hb (nomark _)) t_eqo
theorem b_eqo (O : Okx D X) (hlt : c < D.nc) (FE : FnE D X.prog X.w X.K X.mg X.base X.A (fun ts h => (C.F f ts h).nox) fa) (hs : PySem.W.findIn X.K (.ref (D.ca c)) "__eq__" = some (some (.ref fa))) (hf : PySem.W.isFn X.K (.ref fa) = true)
    (ha : XP D X W C a ia) (hb : XP D X W C b ib) : XB D X W C (.Compare a [.Eq] [b] pos) (.eqo false c f ia ib) :=
  PT_imp (pt_cmpR (op_eqo O hlt FE hs hf) ha hb (nomark _)) fun σ H Q ⟨rho, env, h, e, r, q⟩ => by
    refine t_eqo σ H _ ⟨rho, env, h, e, r, ?_⟩
    have q' : outR D W σ H rho (fun b H' _ _ => Q b H') ((evE C (.eqo false c f ia ib) env h).isB) := by rw [← evB_eq]; exact q
    generalize hg : evE C (.eqo false c f ia ib) env h = rr at q' ⊢
    cases rr with
    | exc _ _ _ => exact q'
    | stuck => exact q'
    | ok t h1 =>
      have hb : ∃ k, t = .bl k := by
        have hg' : (evE C ia env h).bind (fun x h1 => (evE C ib env h1).bind fun y h2 => match x with
          | .ref m => eqoR (C.F f) c m y h2
          | _ => .stuck) = .ok t h1 := hg
        cases e1 : evE C ia env h with
        | ok x h2 =>
          rw [e1] at hg'
          have hg2 : (evE C ib env h2).bind (fun y h2 => match x with
            | .ref m => eqoR (C.F f) c m y h2
            | _ => .stuck) = .ok t h1 := hg'
          cases e2 : evE C ib env h2 with
          | ok y h3 =>
            rw [e2] at hg2
            cases x with
            | ref m =>
              have hg3 : eqoR (C.F f) c m y h3 = .ok t h1 := hg2
              unfold eqoR at hg3
              cases hn : h3[m]? with
              | none => rw [hn] at hg3; cases hg3
              | some cl =>
                rw [hn] at hg3
                cases cl with
                | lst _ => cases hg3
                | dct _ _ _ => cases hg3
                | exo _ _ => cases hg3
                | obj c' fs =>
                  dsimp only at hg3
                  split at hg3
                  · generalize (C.F f [.ref m, y] h3).nox = r4 at hg3
                    cases r4 with
                    | ok w h4 =>
                      cases w with
                      | bl k => cases hg3; exact ⟨_, rfl⟩
                      | _ => cases hg3
                    | exc _ _ _ => cases hg3
                    | stuck => cases hg3
                  · cases hg3
            | _ => cases hg2
          | exc _ _ _ => rw [e2] at hg2; cases hg2
          | stuck => rw [e2] at hg2; cases hg2
        | exc _ _ _ => rw [e1] at hg'; cases hg'
        | stuck => rw [e1] at hg'; cases hg'
      obtain ⟨k, rfl⟩ := hb
      intro H' rho' s' R' v p
      cases p
      exact ⟨k, rfl, q' H' rho' s' R'⟩
end
theorem x_rev (O : Okx D X) {m : Bool} {a : Expr} {ia : IE} {k : Nat} {p1 p2 p3 pos : Pos} (he : XP D X W C a ia) : XP D X W C (.Subscript a (.Slice none none (some (.UnaryOp .USub (.Constant (.int 1) k p1) p2)) p3) pos) (.rev m ia) := by
  refine ⟨fun pins s σ H Q I ⟨rho, env, h, e, r, q⟩ => ?_⟩
  refine ep_frz (u := .none) (s := s) (Subscript_ (thn (he.run pins s σ H (fun v H1 => ∃ t rho1 h1, RelH D H1 rho1 h1 ∧ Rp D none H1 rho1 v t ∧ outE D none W σ H1 rho1 Q (revT m t h1)) I ⟨rho, env, h, e, r, rd_bind ⟨e, r⟩ q fun t H' rho' h' v A s p q => ⟨t, rho', h', A.r, p, q⟩⟩) fun v s1 ⟨x, H1, I1, r1, t, rho1, h1, R1, px, q1⟩ => ?_))
  have hst : PO X (some (.UnaryOp .USub (.Constant (.int 1) k p1) p2)) (tPart (tUn (rU fun i => .int (-i)) (tC (.int 1)))) := po_some (pe_un un_neg pe_int)
  refine wpAny_Slice (thn (po_none.run pins s1 σ H1 (fun o H2 => o = none ∧ H2 = H1) I1 ⟨rfl, rfl⟩) fun vl s2 ⟨l, H2, I2, pl, el, e2⟩ => ?_)
  subst el e2
  refine thn (po_none.run pins s2 σ H2 (fun o H3 => o = none ∧ H3 = H2) I2 ⟨rfl, rfl⟩) fun vu s3 ⟨u, H3, I3, pu, eu, e3⟩ => ?_
  subst eu e3
  refine thn (hst.run pins s3 σ H3 (fun o H4 => o = some (-1) ∧ H4 = H3) I3 ⟨1, rfl, -1, rfl, rfl, rfl⟩) fun vs s4 ⟨o, H4, I4, ps, eo, e4⟩ => ?_
  subst eo e4
  have I5 : Inv X pins σ H4 { s4 with heap := s4.heap.push { cls := .type "slice", data := .fields #[vl, vu, vs] } } := I4.kept (t' := s4.toks) fun b ob q => Heap.get?_push_of_some _ q
  show wpAny (model X.prog X.w) X.A (subscriptTail a (.Slice none none (some (.UnaryOp .USub (.Constant (.int 1) k p1) p2)) p3) v (.ref s4.heap.objs.size)) (EP X pins σ (FrzQ Q)) X.xe { s4 with heap := s4.heap.push { cls := .type "slice", data := .fields #[vl, vu, vs] } }
  unfold revT at q1
  cases es : snap h1 t with
  | tup xs =>
    rw [es] at q1
    have et := snap_of_tup es
    subst et
    cases px with
    | tup hq l =>
      cases r1
      obtain ⟨its, rv, ht, hz⟩ := I5.tuple (SqT.of hq)
      have hlen := rv.length
      refine tail_any (ops := [.ref _, .ref s4.heap.objs.size]) ht.typeIs (PyProof.Rows.slot_tuple_getitem.lookup) ?_ (by with_unfolding_all rfl)
      refine getItem_tuple_rev ht (Heap.IsSliceOf.new _ vl vu vs) pl pu ps ?_ (by rw [List.size_toArray]; omega)
      refine ⟨.ref _, _, I5.laid (t' := s4.toks) (o := .tup _) (fun b ob q => Heap.get?_push_of_some _ q) (Nat.le_refl _) ⟨?_, _, rv.reverse, IsTup.new _ _⟩, rfl, .inl (tup_ok R1 l.reverse q1 (I5.hok.fresh (Nat.le_refl _)))⟩
      rw [List.length_reverse]; exact hz
  | lst xs =>
    rw [es] at q1
    obtain ⟨a', ws, rfl, ha, l⟩ := view_list R1 px (list_of_snap es)
    cases r1
    obtain ⟨its, r, ht, hz⟩ := I5.list (O.K ▸ ha)
    have hlen := r.length
    refine tail_any (ops := [.ref a', .ref s4.heap.objs.size]) ht.isList.typeIs (PySem.slot_list_getitem.lookup) ?_ (by with_unfolding_all rfl)
    refine wpAny_getItem_list_slice ht.isList (Heap.IsSliceOf.new _ vl vu vs) pl pu ps (by decide) ?_ (by rw [List.size_toArray]; omega)
    rw [PySem.W.krv_pick]
    refine ⟨.ref _, _, I5.laid (t' := s4.toks) (o := .lst ws.reverse) (fun b ob q => Heap.get?_push_of_some _ q) (Nat.le_refl _) ?_, rfl, (fresh_ok R1 l.reverse q1).2 _ (I5.hok.fresh (Nat.le_refl _))⟩
    exact ⟨by rw [List.length_reverse]; exact hz, _, 0, r.reverse, Heap.get?_push_size _ rfl⟩
  | _ => rw [es] at q1; exact q1.elim
end PS
end
section
set_option maxRecDepth 100000
set_option maxHeartbeats 2000000
namespace PS
open PySem PySem.Spec PyProof.Rows L2
def oexB (K : PySem.W.Frag) (C : Addr) : Bool := (match K.lookup C with
  | some ⟨.type T, _, .cls cd, sl⟩ => (match cd.mro, sl.toList with
    | .ref C' :: bm, [_, _, _, _, some (.builtin n), _] => decide (T = "type") && (decide (C' = C) && (decide (n = "ValueError.__new__") && (!cd.hasDel && (cd.hasDict && PySem.HandSPX.refsVE bm))))
    | _, _ => false)
  | _ => false) && (decide (PySem.W.findIn K (.ref C) "__setattr__" = some (some (.builtin "object.__setattr__"))) && (decide (PySem.W.subIn K (.ref C) (.type "BaseException") = some true) && (decide (PySem.W.typeIn K (.ref C) = some (.type "type")) && PySem.W.keepIn K (.ref C))))
theorem oexB_ok {K : PySem.W.Frag} {C : Addr} (q : oexB K C = true) : OexC K C := by
  unfold oexB at q
  simp only [Bool.and_eq_true, decide_eq_true_eq] at q
  obtain ⟨q, sa, ex, ty, kp⟩ := q
  refine ⟨?_, sa, ex, ty, kp⟩
  split at q
  · rename_i T dd cd sl ho
    split at q
    · rename_i C' bm k0 k1 k2 k3 n k5 hm hs
      simp only [Bool.and_eq_true, decide_eq_true_eq, Bool.not_eq_true'] at q
      obtain ⟨rfl, rfl, rfl, hdel, hd, hr⟩ := q
      obtain ⟨nm, bs, mro, ns, qn, hdd, sn, sub, ab, col, del⟩ := cd
      dsimp only at hm hdel hd hr
      subst hm hdel hd
      have hsl : sl = #[k0, k1, k2, k3, some (.builtin "ValueError.__new__"), k5] := by
        obtain ⟨l⟩ := sl
        simp only at hs
        rw [hs]
      subst hsl
      exact ⟨nm, qn, ns, bs, bm, sn, sub, ab, col, dd, k0, k1, k2, k3, k5, ho, hr⟩
    · cases q
  · cases q
def clsOkB (D : Wd) (c : Nat) : Bool := decide (PySem.W.findIn D.K (.ref (D.ca c)) "__class__" = some (some (.builtin "object.__class__"))) && (decide (PySem.W.specialIn D.K (.builtin "object.__class__") "__get__" = some (some (.builtin "getset_descriptor.__get__"))) &&
  (decide (PySem.W.takesIn D.K (.builtin "object.__class__") = some true) && (decide (PySem.W.mroIn D.K (D.ca c) (.type "object") = some true) &&
  ((["NoneType", "bool", "int", "str", "tuple", "list"] : List String).all (fun T => decide (PySem.W.kitOne D.K (.type T) (.ref (D.ca c)) = some false) && PySem.W.notFirst D.K (D.ca c) (.type T)) &&
  ((["int", "bool", "str", "tuple", "list"] : List String).all (fun T => decide (PySem.W.kitOne D.K (.ref (D.ca c)) (.type T) = some false)) &&
  (List.range D.nc).all fun d => decide (PySem.W.kitOne D.K (.ref (D.ca c)) (.ref (D.ca d)) = some (c == d)) && PySem.W.notFirst D.K (D.ca c) (.ref (D.ca d)))))))
theorem clsOkB_ok {D : Wd} {c : Nat} (cl : Cls D.K (D.ca c)) (h : clsOkB D c = true) : ClsOk D c := by
  unfold clsOkB at h
  simp only [Bool.and_eq_true, decide_eq_true_eq, List.all_eq_true, List.mem_range] at h
  obtain ⟨h1, h2, h3, h4, h5, h6, h7⟩ := h
  exact ⟨cl, h1, h2, h3, h4, fun T hT => (h5 T hT).1, h6, fun T hT => (h5 T hT).2, fun d hd => (h7 d hd).2, fun d hd => (h7 d hd).1⟩
def keyStr (e : DictEntry) : Option Str := match e.key with
  | .str x _ => some x
  | _ => none
def keysB (K : PySem.W.Frag) (d : Addr) (ks : List Str) : Bool := match K.lookup d with
  | some ⟨_, _, .dict es _, _⟩ => decide (es.toList.map keyStr = ks.map some)
  | _ => false
theorem keys_find : ∀ {es : List DictEntry} {ks : List Str} (z : Str), es.map keyStr = ks.map some → (es.find? (·.key.isStr z)).isSome = ks.contains z ∧ es.any (·.refKey) = false
  | [], [], _, _ => ⟨rfl, rfl⟩
  | [], _ :: _, _, h => by cases h
  | _ :: _, [], _, h => by cases h
  | e :: es, k :: ks, z, h => by
    simp only [List.map_cons, List.cons.injEq] at h
    obtain ⟨h1, h2⟩ := h
    obtain ⟨i1, i2⟩ := keys_find z h2
    have hk : ∃ t, e.key = .str k t := by
      unfold keyStr at h1
      split at h1
      · rename_i x t hx
        cases h1
        exact ⟨t, hx⟩
      · cases h1
    obtain ⟨t, hk⟩ := hk
    have e1 : e.key.isStr z = (k == z) := by rw [hk]; rfl
    have e2 : e.refKey = false := by unfold DictEntry.refKey; rw [hk] <;> rfl
    rw [List.find?_cons, List.any_cons, e1, e2, i2, List.contains_cons]
    by_cases hz : k = z
    · subst hz
      simp
    · have b1 : (k == z) = false := by simpa using hz
      have b2 : (z == k) = false := by simpa using Ne.symm hz
      rw [b1, b2]
      exact ⟨by simpa using i1, rfl⟩
theorem keysB_ok {K : PySem.W.Frag} {d : Addr} {ks : List Str} (h : keysB K d ks = true) (z : Str) : ∃ r, PySem.W.nsIn K d z = some r ∧ r.isSome = ks.contains z := by
  unfold keysB at h
  unfold PySem.W.nsIn
  split at h
  · rename_i c dd es n sl ho
    rw [ho]
    obtain ⟨i1, i2⟩ := keys_find z (of_decide_eq_true h)
    dsimp only
    cases hf : es.toList.find? (·.key.isStr z) with
    | some e => rw [hf] at i1; exact ⟨_, rfl, i1⟩
    | none => rw [hf] at i1; exact ⟨none, by simp [i2], i1⟩
  · cases h
def valsB (K : PySem.W.Frag) (d : Addr) (zs : List (Str × Int)) : Bool := zs.all fun p => match PySem.W.nsIn K d p.1 with
  | some (some (.int j _)) => decide (j = p.2)
  | _ => false
theorem valsB_ok {K : PySem.W.Frag} {d : Addr} {zs : List (Str × Int)} (h : valsB K d zs = true) {z : Str} {t : T} (hl : (zs.map fun p => (p.1, T.int p.2)).lookup z = some t) : ∃ i u tk, t = .int i ∧ PySem.W.nsIn K d z = some (some u) ∧ u = .int i tk := by
  induction zs with
  | nil => cases hl
  | cons p zs ih =>
    unfold valsB at h
    simp only [List.all_cons, Bool.and_eq_true] at h
    by_cases hz : z = p.1
    · subst hz
      simp [List.lookup] at hl
      subst hl
      have h1 := h.1
      split at h1
      · rename_i j tk hj
        have := of_decide_eq_true h1
        subst this
        exact ⟨_, _, tk, rfl, hj, rfl⟩
      · cases h1
    · have hb : (z == p.1) = false := by simpa using hz
      simp only [List.map_cons, List.lookup, hb] at hl
      exact ih h.2 hl
def noList (K : PySem.W.Frag) : Bool := K.all fun p => !(p.2.cls == .type "list")
theorem lookup_mem' {a : Addr} {o : Obj} : ∀ {l : List (Addr × Obj)}, l.lookup a = some o → (a, o) ∈ l
  | [], h => by cases h
  | (b, u) :: r, h => by
    by_cases e : a = b
    · subst e
      simp [List.lookup] at h
      subst h
      simp
    · have hb : (a == b) = false := by simpa using e
      simp only [List.lookup, hb] at h
      exact List.mem_cons_of_mem _ (lookup_mem' h)
theorem script_rp {D : Wd} {H : Hp} {a : Addr} {ns : List Int} (nl : noList D.K = true) (hO : Only H) (h : SqL D.K H a (ns.map V.int)) : Rp D none H [] (.ref a) (.lst (ns.map T.int)) := by
  have l : RpL D none H [] (ns.map V.int) (ns.map T.int) := by
    clear h
    induction ns with
    | nil => exact .nil
    | cons n ns ih => exact .cons (.int n) ih
  rcases h with h | ⟨o, its, n, hk, hc, _⟩
  · rcases h with h | ⟨o, h⟩
    · rcases hO a with z | ⟨o, xs, z⟩
      · rw [h] at z; cases z
      · rw [h] at z; cases z
    · exact .lst h l
  · have := List.all_eq_true.mp nl _ (lookup_mem' hk)
    rw [hc] at this
    cases this
theorem law_sp {D : Wd} {F : List T → AH → R T} {H : Hp} {a : Addr} {ns : List Int} (nl : noList D.K = true) (hO : Only H) (h : SqL D.K H a (ns.map V.int)) (hF : ∃ h', F [.lst (ns.map T.int)] [] = .ok (.bl true) h') : spR D F [.ref a] H (fun v _ => v = .bl true) fun _ _ _ => False := by
  obtain ⟨h', e⟩ := hF
  refine ⟨[], [], [.lst (ns.map T.int)], ⟨rfl, .nil, fun n a c e _ => by simp at e⟩, .cons (script_rp nl hO h) .nil, ?_⟩
  rw [e]
  intro H' rho' s R v p
  cases p
  rfl
theorem fn_cx0 {P : Program} {w : World} {K : PySem.W.Frag} {mg : Str → Option Value} {base : Heap} {k : Nat} {f : Addr} {fd : FuncData} {ps : List Str} {sp : Sp} (F : FnOk P w K mg base (L2.CX P w) k f fd ps sp) :
    FnOk P w K mg base CX0 k f fd ps (fun vs H Q _ => sp vs H Q fun _ _ _ => False) := by
  refine ⟨fun vs H Q E h => F.len vs H Q _ h, fun A outer s H args us vs Q E hr e0 hb r h => codeAny_mono (F.run A outer s H args us vs Q _ hr e0 hb r h) fun r s' q => ?_⟩
  cases r with
  | error e =>
    obtain ⟨_, _, _, _, _, _, _, _, _, _, _, _, z⟩ := q
    exact z.elim
  | ok fl => cases fl <;> exact q
end PS
end
section
set_option maxRecDepth 100000
set_option maxHeartbeats 2000000
namespace PS
open PySem PySem.Spec PyProof.Rows L2
variable {D : Wd} {X : Cx} {C : Ctx} {W : WX} {σ : L2.St} {H : Hp} {rho : Rho} {env : Env} {h : AH} {pins : List (Addr × Obj)} {s : Shared}
theorem keys_pairs {prog : Program} {w : World} : ∀ {l : List DictEntry} {zs : List Str}, l.map keyStr = zs.map some → ∃ kvs : List (Str × Value), Pairs (strKind prog w) l kvs ∧ kvs.map (·.1) = zs
  | [], [], _ => ⟨[], Pairs.nil, rfl⟩
  | [], _ :: _, h => by cases h
  | _ :: _, [], h => by cases h
  | e :: r, z :: zs, h => by
    rw [List.map_cons, List.map_cons] at h
    injection h with h1 h2
    obtain ⟨kvs, p, e2⟩ := keys_pairs (prog := prog) (w := w) h2
    obtain ⟨hs, k, v⟩ := e
    cases k with
    | str x t =>
      have h1 : some x = some z := h1
      cases h1
      exact ⟨(z, v) :: kvs, Pairs.cons (strKind_is prog w z t) rfl p, by rw [List.map_cons, e2]⟩
    | _ => cases h1
theorem kd_at {d : Addr} {es : Array DictEntry} {n : Nat} {zs : List Str} (I : Inv X pins σ H s) (K : KDict X.K X.w d es n) (hz : es.toList.map keyStr = zs.map some) (hn : zs.Nodup) :
    ∃ kvs : List (Str × Value), s.heap.DictAt (strKind X.prog X.w) d kvs n ∧ kvs.map (·.1) = zs := by
  obtain ⟨o, es2, ep2, h1, h2, h3, h4, _⟩ := PySem.W.mapOf_K (prog := X.prog) (w := X.w) I.kIn K.at_ K.lit
  have ho : s.heap.get? d = some ⟨.type "dict", none, .dict es n, #[]⟩ := I.kIn d _ K.at_
  rw [ho] at h1
  cases h1
  cases h3
  obtain ⟨kvs, p, e⟩ := keys_pairs (prog := X.prog) (w := X.w) hz
  exact ⟨kvs, ⟨_, es, ho, h2, rfl, h4, p, by rw [e]; exact hn⟩, e⟩
theorem strs_at {zs : List Str} {prog : Program} {w : World} {kvs : List (Str × Value)} (e : kvs.map (·.1) = zs) : ∀ (us : List Value), us.length = kvs.length → (∀ (j : Nat) (v : Value), us[j]? = some v → ∃ k x, kvs[j]? = some (k, x) ∧ (strKind prog w).is k v = true) → Vals (zs.map V.str) us := by
  subst e
  induction kvs with
  | nil =>
    intro us hl _
    cases us with
    | nil => exact .nil
    | cons _ _ => simp at hl
  | cons p r ih =>
    intro us hl hq
    cases us with
    | nil => simp at hl
    | cons u us =>
      obtain ⟨k, x, e1, e2⟩ := hq 0 u rfl
      simp at e1
      subst e1
      obtain ⟨t, ev⟩ := Value.isStrOf_shape (x := k) (v := u) e2
      subst ev
      exact .cons ⟨t, rfl⟩ (ih us (by simpa using hl) fun j v hj => hq (j + 1) v (by simpa using hj))
theorem call_list_kd {d : Addr} {es : Array DictEntry} {n : Nat} {zs : List Str} (hc : X.calm = true) (K : KDict X.K X.w d es n) (hz : es.toList.map keyStr = zs.map some) (hn : zs.Nodup) (hl : zs.length ≤ sizeLine) :
    CallR X (.type "list") (fun xs H Q => xs = [V.ref d] ∧ ∀ p, H p = none → Q (.ref p) (upd H p (.lst (zs.map V.str)))) := by
  intro pins s σ H xs us Q I r q
  obtain ⟨ex, q⟩ := q
  subst ex
  obtain ⟨u, eu, rx⟩ := vals1 r
  subst eu
  cases rx
  obtain ⟨kvs, hat, ek⟩ := kd_at I K hz hn
  have el : kvs.length = zs.length := by rw [← ek, List.length_map]
  refine PySem.W.kdl_call (PySem.W.kdl_dict (knd := strKind X.prog X.w) (kvs := kvs) (ep := n) K.low) (I.ok.hd hc) hat (by rw [el]; exact hl) fun h' tk acc c' hk hD hacc => ?_
  have hv : Vals (zs.map V.str) acc.toList := strs_at ek acc.toList (by rw [Array.length_toList]; exact hacc.1) fun j v e => hacc.2 j v (by rw [← Array.getElem?_toList]; exact e)
  refine ⟨.ref s.heap.objs.size, upd H s.heap.objs.size (.lst (zs.map V.str)), I.laid (t' := tk) hk (Nat.le_refl _)
    (show ObjOk X.prog X.w _ _ _ (.lst (zs.map V.str)) from ⟨by rw [List.length_map]; exact hl, acc.toList, c', hv, by rw [Array.toArray_toList]; exact hD⟩), rfl, q _ (I.hok.fresh (Nat.le_refl _))⟩
def strIL : List Str → IL
  | [] => .nil
  | z :: zs => .cons (.cst (.str z)) (strIL zs)
theorem evL_strs (C : Ctx) (env : Env) (h : AH) : ∀ zs : List Str, evL C (strIL zs) env h = .ok (zs.map T.str) h
  | [] => rfl
  | z :: zs => by
    show evL C (.cons (.cst (.str z)) (strIL zs)) env h = _
    rw [evL, evE, R.bind_ok, evL_strs C env h zs, R.bind_ok]
    rfl
theorem rpl_strs {H : Hp} {rho : Rho} : ∀ zs : List Str, RpL D none H rho (zs.map V.str) (zs.map T.str)
  | [] => .nil
  | z :: zs => .cons (.str z) (rpl_strs zs)
theorem x_lkeys {m : Bool} {d : Addr} {zs : List Str} {x y : Str} {p p2 pos : Pos} (hcalm : X.calm = true) (K : ∃ es n, KDict X.K X.w d es n) (hz : ∀ es n, KDict X.K X.w d es n → es.toList.map keyStr = zs.map some) (hnd : zs.Nodup) (hlz : zs.length ≤ sizeLine)
    (hg : Gl X x) (hm : X.mg x = none) (hv : bootBuiltins x = some (.type "list")) (hb : PE X (.Name y p2) (tC (.ref d))) (hn : x ≠ "__name__" := by decide) (hdb : (x == ("__debug__" : Str)) = false := by decide) :
    XP D X W C (.Call (.Name x p) [.Name y p2] [] pos) (.lst m (strIL zs)) := by
  obtain ⟨es, n, K⟩ := K
  refine PE_imp (PE_frz (pe_callTy (call_list_kd hcalm K (hz es n K) hnd hlz) hg hm hv (pa_cons hb pa_nil) hn hdb)) fun σ H Q ⟨rho, env, h, e, r, q⟩ => ?_
  have q2 : outE D none W σ H rho Q (fresh m (zs.map T.str) h) := by
    have q' : outE D none W σ H rho Q ((evL C (strIL zs) env h).bind fun xs h1 => fresh m xs h1) := q
    rw [evL_strs, R.bind_ok] at q'
    exact q'
  exact ⟨rfl, (fresh_ok r (rpl_strs zs) q2).2⟩
theorem x_kgetS {a i : Expr} {ii : IE} {pos : Pos} {k : Nat} {zs : List (Str × T)} {d : Addr} (hK : ∃ es m, KDict X.K X.w d es m) (hz : ∀ z t, zs.lookup z = some t → ∃ x u tk, t = .str x ∧ PySem.W.nsIn X.K d z = some (some u) ∧ u = .str x tk) (hb : PE X a (tC (.ref d))) (hi : XP D X W C i ii) (hs : PlainIx i := by intro _ _; rfl) :
    XP D X W C (.Subscript a i pos) (.kget k zs ii) := by
  obtain ⟨es, m, hK⟩ := hK
  exact PE_imp (pe_ix ix_kdict hb hi hs) fun σ H Q ⟨rho, env, h, e, r, q⟩ => ⟨rho, env, h, e, r, rd_bind ⟨e, r⟩ q fun t H' rho' h' v A s p q => by
    cases t with
    | str z =>
      cases p
      obtain ⟨u, eu, q2⟩ := of_of1 q
      obtain ⟨n, w, tk, rfl, h1, rfl⟩ := hz z u eu
      exact ⟨d, z, .str n, rfl, rfl, ⟨es, m, _, hK.at_, hK.lit, h1, ⟨tk, rfl⟩⟩, val_ok A.r (.str n) q2⟩
    | _ => exact q.elim⟩
theorem keysB_ord {K : PySem.W.Frag} {w : World} {d : Addr} {ks : List Str} {es : Array DictEntry} {n : Nat} (kd : KDict K w d es n) (h : keysB K d ks = true) : es.toList.map keyStr = ks.map some := by
  unfold keysB at h
  rw [kd.at_] at h
  exact of_decide_eq_true h
def valsSB (K : PySem.W.Frag) (d : Addr) (zs : List (Str × Str)) : Bool := zs.all fun p => match PySem.W.nsIn K d p.1 with
  | some (some (.str j _)) => decide (j = p.2)
  | _ => false
theorem valsSB_ok {K : PySem.W.Frag} {d : Addr} {zs : List (Str × Str)} (h : valsSB K d zs = true) {z : Str} {t : T} (hl : (zs.map fun p => (p.1, T.str p.2)).lookup z = some t) : ∃ i u tk, t = .str i ∧ PySem.W.nsIn K d z = some (some u) ∧ u = .str i tk := by
  induction zs with
  | nil => cases hl
  | cons p zs ih =>
    unfold valsSB at h
    simp only [List.all_cons, Bool.and_eq_true] at h
    by_cases hz : z = p.1
    · subst hz
      simp [List.lookup] at hl
      subst hl
      have h1 := h.1
      split at h1
      · rename_i j tk hj
        have := of_decide_eq_true h1
        subst this
        exact ⟨_, _, tk, rfl, hj, rfl⟩
      · cases h1
    · have hb : (z == p.1) = false := by simpa using hz
      simp only [List.map_cons, List.lookup, hb] at hl
      exact ih h.2 hl
end PS
end
section
set_option maxRecDepth 100000
set_option maxHeartbeats 4000000
namespace PySem.W
open PySem PySem.Spec PySem.Calls PyProof.Rows
section
variable {prog : Program} {w : World} {A : Around} {E : Value → Shared → Prop} {s : Shared} {K : Frag} {x D : Addr} {ox : Obj} {od : Option Obj}
theorem findObj_dataO {C : Addr} {name : Str} {a g : Value} (hc : (clsIn K C).isSome = true) (ha : findIn K (.ref C) name = some (some a)) (hg : specialIn K a "__get__" = some (some g)) (ht : takesIn K a = some true) : findObj K C od name = some (.bind g a) := by
  obtain ⟨cd, hc⟩ := Option.isSome_iff_exists.mp hc
  unfold findObj
  rw [hc, Option.bind_some, ha, Option.bind_some]
  simp [hg, ht]
theorem kin_classO {Q : Option Value → Shared → Prop} (hga : findIn K (.ref D) "__getattribute__" = some (some (.builtin "BaseException.__getattribute__"))) (hgt : findIn K (.ref D) "__getattr__" = some none) (hsub : subIn K (.ref D) (.type "BaseException") = some true)
    (hdct : hasDictIn K D = true) (ha : findIn K (.ref D) "__class__" = some (some (.builtin "object.__class__")))
    (hn : specialIn K (.builtin "object.__class__") "__get__" = some (some (.builtin "getset_descriptor.__get__"))) (htk : takesIn K (.builtin "object.__class__") = some true) (hm : mroIn K D (.type "object") = some true)
    (X : K.In s.heap) (I : InstAt s.heap x ox D od) (h : Q (some (.ref D)) { s with toks := s.toks + 1 }) : wpAny (model prog w) A (getAttr? (.ref x) "__class__") Q E s := by
  have hf : findObj K D od "__class__" = some (.bind (.builtin "getset_descriptor.__get__") (.builtin "object.__class__")) := findObj_dataO (by obtain ⟨cd, hc, _⟩ := any_some hdct; rw [hc]; rfl) ha hn htk
  obtain ⟨hp, g, d, t, os⟩ := s
  have L0 := I.type (M := model prog w)
  have L1 := looks_findIn (M := model prog w) X hga
  have L2 := looks_findIn (M := model prog w) X hgt
  have L3 := looks_find (M := model prog w) X I hf
  have sub : Looks (model prog w) hp (isInstance (.ref x) (.type "BaseException")) true := L0.andThen (looks_subIn X hsub)
  have hx0 : (false && onTheHeap (Value.builtin "BaseException.__getattribute__")) = false := rfl
  have hx2 : (Value.builtin "BaseException.__getattribute__" == Value.builtin "object.__getattribute__") = false := by decide +kernel
  have hx1 : (onTheHeap (Value.ref D) && Value.builtin "BaseException.__getattribute__" == Value.builtin "object.__getattribute__") = false := by rw [hx2]; rfl
  unfold getAttr? getAttrBy? getAttrBy
  refine wpAny_bind (wpAny_mkText (wpAny_bind (wpAny_attempt (wpAny_holding (wpAny_bind (L0.at (wpAny_bind (L1.at ?_))))))))
  show wpAny _ _ (if (onTheHeap (Value.ref D) && Value.builtin "BaseException.__getattribute__" == Value.builtin "object.__getattribute__") = true then _ else _) _ _ _
  rw [hx1, if_neg Bool.false_ne_true]
  unfold getAttrByItsOwn hookBefore
  refine wpAny_bind ?_
  rw [if_pos (show onTheHeap (Value.ref D) = true from rfl)]
  refine L2.at ?_
  refine wpAny_bind (wpAny_attempt (wpAny_holding ?_))
  unfold callGetattribute
  rw [hx0, if_neg Bool.false_ne_true]
  unfold boundAndCalled
  rw [PySem.F.excAttr_ValueError.ga.bind (.ref x)]
  refine wpAny_bind (wpAny_pure ?_)
  show wpAny _ _ (call (.builtin "BaseException.__getattribute__") [.ref x, .str "__class__" t]) _ _ _
  refine wpAny_call (codeAny_call_builtin PySem.F.excAttr_ValueError.ga.plain PySem.F.entry_bexc_ga ?_)
  refine @check_slot (model prog w) _ _ ⟨hp, g, d, t + 1, os⟩ "BaseException.__getattribute__" "BaseException" "__getattribute__" (.ref x) [.str "__class__" t] [] _ (by decide +kernel) (by decide +kernel) sub (PySem.F.args_bexc_ga (.ref x) (.str "__class__" t)) ?_
  unfold Builtin.«object.__getattribute__»
  refine wpAny_bind (wpAny_of_eq (a := ((Value.ref x : Value), [Value.str "__class__" t])) (by first | rfl | (simp only [slotArgs]; rfl)) ?_)
  refine wpAny_bind (wpAny_pure (wpAny_bind (L0.at (wpAny_bind (L3.at ?_)))))
  show wpAny _ _ (holding [Value.builtin "object.__class__"] (call (.builtin "getset_descriptor.__get__") [.builtin "object.__class__", .ref x, .ref D]) >>= ret) _ _ _
  refine wpAny_bind (wpAny_holding (wpAny_call (class_get (s := ⟨hp, g, d, t + 1, os⟩) (ox := ox) (od := od) X I hm ?_)))
  refine wpAny_pure ?_
  show wpAny _ _ (handedOut (.ref D)) _ _ _
  rw [handedOut_of (v := .ref D) rfl]
  first
    | exact wpAny_pure (wpAny_pure h)
    | exact wpAny_pure h
    | exact wpAny_pure (wpAny_bind (wpAny_pure (wpAny_pure h)))
theorem kitx_excO (hga : findIn K (.ref D) "__getattribute__" = some (some (.builtin "BaseException.__getattribute__"))) (hgt : findIn K (.ref D) "__getattr__" = some none) (hsub : subIn K (.ref D) (.type "BaseException") = some true) (hdct : hasDictIn K D = true) (ha : findIn K (.ref D) "__class__" = some (some (.builtin "object.__class__")))
    (hn : specialIn K (.builtin "object.__class__") "__get__" = some (some (.builtin "getset_descriptor.__get__"))) (htk : takesIn K (.builtin "object.__class__") = some true) (hm : mroIn K D (.type "object") = some true) :
    KitX K (.ref x) (.ref D) (fun h => InstAt h x ox D od) where
  ty := fun _ _ _ I => I.type
  it := fun _ _ X _ => by
    obtain ⟨cdD, hcD, _⟩ := any_some hdct
    unfold clsIn at hcD
    split at hcD
    · rename_i c' d' cd' sl' ho
      intro A' Q' E' s' k q
      unfold isType loadHead
      exact wpAny_bind (wpAny_loadPart (k _ _ (X _ _ ho)) (wpAny_pure q))
    · cases hcD
  ne := fun h tp dd its n sl X htp => by
    obtain ⟨cdD, hcD, _⟩ := any_some hdct
    refine Bool.eq_false_iff.mpr fun q => ?_
    have e : D = tp := Value.ref.inj (beq_iff_eq.mp q)
    subst e
    unfold clsIn at hcD
    split at hcD
    · rename_i c' d' cd' sl' ho
      have z := (X _ _ ho).symm.trans htp
      cases z
    · cases hcD
  ca := fun X I k => kin_classO hga hgt hsub hdct ha hn htk hm X I k
end
end PySem.W
namespace L2
open PySem PySem.Spec PyProof.Rows
def rIsO (K : PySem.W.Frag) : List V → Hp → VK → Prop := fun xs H Q => ∃ (a C d : Addr) (fs : List (Str × V)) (c : V) (cv : Value) (b : Bool), xs = [.ref a, c] ∧ (∀ u, RelV c u → u = cv) ∧ H a = some (exo a C (some d)) ∧ H d = some (.xd fs) ∧ ExcC K C ∧ PySem.W.kitOne K (.ref C) cv = some b ∧ Q (.bl b) H
theorem call_isO {X : Cx} : CallR X (.builtin "isinstance") (rIsO X.K) := by
  intro pins s σ H xs us Q I r h
  obtain ⟨a, D, d, fs, c, cv, b, rfl, hcv, ea, ed, C, e, q⟩ := h
  cases r with
  | cons rx rr =>
    cases rr with
    | cons rt rr =>
      cases rr
      cases rx
      have ec := hcv _ rt
      subst ec
      obtain ⟨t1, hget⟩ := exo_at I.hok ea
      have hx : ObjOk X.prog X.w H s.heap d (.xd fs) := I.hok d _ ed
      obtain ⟨mA, hns, hr⟩ := hx
      obtain ⟨od, ho, hl⟩ := lookIn_ns hns
      have J : PySem.W.InstAt s.heap a _ D (some od) := ⟨hget, rfl, rfl, ho⟩
      exact PySem.W.kia_one (PySem.W.kitx_excO C.hg C.hk C.hs C.hd C.ha C.hn C.ht C.hm) I.kIn J e (fun z => nomatch z) fun tk => ⟨.bl b, H, I.kept (t' := tk) fun _ _ z => z, rfl, q⟩
def rIsS (K : PySem.W.Frag) (D a d : Addr) : List V → Hp → VK → Prop := fun xs H Q => ∃ (fs : List (Str × V)) (c : V) (cv : Value) (b : Bool), xs = [.ref a, c] ∧ (∀ u, RelV c u → u = cv) ∧ H d = some (.xd fs) ∧ PySem.W.kitOne K (.ref D) cv = some b ∧ Q (.bl b) H
theorem call_isS {X : Cx} {a D d : Addr} {oe : Obj} {pn : List (Addr × Obj)} (C : ExcC X.K D) (hz : Zc (.ref D) (some d) oe) (hf : ∃ vs, oe.data = .fields vs) : CallR (X.suite a ((a, oe) :: pn)) (.builtin "isinstance") (rIsS X.K D a d) := by
  intro pins s σ H xs us Q I r h
  obtain ⟨fs, c, cv, b, rfl, hcv, ed, e, q⟩ := h
  cases r with
  | cons rx rr =>
    cases rr with
    | cons rt rr =>
      cases rr
      cases rx
      have ec := hcv _ rt
      subst ec
      obtain ⟨hget, _⟩ := I.pin (a, oe) (List.mem_append.mpr (.inl List.mem_cons_self))
      obtain ⟨vs, hv⟩ := hf
      have hx : ObjOk X.prog X.w H s.heap d (.xd fs) := I.hok d _ ed
      obtain ⟨mA, hns, hr⟩ := hx
      obtain ⟨od, ho, hl⟩ := lookIn_ns hns
      have J : PySem.W.InstAt s.heap a oe D (some od) := ⟨hget, hz.1, by unfold PySem.W.notCls; rw [hv] <;> rfl, by rw [hz.2]; exact ho⟩
      exact PySem.W.kia_one (PySem.W.kitx_excO C.hg C.hk C.hs C.hd C.ha C.hn C.ht C.hm) I.kIn J e (fun z => nomatch z) fun tk => ⟨.bl b, H, I.kept (t' := tk) fun _ _ z => z, rfl, q⟩
end L2
namespace L2
open PySem PySem.Spec PyProof.Rows
def tMkV (C : Addr) (sp : Sp) (dvs : List V) (ta : TA) : TE := fun σ H Q => ta σ H fun vs H1 => vs.length ≤ 1000 ∧ ∀ a, H1 a = none → sp (.ref a :: (vs ++ dvs)) (upd H1 a (exo a C none))
  (fun v H2 => v = .non ∧ ∃ (d : Addr) (fs : List (Str × V)), H2 a = some (exo a C (some d)) ∧ H2 d = some (exd d fs) ∧ H1 d = none ∧ Q (.ref a) (upd H2 d (.xd fs))) (fun _ _ _ => False)
section
variable {X : Cx} {o e : Expr} {es : List Expr} {to te : TE} {ta : TA} {f : Str} {p p' p1 p2 pos : Pos}
theorem mk_endV {pins : List (Addr × Obj)} {σ : St} {H1 H2 : Hp} {hp hp2 h2 : Heap} {g1 g2 : Array GenState} {d1 d2 : Drawn} {t1 t2 : Nat} {os1 os2 : OsState} {a C d : Addr} {fs : List (Str × V)} (I1 : Inv X pins σ H1 ⟨hp, g1, d1, t1, os1⟩)
    (ha : hp.objs.size ≤ a) (k : ∀ b o, hp.get? b = some o → hp2.get? b = some o) (un : Un (frs X.stack) [] (upd H1 a (exo a C none)) H2 hp2 h2) (hok : HOk X.prog X.w H2 h2) (ho : os2 = os1) (hb : AllBare g2)
    (ea : H2 a = some (exo a C (some d))) (ed : H2 d = some (exd d fs)) (hd1 : H1 d = none) : Inv X pins σ (upd H2 d (.xd fs)) ⟨h2, g2, d2, t2, os2⟩ := by
  obtain ⟨mA, hns, rel⟩ := exd_at hok ed
  have hn : H1 a = none := I1.hok.fresh ha
  have nha : ∀ {b : Addr} {o : Obj}, hp.get? b = some o → b ≠ a := fun {b o} z => Nat.ne_of_lt (Nat.lt_of_lt_of_le (Heap.lt_size z) ha)
  have up : ∀ {b : Addr}, b ≠ a → H1 b = none → upd H1 a (exo a C none) b = none := fun {b} hb n => by rw [upd_ne hb]; exact n
  have nd : ∀ {b : Addr} {o : Obj}, hp.get? b = some o → H1 b = none → b ≠ d := fun {b o} z n e => by
    have y := un.free b o (k b o z) (up (nha z) n) (by simp)
    rw [e, ed] at y
    cases y
  have U : Un (frs X.stack) [] H1 (upd H2 d (.xd fs)) hp h2 := {
    keep := fun b o z n hf hx => un.keep b o (k b o z) (up (nha z) n) hf hx
    slot := fun b o z n hf hx => un.slot b o (k b o z) (up (nha z) n) hf hx
    free := fun b o z n hx => by
      rw [upd_ne (nd z n)]
      exact un.free b o (k b o z) (up (nha z) n) hx
    there := fun b o z hx => un.there b o (k b o z) hx
    tups := fun b xs z => by
      rw [upd_ne (ne_of_none z hd1)]
      exact un.tups b xs (by rw [upd_ne (ne_of_none z hn)]; exact z)
    frzs := fun b o v z => by
      rw [upd_ne (ne_of_none z hd1)]
      exact un.frzs b o v (by rw [upd_ne (ne_of_none z hn)]; exact z)
    tbls := fun b ps z => by
      rw [upd_ne (ne_of_none z hd1)]
      exact un.tbls b ps (by rw [upd_ne (ne_of_none z hn)]; exact z) }
  have hok3 : HOk X.prog X.w (upd H2 d (.xd fs)) h2 := fun b o z => by
    by_cases hbd : b = d
    · subst hbd
      rw [upd_same] at z
      cases z
      exact ⟨mA, hns, rel⟩
    · rw [upd_ne hbd] at z
      exact (hok b o z).stay (fun c v hc y => y)
        (fun c hc => by rw [upd_ne (at_ne ed hc exd_own)]; exact hc) (fun c xs hc => by rw [upd_ne (at_ne ed hc exd_tup)]; exact hc)
  exact I1.call' (ch := []) ho U hok3 hb (fun b z => absurd z (by simp))
theorem pe_oexV {CX : CXT} {x : Str} {C fI : Addr} {k : Nat} {fd : FuncData} {ps : List Str} {sp : Sp} {ds : List Value} {dvs : List V} (T : OexC X.K C) (iC : PySem.W.findIn X.K (.ref C) "__init__" = some (some (.ref fI))) (tI : PySem.W.typeIn X.K (.ref fI) = some (.type "function"))
    (F1 : FnOk X.prog X.w X.K X.mg X.base CX k fI fd ps sp) (hr : Room (k + 1) X.A) (hb : Binds X.K fd ps ds) (hd : Vals dvs ds) (hx : Passes CX X (fun _ _ _ => False)) (hg : Gl X x) (hm : X.mg x = some (.ref C)) (ha : PA X (e :: es) ta)
    (hdb : (x == ("__debug__" : Str)) = false := by decide) (he : starEach (e :: es) X.env = (false, eval e X.env) :: starEach es X.env := by rfl) (hpl : (backTo pos (starEach es X.env)).any (·.1) = false := by rfl) :
    PE X (.Call (.Name x p) (e :: es) [] pos) (tMkV C sp dvs ta) := by
  refine ⟨fun pins s σ H Q I h => ?_⟩
  obtain ⟨nm, q, N, bs, bm, sn, sub, ab, col, dd, k0, k1, k2, k3, k5, hC, hbm⟩ := T.cls
  refine wpAny_Call_Name_kw (ld_glob I hg hm ?_ hdb)
  refine PySem.W.callWith_K (h₀ := X.base) I.ok.mod.kin T.kC (thn (ha.run pos pins s σ H _ I h) fun us s1 ⟨vs, H1, I1, r1, hz, q1⟩ => ⟨I1.kIn, ?_⟩) he hpl
  show wpAny _ _ (call (.ref C) us) _ _ _
  obtain ⟨hp, g, dr, tk, os⟩ := s1
  have hsz : hp.objs.size ≤ hp.objs.size + 1 := Nat.le_succ _
  have hn : H1 (hp.objs.size + 1) = none := I1.hok.fresh hsz
  have hq := q1 (hp.objs.size + 1) hn
  have kk : ∀ b o, hp.get? b = some o → ((hp.push (PySem.W.kdv_tup us)).push (PySem.HandSPX.excO C hp.objs.size)).get? b = some o := fun b o e => Heap.get?_push_of_some _ (Heap.get?_push_of_some _ e)
  have hget : ((hp.push (PySem.W.kdv_tup us)).push (PySem.HandSPX.excO C hp.objs.size)).get? (hp.objs.size + 1) = some (PySem.HandSPX.excO C hp.objs.size) := by heap_get
  have I2 : Inv X pins σ (upd H1 (hp.objs.size + 1) (exo (hp.objs.size + 1) C none)) ⟨(hp.push (PySem.W.kdv_tup us)).push (PySem.HandSPX.excO C hp.objs.size), g, dr, tk, os⟩ :=
    I1.laid (t' := tk) (a := hp.objs.size + 1) (o := exo (hp.objs.size + 1) C none) (h' := (hp.push (PySem.W.kdv_tup us)).push (PySem.HandSPX.excO C hp.objs.size)) kk hsz (exo_ok hget)
  have r2 : Vals (V.ref (hp.objs.size + 1) :: (vs ++ dvs)) (Value.ref (hp.objs.size + 1) :: (us ++ ds)) := .cons rfl (r1.append hd)
  have hl : (Value.ref (hp.objs.size + 1) :: us ++ ds).length = ps.length := by
    have e := r2.length
    rw [F1.len _ _ _ _ hq] at e
    exact e.symm
  have hus : us.length ≤ sizeLine := by
    rw [← Paired.length r1, sizeLine_eq]
    omega
  refine wpAny_call (PySem.HandSPX.call_own F.excBase_ValueError (fun Y => PySem.HandSPX.refsVE_contains Y bm hbm) (I1.kIn _ _ hC) (PySem.W.looks_findIn I1.kIn iC) (fun self => PySem.W.bind_fn I1.kIn self tI) hus
    (codeAny_mono (F1.run _ X.stack _ _ ⟨Value.ref (hp.objs.size + 1) :: us, []⟩ (Value.ref (hp.objs.size + 1) :: (us ++ ds)) _ _ (fun _ _ _ => False) (hr.make C us []) (I2.env0.make C us []) (hb _ (Value.ref (hp.objs.size + 1) :: us) I2.kIn hl) r2 hq) fun r s' hq' => ?_))
  cases r with
  | error er => exact hx pins σ _ _ er s' I2 hq'
  | ok fl =>
    cases fl with
    | ret u =>
      obtain ⟨v, H2, os2, bare2, un2, hok2, rv, ev, d, fs, ea, ed, hd1, q2⟩ := hq'
      subst ev
      obtain ⟨h2, g2, d2, t2, os'⟩ := s'
      exact ⟨rv, .ref (hp.objs.size + 1), _, mk_endV I1 hsz kk un2 hok2 os2 bare2 ea ed hd1, rfl, q2⟩
    | next => exact False.elim hq'
    | brk => exact False.elim hq'
    | cont => exact False.elim hq'
end
end L2
namespace PS
open PySem PySem.Spec PyProof.Rows L2
variable {D : Wd} {X : Cx} {C : Ctx} {W : WX} {sx : Sx} {σ σ2 : L2.St} {H H' : Hp} {rho rho' : Rho} {env : Env} {h h' : AH} {pins : List (Addr × Obj)} {s : Shared} {En : Ends}
theorem x_xmk {c : Nat} {e : Expr} {ie : IE} {x : Str} {p pos : Pos} (tk : Takes X W) (T : ErrOk D X c) (he : XP D X W C e ie) (hg : Gl X x) (hm : X.mg x = some (.ref (D.xa c)))
    (hdb : (x == ("__debug__" : Str)) = false := by decide) (hs : starEach (e :: []) X.env = (false, eval e X.env) :: starEach [] X.env := by rfl) (hpl : (backTo pos (starEach [] X.env)).any (·.1) = false := by rfl) :
    XP D X W C (.Call (.Name x p) [e] [] pos) (.xmk c ie) := by
  obtain ⟨fI, i1, i2, k, fd, ps, F, hr, hb⟩ := T.ini
  have ha : XL D X W C [e] (.cons ie .nil) := x_cons he x_nil hs
  refine PE_imp (pe_oexV (CX := L2.CX X.prog X.w) (ds := []) (dvs := []) T.oc i1 i2 F hr hb .nil (fun pins σ H s e s' I c => passAt takes_none5 σ pins H s e s' I c) hg hm ha hdb hs hpl) fun σ H Q ⟨rho, env, h, A, r0, q⟩ => ?_
  refine ⟨rho, env, h, A, r0, ?_⟩
  show outR D W σ H rho _ ((evE C ie env h).bind fun x h1 => R.ok [x] h1)
  have q' : outE D none W σ H rho Q ((evE C ie env h).bind fun x h1 => .ok (.ref h1.length) (h1 ++ [.exo c x])) := q
  generalize evE C ie env h = r at q' ⊢
  cases r with
  | exc c v h1 => exact q'
  | stuck => exact q'
  | ok t h1 =>
    intro H1 rho1 s1 R1 vs l
    obtain ⟨v, rfl, pv⟩ := rpl1 l
    refine ⟨by show 1 ≤ 1000; decide, fun a na => ⟨a, v, rfl, upd_same, fun dx ndx dne => ⟨rfl, dx, [(D.xf c, v)], upd_same, ?_, ?_, ?_⟩⟩⟩
    · rw [upd_ne dne, upd_same]
    · rwa [upd_ne dne] at ndx
    · have n1 : H1 dx = none := by rwa [upd_ne dne] at ndx
      have eqH : upd (upd (upd (upd H1 a (exo a (D.xa c) none)) dx (exd dx [(D.xf c, v)])) a (exo a (D.xa c) (some dx))) dx (.xd [(D.xf c, v)]) = upd (upd H1 dx (.xd [(D.xf c, v)])) a (exo a (D.xa c) (some dx)) := by
        funext b
        by_cases hb : b = dx
        · subst hb; rw [upd_same, upd_ne dne, upd_same]
        · rw [upd_ne hb]
          by_cases ha : b = a
          · subst ha; rw [upd_same, upd_same]
          · rw [upd_ne ha, upd_ne hb, upd_ne ha, upd_ne ha, upd_ne hb]
      rw [eqH]
      have na2 : (upd H1 dx (.xd [(D.xf c, v)])) a = none := by rw [upd_ne (Ne.symm dne)]; exact na
      have st1 : Step H1 rho1 (upd H1 dx (.xd [(D.xf c, v)])) rho1 := Step.new n1
      have st2 : Step (upd H1 dx (.xd [(D.xf c, v)])) rho1 (upd (upd H1 dx (.xd [(D.xf c, v)])) a (exo a (D.xa c) (some dx))) (rho1 ++ [a]) := Step.new' na2
      have R2 : RelH D (upd (upd H1 dx (.xd [(D.xf c, v)])) a (exo a (D.xa c) (some dx))) (rho1 ++ [a]) (h1 ++ [.exo c t]) :=
        (R1.beside n1).push na2 ⟨dx, v, upd_same, by rw [upd_ne dne, upd_same], T.lt, pv.step (st1.trans st2)⟩
      have py : (rho1 ++ [a])[h1.length]? = some a := by rw [← R1.len]; simp
      exact q' _ (rho1 ++ [a]) (s1.trans (st1.trans st2)) R2 _ (.ref py)
theorem x_xfl {e : Expr} {ie : IE} {pos : Pos} {f : Nat} {n : Str} (T : ∀ c, c < D.nx → C.xi c = f → D.xf c = n ∧ XfC X.K (D.xa c) ∧ PySem.W.findIn X.K (.ref (D.xa c)) n = some none)
    (he : XP D X W C e ie) (hb : attributeBase e n X.env (eval e X.env) = eval e X.env := by rfl) :
    XP D X W C (.Attribute e n pos) (.xfl ie f) := by
  refine ⟨fun pins s σ H Q I ⟨rho, env, h, e1, r1, q⟩ => ?_⟩
  have hw := he.run pins s σ H (fun v H1 => ∃ m c t rho1 h1, RelH D H1 rho1 h1 ∧ Rp D none H1 rho1 v (.ref m) ∧ h1[m]? = some (.exo c t) ∧ C.xi c = f ∧ ∀ w, Rp D none H1 rho1 w t → Q w H1) I ⟨rho, env, h, e1, r1, rd_bind ⟨e1, r1⟩ q fun t H' rho' h' v A s p q => by
    cases t with
    | ref m =>
      have q0 : outE D none W σ H' rho' Q (match h'[m]? with
        | some (.exo c v) => if C.xi c = f then .ok v h' else .stuck
        | _ => .stuck) := q
      cases hm : h'[m]? with
      | none => rw [hm] at q0; exact q0.elim
      | some cl =>
        rw [hm] at q0
        cases cl with
        | exo c u =>
          have q' : outE D none W σ H' rho' Q (if C.xi c = f then .ok u h' else .stuck) := q0
          by_cases hc : C.xi c = f
          · rw [if_pos hc] at q'
            exact ⟨m, c, u, rho', h', A.r, p, hm, hc, of_ok A q'⟩
          · rw [if_neg hc] at q'; exact q'.elim
        | _ => exact q0.elim
    | _ => exact q.elim⟩
  refine attr_of hb (thn hw fun u s1 ⟨x, H1, I1, rx, m, c, t, rho1, h1, R1, p, hm, hc, q1⟩ => ?_)
  cases p with
  | @ref a _ r =>
    obtain ⟨dd, v, ea, ed, lt, pv⟩ := R1.cell m _ _ r hm
    obtain ⟨en, T1, T2⟩ := T c lt hc
    obtain rfl : u = Value.ref a := rx
    obtain ⟨t1, ha⟩ := exo_at I1.hok ea
    have hx : ObjOk X.prog X.w H1 s1.heap _ (.xd _) := I1.hok _ _ ed
    obtain ⟨mA, hns, hr⟩ := hx
    obtain ⟨od, ho, hl⟩ := lookIn_ns hns
    have l : List.lookup n [(D.xf c, v)] = some v := by rw [en]; simp [List.lookup]
    obtain ⟨w, hu, ru⟩ := RelO.some_of (v := v) (o := mA n) (by rw [← l]; exact hr n)
    have J : PySem.W.InstAt s1.heap a _ (D.xa c) (some od) := ⟨ha, rfl, rfl, ho⟩
    exact HandSPX.exc_get I1.kIn J T1.ga T1.gg T1.exC (PySem.W.findObj_own T1.hdC T2 rfl (by rw [hl, hu])) (handed_of ru) ⟨v, H1, I1.tok _, ru, q1 v pv⟩
theorem x_xio (O : Okx D X) {a c : Expr} {ia : IE} {l : List Nat} {p pos : Pos} {cv : V} {cu : Value} (hcu : ∀ u, RelV cv u → u = cu) (hk : ∀ k, k < D.nx → ExcC X.K (D.xa k) ∧ PySem.W.kitOne X.K (.ref (D.xa k)) cu = some (l.contains k))
    (hg : Gl X "isinstance") (hm : X.mg "isinstance" = none) (ha : XP D X W C a ia) (hc : PE X c (tC cv))
    (he : starEach [a, c] X.env = (false, eval a X.env) :: starEach [c] X.env := by rfl) (he2 : starEach [c] X.env = (false, eval c X.env) :: starEach [] X.env := by rfl) (hpl : (backTo pos (starEach [c] X.env)).any (·.1) = false := by rfl) :
    XP D X W C (.Call (.Name "isinstance" p) [a, c] [] pos) (.xio ia l) :=
  PE_imp (pe_callB call_isO hg hm (by rfl) (pa_cons ha (pa_cons hc pa_nil he2) he) (by decide) (by decide) he hpl) fun σ H Q ⟨rho, env, h, e, r, q⟩ => ⟨rho, env, h, e, r, rd_bind ⟨e, r⟩ q fun t H' rho' h' v A s p q => by
    cases t with
    | ref m =>
      have q0 : outE D none W σ H' rho' Q (match h'[m]? with
        | some (.exo c _) => .ok (.bl (l.contains c)) h'
        | _ => .stuck) := q
      cases hm : h'[m]? with
      | none => rw [hm] at q0; exact q0.elim
      | some cl =>
        rw [hm] at q0
        cases cl with
        | exo k u =>
          cases p with
          | @ref ad _ rr =>
            obtain ⟨dd, w, ea, ed, lt, pv⟩ := A.r.cell m _ _ rr hm
            obtain ⟨k1, k2⟩ := hk k lt
            exact ⟨ad, D.xa k, dd, [(D.xf k, w)], cv, cu, l.contains k, rfl, hcu, ea, ed, k1, k2, val_ok A.r (.bl _) q0⟩
        | _ => exact q0.elim
    | _ => exact q.elim⟩
theorem x_xis {ae : Addr} {oe : Obj} {cls : Value} {d : Option Addr} {pn : List (Addr × Obj)} {a c : Expr} {ia : IE} {l : List Nat} {p pos : Pos} {cv : V} {cu : Value} (hcu : ∀ u, RelV cv u → u = cu) (hk : ∀ k, k < D.nx → ExcC X.K (D.xa k) ∧ PySem.W.kitOne X.K (.ref (D.xa k)) cu = some (l.contains k))
    (hz : Zc cls d oe) (hf : ∃ vs, oe.data = .fields vs) (hg : Gl (X.suite ae ((ae, oe) :: pn)) "isinstance") (hm : X.mg "isinstance" = none) (ha : PE (X.suite ae ((ae, oe) :: pn)) a (rdE D (some (ae, cls, d)) noW (evE C ia))) (hc : PE (X.suite ae ((ae, oe) :: pn)) c (tC cv))
    (he : starEach [a, c] X.env = (false, eval a X.env) :: starEach [c] X.env := by rfl) (he2 : starEach [c] X.env = (false, eval c X.env) :: starEach [] X.env := by rfl) (hpl : (backTo pos (starEach [c] X.env)).any (·.1) = false := by rfl) :
    PE (X.suite ae ((ae, oe) :: pn)) (.Call (.Name "isinstance" p) [a, c] [] pos) (rdE D (some (ae, cls, d)) noW (evE C (.xis ia l))) := by
  refine ⟨fun pins s σ H Q I ⟨rho, env, h, e, r, q⟩ => ?_⟩
  refine wpAny_Call_Name_kw (ld_blt I hg hm (u := .builtin "isinstance") (by rfl) ?_ (by decide) (by decide))
  have hA := fun s0 (I0 : Inv (X.suite ae ((ae, oe) :: pn)) pins σ H s0) => (pa_cons ha (pa_cons hc pa_nil he2) he).run pos pins s0 σ H (fun vs H1 => ∃ (k : Nat) (dd : Addr) (w : V), vs = [.ref ae, cv] ∧ cls = .ref (D.xa k) ∧ d = some dd ∧ k < D.nx ∧ H1 dd = some (.xd [(D.xf k, w)]) ∧ Q (.bl (l.contains k)) H1) I0 ⟨rho, env, h, e, r, rd_bind ⟨e, r⟩ q fun t H' rho' h' v A s p q => by
    cases t with
    | exn k u =>
      cases p with
      | @exn _ dd _ w _ lt es ed pv =>
        cases es
        exact ⟨k, dd, w, rfl, rfl, rfl, lt, ed, val_ok A.r (.bl _) q⟩
    | _ => exact q.elim⟩
  exact PyProof.Rows.callWith_builtin1 (thn (hA _ I) fun us s1 ⟨vs, H1, I1, r1, k, dd, w, ev, ec, ed', lt, ed, q1⟩ => by
    subst ev; subst ec; subst ed'
    exact call_isS (hk k lt).1 hz hf pins s1 σ H1 _ us Q I1 r1 ⟨_, cv, cu, l.contains k, rfl, hcu, ed, (hk k lt).2, q1⟩) he hpl
theorem x_cmpi (O : Okx D X) {o : Co} {a : Expr} {ia : IE} {n : Int} {j : Nat} {p pos : Pos} (ha : PE X a (rdE D sx W (evE C ia))) (hm : behindInMarks (opC o) (.Constant (.int n) j p) = false) : PE X (.Compare a [opC o] [.Constant (.int n) j p] pos) (rdE D sx W (evE C (.cmpi o ia n))) :=
  PE_imp (pe_cmpR (opC_ok O o) ha pe_int hm) fun σ H Q ⟨rho, env, h, e, r, q⟩ => ⟨rho, env, h, e, r, rd_bind ⟨e, r⟩ q fun t H' rho' h' v A s p q => by
    cases t with
    | int i =>
      obtain ⟨k, ek, q3⟩ := of_of q
      cases p
      exact ⟨rho', h', .int i, .int n, k, A.r, .int i, .int n, ek, val_ok A.r (.bl k) q3⟩
    | _ => exact q.elim⟩
theorem xis_bl {ia : IE} {l : List Nat} {t : T} (e : evE C (.xis ia l) env h = .ok t h') : ∃ b, t = .bl b := by
  have e' : ((evE C ia env h).bind fun x h1 => match x with
    | .exn c _ => R.ok (.bl (l.contains c)) h1
    | _ => .stuck) = .ok t h' := e
  cases hh : evE C ia env h with
  | ok x h1 =>
    rw [hh] at e'
    cases x with
    | exn c u => cases e'; exact ⟨_, rfl⟩
    | _ => cases e'
  | exc _ _ _ => rw [hh] at e'; cases e'
  | stuck => rw [hh] at e'; cases e'
theorem x_xand (O : Okx D X) {a b : Expr} {rest : List Expr} {ia ib : IE} {l : List Nat} {pos : Pos} (ha : PE X a (rdE D sx W (evE C (.xis ia l)))) (hb : PE X (.BoolOp .And (b :: rest) pos) (rdE D sx W (evE C ib))) : PE X (.BoolOp .And (a :: b :: rest) pos) (rdE D sx W (evE C (.and (.xis ia l) ib))) :=
  PE_imp (pe_andT ha hb) fun σ H Q ⟨rho, env, h, e, r, q⟩ => ⟨rho, env, h, e, r, by
    have q' : outE D sx W σ H rho Q ((evE C (.xis ia l) env h).bind fun x h1 => (R.of (truT h1 x) h1).bind fun k h2 => match k with
      | true => evE C ib env h2
      | false => .ok x h2) := q
    cases hh : evE C (.xis ia l) env h with
    | stuck => rw [hh] at q'; exact q'
    | exc c v h1 => rw [hh] at q'; exact q'
    | ok t h1 =>
      rw [hh] at q'
      obtain ⟨k, rfl⟩ := xis_bl hh
      intro H1 rho1 s1 R1 v p
      cases p
      refine ⟨k, O.K ▸ tru_T R1 (.bl k) rfl, ?_⟩
      cases k with
      | true =>
        have q2 : outE D sx W σ H rho Q (evE C ib env h1) := q'
        rw [if_pos rfl]; exact ⟨rho1, env, h1, e.step s1, R1, outR.step s1 q2⟩
      | false =>
        have q2 : outE D sx W σ H rho Q (R.ok (.bl false) h1) := q'
        rw [if_neg (by decide)]; exact q2 H1 rho1 s1 R1 _ (.bl _)⟩
theorem x_and1S {c : Expr} {ic : IE} {pos : Pos} (hc : PE X c (rdE D sx W (evE C ic))) {o : BoolOp} : PE X (.BoolOp o [c] pos) (rdE D sx W (evE C ic)) := pe_one hc
def excB (K : PySem.W.Frag) (C : Addr) : Bool := decide (PySem.W.findIn K (.ref C) "__getattribute__" = some (some (.builtin "BaseException.__getattribute__"))) && (decide (PySem.W.findIn K (.ref C) "__getattr__" = some none) && (decide (PySem.W.subIn K (.ref C) (.type "BaseException") = some true) && (PySem.W.hasDictIn K C && (decide (PySem.W.findIn K (.ref C) "__class__" = some (some (.builtin "object.__class__"))) && (decide (PySem.W.specialIn K (.builtin "object.__class__") "__get__" = some (some (.builtin "getset_descriptor.__get__"))) && (decide (PySem.W.takesIn K (.builtin "object.__class__") = some true) && decide (PySem.W.mroIn K C (.type "object") = some true)))))))
theorem excB_ok {K : PySem.W.Frag} {C : Addr} (h : excB K C = true) : ExcC K C := by
  unfold excB at h
  simp only [Bool.and_eq_true, decide_eq_true_eq] at h
  obtain ⟨h1, h2, h3, h4, h5, h6, h7, h8⟩ := h
  exact ⟨h1, h2, h3, h4, h5, h6, h7, h8⟩
def excAllB (D : Wd) : Bool := (List.range D.nx).all fun k => excB D.K (D.xa k)
theorem excAllB_ok {D : Wd} (h : excAllB D = true) (k : Nat) (hk : k < D.nx) : ExcC D.K (D.xa k) := excB_ok (List.all_eq_true.mp h k (List.mem_range.mpr hk))
def kiB (D : Wd) (cu : Value) (l : List Nat) : Bool := (List.range D.nx).all fun k => decide (PySem.W.kitOne D.K (.ref (D.xa k)) cu = some (l.contains k))
theorem kiB_ok {D : Wd} {cu : Value} {l : List Nat} (h : kiB D cu l = true) (k : Nat) (hk : k < D.nx) : PySem.W.kitOne D.K (.ref (D.xa k)) cu = some (l.contains k) := of_decide_eq_true (List.all_eq_true.mp h k (List.mem_range.mpr hk))
theorem evL_c {ia : IE} {l : IL} {ts : List T} (e : evL C (.cons ia l) env h = .ok ts h') : ∃ t us h1, ts = t :: us ∧ evL C l env h1 = .ok us h' := by
  have e' : (evE C ia env h).bind (fun x h1 => (evL C l env h1).bind fun xs h2 => R.ok (x :: xs) h2) = .ok ts h' := e
  cases e1 : evE C ia env h with
  | ok t h2 =>
    rw [e1] at e'
    have e' : (evL C l env h2).bind (fun xs h2 => R.ok (t :: xs) h2) = .ok ts h' := e'
    cases e2 : evL C l env h2 with
    | ok us h3 => rw [e2] at e'; cases e'; exact ⟨t, us, h2, rfl, e2⟩
    | exc _ _ _ => rw [e2] at e'; cases e'
    | stuck => rw [e2] at e'; cases e'
  | exc _ _ _ => rw [e1] at e'; cases e'
  | stuck => rw [e1] at e'; cases e'
theorem s_par3 {i j l kt k2 : Nat} {x y z : Str} {a b c : Expr} {ia ib ic : IE} {px py pz pt pt2 pos : Pos} (hc : X.calm = true) (hN : X.N.Nodup) (hi : X.N[i]? = some x) (hj : X.N[j]? = some y) (hl : X.N[l]? = some z) (hij : i ≠ j) (hil : i ≠ l) (hjl : j ≠ l)
    (hx : X.env.scope.names.lookup x = some .local) (hy : X.env.scope.names.lookup y = some .local) (hz : X.env.scope.names.lookup z = some .local) (ha : XL D X W C [a, b, c] (.cons ia (.cons ib (.cons ic .nil))))
    (hw : swappedStores [.Tuple [.Name x px, .Name y py, .Name z pz] kt pt] (.Tuple [a, b, c] k2 pt2) X.env = pure (some [x, y, z]))
    (hs : swapsWithSole [.Tuple [.Name x px, .Name y py, .Name z pz] kt pt] (.Tuple [a, b, c] k2 pt2) pos.line X.env = pure false := by rfl) :
    XS D X W C (.Assign [.Tuple [.Name x px, .Name y py, .Name z pz] kt pt] (.Tuple [a, b, c] k2 pt2) pos) (.asg (.tp (.cons (.nm i) (.cons (.nm j) (.cons (.nm l) .nil)))) (.tup (.cons ia (.cons ib (.cons ic .nil))))) :=
  PS_imp (ps_par3 hc hN hi hj hl hij hil hjl hx hy hz ha hw hs) fun En σ H ⟨rho, env, h, A, q⟩ => by
    refine ⟨rho, env, h, A.e, A.r, ?_⟩
    have q' : outS D none W En H rho (((evL C (.cons ia (.cons ib (.cons ic .nil))) env h).bind fun xs h1 => if xs.length ≤ sizeLine then R.ok (T.tup xs) h1 else .stuck).toS (fun c v h1 => .exc c v env h1) .stuck fun x h1 => match (TG.tp (.cons (.nm i) (.cons (.nm j) (.cons (.nm l) .nil)))).asg x env with
      | some e1 => .next e1 h1
      | none => .stuck) := q
    cases hr : evL C (.cons ia (.cons ib (.cons ic .nil))) env h with
    | exc c t h1 => rw [hr] at q'; exact fun H' r' cls d s R x => q' σ H' r' cls d s (A.step s R) x
    | stuck => rw [hr] at q'; exact q'
    | ok ts h1 =>
      rw [hr] at q'
      obtain ⟨t, us, g1, rfl, e1⟩ := evL_c hr
      obtain ⟨u, us2, g2, rfl, e2⟩ := evL_c e1
      obtain ⟨w, us3, g3, rfl, e3⟩ := evL_c e2
      have e3' : R.ok ([] : List T) g3 = .ok us3 h1 := e3
      cases e3'
      have hz : ([t, u, w] : List T).length ≤ sizeLine := by rw [sizeLine_eq]; show 3 ≤ 16777216; decide
      have q2 : outS D none W En H rho ((if ([t, u, w] : List T).length ≤ sizeLine then R.ok (T.tup [t, u, w]) h1 else .stuck).toS (fun c v h1 => .exc c v env h1) .stuck fun x h1 => match (TG.tp (.cons (.nm i) (.cons (.nm j) (.cons (.nm l) .nil)))).asg x env with
        | some e1 => .next e1 h1
        | none => .stuck) := q'
      rw [if_pos hz] at q2
      intro H1 rho1 s1 R1 vs l
      cases l with
      | cons p1 l =>
        obtain ⟨v2, v3, rfl, p2, p3⟩ := rpl2 l
        exact ⟨_, v2, v3, rfl, q2 _ H1 rho1 s1 ⟨(((A.e.step s1).set i p1).set j p2).set _ p3, R1⟩⟩
end PS
end
section
set_option maxRecDepth 100000
set_option maxHeartbeats 1000000
namespace PS
open PySem
open Classical
mutual
def T.pl : T → Bool
  | .non => true
  | .bl _ => true
  | .int _ => true
  | .str x => decide (x.length ≤ 1000)
  | .tup xs => decide (xs.length ≤ 1000) && T.plL xs
  | .lst xs => decide (xs.length ≤ 1000) && T.plL xs
  | .dct _ _ _ => false
  | .ref _ => false
  | .clo _ _ => false
  | .exn _ _ => false
def T.plL : List T → Bool
  | [] => true
  | x :: xs => T.pl x && T.plL xs
end
mutual
theorem pl_und (n : Nat) : ∀ t : T, t.pl = true → t.und n = true
  | .non, _ => rfl
  | .bl _, _ => rfl
  | .int _, _ => rfl
  | .str _, _ => rfl
  | .tup xs, h => by simp only [T.und]; exact pl_undL n xs (by simp only [T.pl, Bool.and_eq_true] at h; exact h.2)
  | .lst xs, h => by simp only [T.und]; exact pl_undL n xs (by simp only [T.pl, Bool.and_eq_true] at h; exact h.2)
  | .dct _ _ _, h => by simp [T.pl] at h
  | .ref _, h => by simp [T.pl] at h
  | .clo _ _, h => by simp [T.pl] at h
  | .exn _ _, h => by simp [T.pl] at h
theorem pl_undL (n : Nat) : ∀ ts : List T, T.plL ts = true → T.undL n ts = true
  | [], _ => rfl
  | x :: xs, h => by
    simp only [T.plL, Bool.and_eq_true] at h
    simp only [T.undL, Bool.and_eq_true]
    exact ⟨pl_und n x h.1, pl_undL n xs h.2⟩
end
theorem gcok_rfl (h : AH) : GcOk h h := ⟨Nat.le_refl _, fun _ _ => .inl rfl⟩
theorem gcok_app (h cs : AH) : GcOk h (h ++ cs) := ⟨by simp, fun i hi => .inl (by rw [List.getElem?_append_left hi])⟩
theorem run_eq {P : Prg} {k f : Nat} {fn : Fn} {xs : List T} {h : AH} (hf : P.fns[f]? = some fn) (hn : xs.length = fn.np) :
    runFn P (k + 1) f xs h = endR fn.gc h (endS fn.gc h.length (evSs ⟨runFn P k, h.length, P.sub, P.xi⟩ fn.body (xs.map some ++ List.replicate (fn.ns - fn.np) none) h)) := by
  show (match P.fns[f]? with
    | none => R.stuck
    | some fn => if xs.length = fn.np then endR fn.gc h (endS fn.gc h.length (evSs ⟨runFn P k, h.length, P.sub, P.xi⟩ fn.body (xs.map some ++ List.replicate (fn.ns - fn.np) none) h)) else .stuck) = _
  rw [hf]
  dsimp only
  rw [if_pos hn]
theorem end_ret {h cs : AH} {m : Option Nat} {t : T} (hm : m = none ∨ m = some h.length) (hu : t.und h.length = true) : endR true h (endS true h.length (.ret m t (h ++ cs))) = .ok t h := by
  show endR true h (if m = none ∨ (true = true ∧ m = some h.length) then .ok t (h ++ cs) else .stuck) = _
  rw [if_pos (by rcases hm with e | e; exact .inl e; exact .inr ⟨rfl, e⟩)]
  show (if true = true then (if t.und h.length = true ∧ GcOk h (h ++ cs) then R.ok t ((h ++ cs).take h.length) else .stuck) else .ok t (h ++ cs)) = _
  rw [if_pos rfl, if_pos ⟨hu, gcok_app h cs⟩]
  simp
theorem end_ret0 {h : AH} {m : Option Nat} {t : T} (hm : m = none ∨ m = some h.length) (hu : t.und h.length = true) : endR true h (endS true h.length (.ret m t h)) = .ok t h := by
  have := end_ret (cs := []) hm hu
  rwa [List.append_nil] at this
section
variable {h : AH} {b : Bool} {i j : Int} {x y : Str} {xs ys : List T} {α : Type}
@[simp] theorem snap_non : snap h .non = .non := rfl
@[simp] theorem snap_bl : snap h (.bl b) = .bl b := rfl
@[simp] theorem snap_int : snap h (.int i) = .int i := rfl
@[simp] theorem snap_str : snap h (.str x) = .str x := rfl
@[simp] theorem snap_tup : snap h (.tup xs) = .tup xs := rfl
@[simp] theorem snap_lst : snap h (.lst xs) = .lst xs := rfl
@[simp] theorem truT_bl : truT h (.bl b) = some b := rfl
@[simp] theorem truT_tup : truT h (.tup xs) = some (!xs.isEmpty) := rfl
@[simp] theorem truT_lst : truT h (.lst xs) = some (!xs.isEmpty) := rfl
@[simp] theorem truT_int : truT h (.int i) = some (i != 0) := rfl
@[simp] theorem lenT_tup : lenT h (.tup xs) = some xs.length := rfl
@[simp] theorem lenT_lst : lenT h (.lst xs) = some xs.length := rfl
@[simp] theorem lenT_str : lenT h (.str x) = if x.length ≤ sizeLine then some x.length else none := rfl
@[simp] theorem cmp_le : cmpT .le h (.int i) (.int j) = some (decide (i ≤ j)) := rfl
@[simp] theorem cmp_lt : cmpT .lt h (.int i) (.int j) = some (decide (i < j)) := rfl
@[simp] theorem cmp_ge : cmpT .ge h (.int i) (.int j) = some (decide (j ≤ i)) := rfl
@[simp] theorem cmp_gt : cmpT .gt h (.int i) (.int j) = some (decide (j < i)) := rfl
@[simp] theorem isList_lst : isList h (.lst xs) = some xs := rfl
@[simp] theorem isList_tup : isList h (.tup xs) = none := rfl
@[simp] theorem seqV_lst : seqV h (.lst xs) = some xs := rfl
@[simp] theorem seqV_tup : seqV h (.tup xs) = some xs := rfl
@[simp] theorem items_lst : itemsOf h (.lst xs) = some ⟨xs, none⟩ := rfl
@[simp] theorem items_tup : itemsOf h (.tup xs) = some ⟨xs, none⟩ := rfl
@[simp] theorem items_str : itemsOf h (.str x) = some ⟨chars x, none⟩ := rfl
theorem compL_pure {g : TG} {cond : Env → AH → R Bool} {elt : Env → AH → R T} {chk : AH → Prop} {c : T → Bool} {f : T → T} {env : Env} (hk : chk h) : ∀ {xs : List T}, (∀ x ∈ xs, ∃ e1, g.asg x env = some e1 ∧ cond e1 h = .ok (c x) h ∧ (c x = true → elt e1 h = .ok (f x) h)) → compL g cond elt chk xs env h = .ok ((xs.filter c).map f) h
  | [], _ => rfl
  | x :: xs, H => by
    obtain ⟨e1, a, b, d⟩ := H x (by simp)
    have ih := compL_pure hk (xs := xs) fun y hy => H y (by simp [hy])
    unfold compL
    rw [a]
    dsimp only
    rw [b]
    cases hc : c x with
    | true =>
      simp only [R.bind_ok, d hc, if_pos hk, ih, List.filter_cons, hc, if_true, List.map_cons]
    | false =>
      simp only [R.bind_ok, if_pos hk, ih, List.filter_cons, hc]
      simp
theorem forL_inv {g : TG} {body : Env → AH → RS} {chk : AH → Prop} (I : List T → Env → AH → Prop) : ∀ {done rest : List T} {env : Env} {h : AH}, I done env h → (∀ d x r e h, done ++ rest = d ++ x :: r → I d e h → ∃ e1, g.asg x e = some e1 ∧ ∃ e2 h2, body e1 h = .next e2 h2 ∧ chk h2 ∧ I (d ++ [x]) e2 h2) → ∃ e2 h2, forL g body chk rest env h = .next e2 h2 ∧ I (done ++ rest) e2 h2
  | done, [], env, h, i, _ => ⟨env, h, rfl, by simpa using i⟩
  | done, x :: rest, env, h, i, st => by
    obtain ⟨e1, a, e2, h2, b, k, i2⟩ := st done x rest env h rfl i
    obtain ⟨e3, h3, c, i3⟩ := forL_inv I (done := done ++ [x]) (rest := rest) i2 fun d y r e h eq i => st d y r e h (by simpa using eq) i
    refine ⟨e3, h3, ?_, by simpa using i3⟩
    unfold forL
    rw [a]
    dsimp only
    rw [b]
    dsimp only
    rw [if_pos k]
    exact c
theorem fresh_f (hz : xs.length ≤ sizeLine) : fresh false xs h = .ok (.lst xs) h := by
  unfold fresh
  rw [if_pos hz, if_neg (by decide)]
def isTyP : T → Ty → Bool
  | .bl _, .int => true
  | .bl _, .bool => true
  | .int _, .int => true
  | .str _, .str => true
  | .tup _, .tuple => true
  | .lst _, .list => true
  | _, _ => false
theorem isTy_pl {t : T} (y : Ty) (hp : t.pl = true) : isTys h t [y] = some (isTyP t y) := by
  cases t <;> first
    | (simp [T.pl] at hp; done)
    | (cases y <;> rfl)
variable {m : Bool} {n : Nat} {c : Cell} {t : T}
@[simp] theorem bin_add : binT m .add (.int i) (.int j) h = .ok (.int (i + j)) h := rfl
@[simp] theorem bin_sub : binT m .sub (.int i) (.int j) h = .ok (.int (i - j)) h := rfl
@[simp] theorem bin_mul : binT m .mul (.int i) (.int j) h = if (-(2 ^ 64) < i ∧ i < 2 ^ 64) ∨ (-(2 ^ 64) < j ∧ j < 2 ^ 64) then .ok (.int (i * j)) h else .stuck := rfl
@[simp] theorem bin_mod : binT m .mod (.int i) (.int j) h = if 0 < j then .ok (.int (i % j)) h else .stuck := rfl
@[simp] theorem bin_fdiv : binT m .fdiv (.int i) (.int j) h = if 0 < j ∧ j < 1073741824 then .ok (.int (i / j)) h else .stuck := rfl
@[simp] theorem bin_pow : binT m .pow (.int i) (.int j) h = if 0 ≤ j ∧ j ≤ 1000000 ∧ i.natAbs < 2 ^ 64 then .ok (.int (i ^ j.toNat)) h else .stuck := rfl
@[simp] theorem bin_tup : binT m .add (.tup xs) (.tup ys) h = if xs.length + ys.length ≤ sizeLine then .ok (.tup (xs ++ ys)) h else .stuck := rfl
@[simp] theorem bf_int1 : bfT m .int [.int i] h = .ok (.int i) h := rfl
@[simp] theorem bf_intb : bfT m .int [.bl b] h = .ok (.int (if b then 1 else 0)) h := rfl
@[simp] theorem bf_abs1 : bfT m .abs [.int i] h = .ok (.int (if i < 0 then -i else i)) h := rfl
@[simp] theorem bf_len1 : bfT m .len [t] h = match lenT h t with | some n => .ok (.int n) h | none => .stuck := rfl
theorem idx_lst : idxT h (.lst xs) (.int i) = L2.atI xs i := rfl
theorem idx_tup : idxT h (.tup xs) (.int i) = L2.atI xs i := rfl
theorem snap_cell (hb : h[n]? = some (.lst xs)) : snap h (.ref n) = .lst xs := by rw [snap_ref, hb]
theorem idx_cell (hb : h[n]? = some (.lst xs)) : idxT h (.ref n) (.int i) = L2.atI xs i := by unfold idxT; rw [snap_cell hb]
theorem set_cell (hb : h[n]? = some (.lst xs)) : setT (.ref n) (.int i) t h = match L2.ixN xs.length i with | some j => .ok () (h.set n (.lst (xs.set j t))) | none => .stuck := by
  show (match h[n]? with
    | some (.lst xs) => match L2.ixN xs.length i with
      | some j => R.ok () (h.set n (.lst (xs.set j t)))
      | none => .stuck
    | some (.dct tk ks vs) => match keyOk tk (T.int i) with
      | some key => match findK key ks with
        | some _ => if ks.length < sizeLine then .ok () (h.set n (.dct tk ks (setK key t ks vs))) else .stuck
        | none => if ks.length < sizeLine then .ok () (h.set n (.dct tk (ks ++ [T.int i]) (vs ++ [t]))) else .stuck
      | none => .stuck
    | _ => .stuck) = _
  rw [hb]
theorem gcok_set (hc : c.und h.length = true) : GcOk h (h.set n c) := ⟨by simp, fun i hi => by
  by_cases e : n = i
  · subst e; exact .inr ⟨c, by simp [hi], hc⟩
  · exact .inl (by rw [List.getElem?_set_ne e])⟩
theorem end_set {mm : Option Nat} (hm : mm = none ∨ mm = some h.length) (hu : t.und h.length = true) (hc : c.und h.length = true) : endR true h (endS true h.length (.ret mm t (h.set n c))) = .ok t (h.set n c) := by
  show endR true h (if mm = none ∨ (true = true ∧ mm = some h.length) then .ok t (h.set n c) else .stuck) = _
  rw [if_pos (by rcases hm with e | e; exact .inl e; exact .inr ⟨rfl, e⟩)]
  show (if true = true then (if t.und h.length = true ∧ GcOk h (h.set n c) then R.ok t ((h.set n c).take h.length) else .stuck) else .ok t (h.set n c)) = _
  rw [if_pos rfl, if_pos ⟨hu, gcok_set hc⟩, List.take_of_length_le (by simp)]
@[simp] theorem cmp_eq_int : cmpT .eq h (.int i) (.int j) = some (decide (i = j)) := by
  show eqD (.int i) (.int j) = _
  unfold eqD
  rw [if_pos (by simp [PyData.depth])]
  simp only [PyData.eqv]
  congr 1
@[simp] theorem cmp_ne_int : cmpT .ne h (.int i) (.int j) = some (!decide (i = j)) := by
  show (cmpT .eq h (.int i) (.int j)).map (!·) = _
  rw [cmp_eq_int]; rfl
@[simp] theorem cmp_eq_str : cmpT .eq h (.str x) (.str y) = some (decide (x = y)) := by
  show eqD (.str x) (.str y) = _
  unfold eqD
  rw [if_pos (by simp [PyData.depth])]
  simp only [PyData.eqv]
  congr 1
theorem ext_cell {zs : List T} (hb : h[n]? = some (.lst xs)) (hz : xs.length + zs.length ≤ sizeLine) : bmT m .extend (.ref n) [.lst zs] h = .ok .non (h.set n (.lst (xs ++ zs))) := by
  show (match h[n]? with
    | some (.lst xs) => match extV h (.lst zs) with
      | some zs => if xs.length + zs.length ≤ sizeLine ∧ watchV (.lst zs) ≠ some n then R.ok T.non (h.set n (.lst (xs ++ zs))) else .stuck
      | none => .stuck
    | _ => .stuck) = _
  rw [hb, show extV h (.lst zs) = some zs from rfl]
  dsimp only
  rw [if_pos ⟨hz, fun e => by cases e⟩]
theorem ext_tup {zs : List T} (hb : h[n]? = some (.lst xs)) (hz : xs.length + zs.length ≤ sizeLine) : bmT m .extend (.ref n) [.tup zs] h = .ok .non (h.set n (.lst (xs ++ zs))) := by
  show (match h[n]? with
    | some (.lst xs) => match extV h (.tup zs) with
      | some zs => if xs.length + zs.length ≤ sizeLine ∧ watchV (.tup zs) ≠ some n then R.ok T.non (h.set n (.lst (xs ++ zs))) else .stuck
      | none => .stuck
    | _ => .stuck) = _
  rw [hb, show extV h (.tup zs) = some zs from rfl]
  dsimp only
  rw [if_pos ⟨hz, fun e => by cases e⟩]
theorem app_cell (hb : h[n]? = some (.lst xs)) (hz : xs.length < sizeLine) : bmT m .append (.ref n) [t] h = .ok .non (h.set n (.lst (xs ++ [t]))) := by
  show (match h[n]? with
    | some (.lst xs) => if xs.length < sizeLine then R.ok T.non (h.set n (.lst (xs ++ [t]))) else .stuck
    | _ => .stuck) = _
  rw [hb]
  dsimp only
  rw [if_pos hz]
theorem pop_cell (hb : h[n]? = some (.lst (xs ++ [t]))) : bmT m .pop (.ref n) [] h = .ok t (h.set n (.lst xs)) := by
  show (match h[n]? with
    | some (.lst xs) => match xs[xs.length - 1]? with
      | some y => R.ok y (h.set n (.lst xs.dropLast))
      | none => .stuck
    | _ => .stuck) = _
  rw [hb]
  have e : (xs ++ [t])[(xs ++ [t]).length - 1]? = some t := by simp
  dsimp only
  rw [e]
  simp
theorem ins_cell (hb : h[n]? = some (.lst xs)) (hz : xs.length < sizeLine) (h0 : 0 ≤ i) (h1 : i ≤ xs.length) : bmT m .insert (.ref n) [.int i, t] h = .ok .non (h.set n (.lst (insAt xs i.toNat t))) := by
  show (match h[n]? with
    | some (.lst xs) => if xs.length < sizeLine ∧ 0 ≤ i ∧ i ≤ xs.length then R.ok T.non (h.set n (.lst (insAt xs i.toNat t))) else .stuck
    | _ => .stuck) = _
  rw [hb]
  dsimp only
  rw [if_pos ⟨hz, h0, h1⟩]
theorem set_dct {ks vs : List T} (hb : h[n]? = some (.dct false ks vs)) (hk : findK (.num i) ks = none) (hz : ks.length < sizeLine) : setT (.ref n) (.int i) t h = .ok () (h.set n (.dct false (ks ++ [.int i]) (vs ++ [t]))) := by
  show (match h[n]? with
    | some (.lst xs) => match L2.ixN xs.length i with
      | some j => R.ok () (h.set n (.lst (xs.set j t)))
      | none => .stuck
    | some (.dct tk ks vs) => match keyOk tk (T.int i) with
      | some key => match findK key ks with
        | some _ => if ks.length < sizeLine then .ok () (h.set n (.dct tk ks (setK key t ks vs))) else .stuck
        | none => if ks.length < sizeLine then .ok () (h.set n (.dct tk (ks ++ [T.int i]) (vs ++ [t]))) else .stuck
      | none => .stuck
    | _ => .stuck) = _
  rw [hb]
  dsimp only [keyOk]
  rw [hk]
  dsimp only
  rw [if_pos hz]
theorem atI_map {β γ : Type} (f : β → γ) (l : List β) (i : Int) : L2.atI (l.map f) i = (L2.atI l i).map f := by
  unfold L2.atI
  rw [List.length_map]
  cases L2.ixN l.length i with
  | none => rfl
  | some j => simp
end
end PS
end
section
set_option autoImplicit false
namespace KG
inductive Rch (E : List (Int × Int)) : Int → Int → Prop
  | one {a b : Int} : (a, b) ∈ E → Rch E a b
  | more {a b c : Int} : Rch E a b → (b, c) ∈ E → Rch E a c
def rd (E : List (Int × Int)) (k : Int) (F : List Int) : List Int := F ++ (E.filter fun p => (p.1 == k || F.contains p.1) && !F.contains p.2).map (·.2)
def rds (E : List (Int × Int)) (k : Int) : Nat → List Int
  | 0 => []
  | t + 1 => rd E k (rds E k t)
def Clo (E : List (Int × Int)) (k : Int) (F : List Int) : Prop := ∀ p ∈ E, (p.1 = k ∨ p.1 ∈ F) → p.2 ∈ F
theorem rd_sub {E : List (Int × Int)} {k : Int} {F : List Int} : ∀ x ∈ F, x ∈ rd E k F := fun x h => by unfold rd; simp [h]
theorem rd_new {E : List (Int × Int)} {k : Int} {F : List Int} {p : Int × Int} (h : p ∈ E) (h1 : p.1 = k ∨ p.1 ∈ F) : p.2 ∈ rd E k F := by
  unfold rd
  by_cases h2 : p.2 ∈ F
  · simp [h2]
  · rw [List.mem_append]
    right
    rw [List.mem_map]
    refine ⟨p, ?_, rfl⟩
    rw [List.mem_filter]
    refine ⟨h, ?_⟩
    rcases h1 with h1 | h1 <;> simp [h1, h2]
theorem rd_rch {E : List (Int × Int)} {k : Int} {F : List Int} (hF : ∀ x ∈ F, Rch E k x) : ∀ x ∈ rd E k F, Rch E k x := by
  intro x hx
  unfold rd at hx
  rw [List.mem_append, List.mem_map] at hx
  rcases hx with hx | ⟨p, hp, rfl⟩
  · exact hF x hx
  · rw [List.mem_filter] at hp
    obtain ⟨h1, h2⟩ := hp
    simp at h2
    rcases h2.1 with e | e
    · exact .one (by rw [← e]; exact h1)
    · exact .more (hF _ e) h1
theorem rds_rch {E : List (Int × Int)} {k : Int} : ∀ t, ∀ x ∈ rds E k t, Rch E k x
  | 0 => by simp [rds]
  | t + 1 => rd_rch (rds_rch t)
theorem clo_rch {E : List (Int × Int)} {k : Int} {F : List Int} (h : Clo E k F) : ∀ x, Rch E k x → x ∈ F := by
  intro x r
  induction r with
  | one e => exact h _ e (.inl rfl)
  | more r e ih => exact h _ e (.inr ih)
theorem clo_rd {E : List (Int × Int)} {k : Int} {F : List Int} (h : Clo E k F) : rd E k F = F := by
  unfold rd
  have : (E.filter fun p => (p.1 == k || F.contains p.1) && !F.contains p.2) = [] := by
    rw [List.filter_eq_nil_iff]
    intro p hp
    simp
    intro h1
    exact h p hp h1
  rw [this]; simp
def miss (F : List Int) : Nat → Nat
  | 0 => 0
  | n + 1 => miss F n + if (n : Int) ∈ F then 0 else 1
theorem miss_le (F : List Int) : ∀ n, miss F n ≤ n
  | 0 => Nat.le_refl _
  | n + 1 => by unfold miss; have := miss_le F n; split <;> omega
theorem miss_mono {F G : List Int} (h : ∀ x ∈ F, x ∈ G) : ∀ n, miss G n ≤ miss F n
  | 0 => Nat.le_refl _
  | n + 1 => by
    unfold miss
    have := miss_mono h n
    by_cases h1 : (n : Int) ∈ F
    · rw [if_pos h1, if_pos (h _ h1)]; omega
    · rw [if_neg h1]; split <;> omega
theorem miss_lt {F G : List Int} (h : ∀ x ∈ F, x ∈ G) {x : Int} (h1 : x ∈ G) (h2 : x ∉ F) : ∀ n : Nat, 0 ≤ x → x < (n : Int) → miss G n < miss F n
  | 0, a, b => by omega
  | n + 1, a, b => by
    unfold miss
    have m := miss_mono h n
    by_cases e : x = n
    · subst e
      rw [if_pos h1, if_neg h2]; omega
    · have := miss_lt h h1 h2 n a (by omega)
      by_cases h3 : (n : Int) ∈ F
      · rw [if_pos h3, if_pos (h _ h3)]; omega
      · rw [if_neg h3]; split <;> omega
theorem rds_clo {E : List (Int × Int)} {k : Int} {n : Nat} (hE : ∀ p ∈ E, 0 ≤ p.2 ∧ p.2 < n) : ∀ t, Clo E k (rds E k t) ∨ miss (rds E k t) n + t ≤ n
  | 0 => .inr (by have := miss_le (rds E k 0) n; omega)
  | t + 1 => by
    rcases rds_clo hE t with h | h
    · left
      show Clo E k (rd E k (rds E k t))
      rw [clo_rd h]; exact h
    · by_cases c : Clo E k (rds E k t)
      · left
        show Clo E k (rd E k (rds E k t))
        rw [clo_rd c]; exact c
      · right
        unfold Clo at c
        have : ∃ p ∈ E, (p.1 = k ∨ p.1 ∈ rds E k t) ∧ p.2 ∉ rds E k t := by
          by_cases q : ∃ p ∈ E, (p.1 = k ∨ p.1 ∈ rds E k t) ∧ p.2 ∉ rds E k t
          · exact q
          · refine absurd (fun p hp h1 => ?_) c
            by_cases z : p.2 ∈ rds E k t
            · exact z
            · exact absurd ⟨p, hp, h1, z⟩ q
        obtain ⟨p, hp, h1, h2⟩ := this
        have := miss_lt (F := rds E k t) (G := rds E k (t + 1)) rd_sub (rd_new hp h1) h2 n (hE p hp).1 (hE p hp).2
        omega
theorem rds_all {E : List (Int × Int)} {k : Int} {n : Nat} (hE : ∀ p ∈ E, 0 ≤ p.2 ∧ p.2 < n) (x : Int) : x ∈ rds E k (n + 1) ↔ Rch E k x := by
  refine ⟨rds_rch _ x, fun r => ?_⟩
  rcases rds_clo (k := k) hE (n + 1) with h | h
  · exact clo_rch h x r
  · omega
def turn (L : Int → List Int) (F W : List Int) : Option (List Int × List Int) := match W.getLast? with
  | none => none
  | some x => if x ∈ F then some (F, W.dropLast) else some (F ++ [x], W.dropLast ++ L x)
structure Inv (L : Int → List Int) (s : Int) (F W : List Int) : Prop where
  st : ∀ y ∈ L s, y ∈ F ∨ y ∈ W
  cl : ∀ x ∈ F, ∀ y ∈ L x, y ∈ F ∨ y ∈ W
theorem inv_turn {L : Int → List Int} {s x : Int} {F W : List Int} (h : Inv L s F (W ++ [x])) : (x ∈ F → Inv L s F W) ∧ (x ∉ F → Inv L s (F ++ [x]) (W ++ L x)) := by
  refine ⟨fun hx => ⟨fun y hy => ?_, fun z hz y hy => ?_⟩, fun hx => ⟨fun y hy => ?_, fun z hz y hy => ?_⟩⟩
  · rcases h.st y hy with q | q
    · exact .inl q
    · simp at q
      rcases q with q | q
      · exact .inr q
      · subst q; exact .inl hx
  · rcases h.cl z hz y hy with q | q
    · exact .inl q
    · simp at q
      rcases q with q | q
      · exact .inr q
      · subst q; exact .inl hx
  · rcases h.st y hy with q | q
    · exact .inl (by simp [q])
    · simp at q
      rcases q with q | q
      · exact .inr (by simp [q])
      · exact .inl (by simp [q])
  · simp at hz
    rcases hz with hz | hz
    · rcases h.cl z hz y hy with q | q
      · exact .inl (by simp [q])
      · simp at q
        rcases q with q | q
        · exact .inr (by simp [q])
        · exact .inl (by simp [q])
    · subst hz
      exact .inr (by simp [hy])
end KG
end
section
set_option maxRecDepth 100000
set_option maxHeartbeats 4000000
namespace LW
open PySem PySem.Spec PyProof.Rows L2 PS
def top (i : Nat) : Stmt := PySem.Challenge.pw_treestacks_k01_errors.main.body.getD i (.Pass ⟨0, 0, 0, 0⟩)
def clsBody : Stmt → List Stmt
  | .ClassDef _ _ _ b _ _ _ _ _ _ _ => b
  | _ => []
def mth (i j : Nat) : Stmt := (clsBody (top i)).getD j (.Pass ⟨0, 0, 0, 0⟩)
def cN : List Str := ["Pairs"]
def eN : List Str := ["GraftError", "InvalidNumber", "InvalidRules", "Endless", "InvalidRule", "InvalidTrees", "InvalidText", "InvalidReading", "InvalidRun", "InvalidPlaces", "InvalidQuestion", "InvalidClaim", "Undefined", "NothingToUndo"]
def fN : List Str := ["kinds", "rules", "value", "kind", "what", "word"]
def flOf (n : Nat) : Str := (fN[n]?).getD ⟨Array.replicate (n + 100) 0⟩
def xiL : List Nat := [999, 2, 2, 3, 2, 2, 2, 2, 2, 2, 2, 2, 4, 5]
def xiOf (n : Nat) : Nat := (xiL[n]?).getD 999
def Dw (K : PySem.W.Frag) : Wd := { K := K, nc := 1, nx := 14, ca := fun n => He.ga K ((cN[n]?).getD ""), fl := flOf, xa := fun n => He.ga K ((eN[n]?).getD ""), xf := fun n => flOf (xiOf n) }
def subL : List (List Bool) := [[true, false, false, false, false, false, false, false, false, false, false, false, false, false], [true, true, false, false, false, false, false, false, false, false, false, false, false, false], [true, false, true, false, false, false, false, false, false, false, false, false, false, false], [true, false, false, true, false, false, false, false, false, false, false, false, false, false], [true, false, false, false, true, false, false, false, false, false, false, false, false, false], [true, false, false, false, false, true, false, false, false, false, false, false, false, false], [true, false, false, false, false, false, true, false, false, false, false, false, false, false], [true, false, false, false, false, false, false, true, false, false, false, false, false, false], [true, false, false, false, false, false, false, false, true, false, false, false, false, false], [true, false, false, false, false, false, false, false, false, true, false, false, false, false], [true, false, false, false, false, false, false, false, false, false, true, false, false, false], [true, false, false, false, false, false, false, false, false, false, false, true, false, false], [true, false, false, false, false, false, false, false, false, false, false, false, true, false], [true, false, false, false, false, false, false, false, false, false, false, false, false, true]]
def subOf (a b : Nat) : Bool := ((subL.getD a []).getD b false)
def ks_PARTS : List Str := ["left", "right", "same", "first", "last", "wrap", "ahead", "behind"]
def zs_PARTS : List (Str × T) := [("left", .int 0), ("right", .int 0), ("same", .int 1), ("first", .int 1), ("last", .int 1), ("wrap", .int 2), ("ahead", .int 2), ("behind", .int 2)]
abbrev ir_is_integer : ISs := (.cons (.ret false (.and (.isi (.var 0) [.int]) (.not (.isi (.var 0) [.bool]))))
  .nil)
abbrev ir_is_integer_in : ISs := (.cons (.ret false (.and (.call 0 (.cons (.var 0) .nil)) (.chain .le (.var 1) (.var 0) .le (.var 2))))
  .nil)
abbrev ir_is_word : ISs := (.cons (.ife (.or (.not (.isi (.var 0) [.str])) (.not (.chain .le (.cst (.int 1)) (.bf false .len (.cons (.var 0) .nil)) .le (.glb 0 (.int 3))))) (.cons (.ret false (.cst (.bl false)))
  .nil) .nil)
  (.cons (.ret false (.bf false .all (.cons (.comp false [1] (.nm 1) (.e (.var 0)) .none (.cmp .isin (.var 1) (.glb 0 (.str "abcdefghijklmnopqrstuvwxyz")))) .nil)))
  .nil))
abbrev ir_reached : ISs := (.cons (.asg (.nm 2) (.dic true false))
  (.cons (.asg (.nm 3) (.bf true .list (.cons (.idx (.var 0) (.var 1)) .nil)))
  (.cons (.whl (.var 3) (.cons (.asg (.nm 4) (.bm false .pop (.var 3) .nil))
  (.cons (.ife (.cmp .notin (.var 4) (.var 2)) (.cons (.seti (.var 2) (.var 4) (.cst (.bl true)))
  (.cons (.ex (.bm false .extend (.var 3) (.cons (.idx (.var 0) (.var 4)) .nil)))
  .nil)) .nil)
  .nil)))
  (.cons (.ret true (.var 2))
  .nil))))
abbrev ir_least_back : ISs := (.cons (.forr (.nm 1) (.rng (.bf false .len (.cons (.var 0) .nil))) (.cons (.ife (.cmp .isin (.var 1) (.call 3 (.cons (.var 0) (.cons (.var 1) .nil)))) (.cons (.ret false (.var 1))
  .nil) .nil)
  .nil))
  (.cons (.ret false (.cst .non))
  .nil))
abbrev ir_is_rule : ISs := (.cons (.ife (.or (.not (.isi (.var 0) [.tuple])) (.or (.cmp .lt (.bf false .len (.cons (.var 0) .nil)) (.cst (.int 3))) (.not (.call 1 (.cons (.idx (.var 0) (.cst (.int 0))) (.cons (.cst (.int 0)) (.cons (.bin false .sub (.var 1) (.cst (.int 1))) .nil))))))) (.cons (.ret false (.cst (.bl false)))
  .nil) .nil)
  (.cons (.ife (.or (.not (.isi (.idx (.var 0) (.cst (.int 1))) [.str])) (.kin true 0 ks_PARTS (.idx (.var 0) (.cst (.int 1))))) (.cons (.ret false (.cst (.bl false)))
  .nil) .nil)
  (.cons (.asg (.nm 2) (.kget 0 zs_PARTS (.idx (.var 0) (.cst (.int 1)))))
  (.cons (.ife (.cmp .eq (.var 2) (.cst (.int 0))) (.cons (.ret false (.and (.cmp .eq (.bf false .len (.cons (.var 0) .nil)) (.cst (.int 3))) (.call 2 (.cons (.idx (.var 0) (.cst (.int 2))) .nil))))
  .nil) .nil)
  (.cons (.ret false (.and (.cmp .eq (.bf false .len (.cons (.var 0) .nil)) (.bin false .add (.cst (.int 2)) (.var 2))) (.bf false .all (.cons (.comp false [3] (.nm 3) (.e (.slc false (.var 0) (.some (.cst (.int 2))) .none)) .none (.call 1 (.cons (.var 3) (.cons (.cst (.int 0)) (.cons (.bin false .sub (.var 1) (.cst (.int 1))) .nil))))) .nil))))
  .nil)))))
abbrev ir_single_steps : ISs := (.cons (.asg (.nm 2) (.comp true [4] (.nm 4) (.rng (.var 0)) .none (.lst true .nil)))
  (.cons (.forr (.nm 3) (.e (.var 1)) (.cons (.ife (.cmp .eq (.kget 0 zs_PARTS (.idx (.var 3) (.cst (.int 1)))) (.cst (.int 1))) (.cons (.ex (.bm false .append (.idx (.var 2) (.idx (.var 3) (.cst (.int 0)))) (.cons (.idx (.var 3) (.cst (.int 2))) .nil)))
  .nil) .nil)
  .nil))
  (.cons (.ret true (.var 2))
  .nil)))
abbrev ir_Pairsx_initx : ISs := (.cons (.ife (.not (.call 1 (.cons (.var 1) (.cons (.cst (.int 1)) (.cons (.glb 0 (.int 40)) .nil))))) (.cons (.rais 1 (.var 1))
  .nil) .nil)
  (.cons (.ife (.or (.not (.isi (.var 2) [.tuple])) (.not (.chain .le (.cst (.int 1)) (.bf false .len (.cons (.var 2) .nil)) .le (.glb 0 (.int 90))))) (.cons (.rais 2 (.var 2))
  .nil) .nil)
  (.cons (.ife (.not (.bf false .all (.cons (.comp false [4] (.nm 4) (.e (.var 2)) .none (.call 5 (.cons (.var 4) (.cons (.var 1) .nil)))) .nil))) (.cons (.rais 2 (.var 2))
  .nil) .nil)
  (.cons (.asg (.nm 3) (.call 4 (.cons (.call 6 (.cons (.var 1) (.cons (.var 2) .nil))) .nil)))
  (.cons (.ife (.cmp .isnot (.var 3) (.cst .non)) (.cons (.rais 3 (.var 3))
  .nil) .nil)
  (.cons (.setf (.var 0) 0 0 (.var 1))
  (.cons (.setf (.var 0) 0 1 (.var 2))
  .nil)))))))
abbrev ir_Pairsx_eqx : ISs := (.cons (.ret false (.and (.isi (.var 1) [(.cls 0)]) (.and (.cmp .eq (.fld (.var 0) 0 0) (.fld (.var 1) 0 0)) (.cmp .eq (.fld (.var 0) 0 1) (.fld (.var 1) 0 1)))))
  .nil)
abbrev ir__law_box : ISs := (.cons (.asg (.nm 2) (.bin false .add (.bin false .mul (.cst (.int 7919)) (.var 1)) (.cst (.int 101))))
  (.cons (.ife (.cmp .lt (.var 1) (.bf false .len (.cons (.var 0) .nil))) (.cons (.asg (.nm 2) (.bf false .abs (.cons (.idx (.var 0) (.var 1)) .nil)))
  .nil) (.cons (.ife (.cmp .gt (.bf false .len (.cons (.var 0) .nil)) (.cst (.int 0))) (.cons (.asg (.nm 2) (.bin false .add (.bin false .mul (.bin false .mod (.bf false .int (.cons (.bf false .abs (.cons (.idx (.var 0) (.bin false .mod (.bf false .int (.cons (.var 1) .nil)) (.bf false .len (.cons (.var 0) .nil)))) .nil)) .nil)) (.cst (.int 1000000007))) (.cst (.int 31))) (.bin false .mul (.cst (.int 7919)) (.var 1))))
  .nil) .nil)
  .nil))
  (.cons (.asg (.nm 3) (.idx (.lst false (.cons (.cst (.int 0)) (.cons (.var 2) .nil))) (.bf false .int (.cons (.cmp .ge (.var 2) (.bin false .pow (.cst (.int 10)) (.cst (.int 18)))) .nil))))
  (.cons (.ret false (.lst true (.cons (.var 3) (.cons (.bin false .add (.bin false .mod (.bf false .int (.cons (.bin false .add (.bin false .mul (.bin false .mod (.bf false .int (.cons (.var 2) .nil)) (.cst (.int 1000000007))) (.cst (.int 48271))) (.bin false .mul (.cst (.int 613)) (.var 1))) .nil)) (.cst (.int 2147483647))) (.cst (.int 1))) .nil))))
  .nil))))
abbrev ir__law_take : ISs := (.cons (.ife (.cmp .gt (.idx (.var 0) (.cst (.int 0))) (.cst (.int 0))) (.cons (.asg (.nm 2) (.bin false .mod (.bf false .int (.cons (.idx (.var 0) (.cst (.int 0))) .nil)) (.var 1)))
  (.cons (.seti (.var 0) (.cst (.int 0)) (.bin false .fdiv (.idx (.var 0) (.cst (.int 0))) (.var 1)))
  (.cons (.ret false (.var 2))
  .nil))) .nil)
  (.cons (.seti (.var 0) (.cst (.int 1)) (.bin false .mod (.bf false .int (.cons (.bin false .add (.bin false .mul (.idx (.var 0) (.cst (.int 1))) (.cst (.int 39373))) (.cst (.int 69621))) .nil)) (.cst (.int 2147483647))))
  (.cons (.ret false (.bin false .mod (.bf false .int (.cons (.bin false .fdiv (.idx (.var 0) (.cst (.int 1))) (.cst (.int 8191))) .nil)) (.var 1)))
  .nil)))
abbrev ir__law_pick : ISs := (.cons (.ret false (.idx (.var 1) (.call 10 (.cons (.var 0) (.cons (.bf false .len (.cons (.var 1) .nil)) .nil)))))
  .nil)
abbrev ir_law : ISs := (.cons (.asg (.nm 1) (.call 9 (.cons (.var 0) (.cons (.cst (.int 0)) .nil))))
  (.cons (.asg (.nm 2) (.lst false (.cons (.bin false .sub (.call 10 (.cons (.var 1) (.cons (.bin false .pow (.cst (.int 10)) (.cst (.int 6))) .nil))) (.cst (.int 500000))) (.cons (.bin false .add (.cst (.str "text ")) (.bf false .str (.cons (.call 10 (.cons (.var 1) (.cons (.cst (.int 99)) .nil))) .nil))) (.cons (.tup (.cons (.cst (.int 1)) (.cons (.call 10 (.cons (.var 1) (.cons (.cst (.int 9)) .nil))) .nil))) .nil)))))
  (.cons (.asg (.nm 2) (.bin false .add (.var 2) (.lst false (.cons (.lst false (.cons (.call 10 (.cons (.var 1) (.cons (.cst (.int 9)) .nil))) .nil)) (.cons (.cst .non) (.cons (.cst (.bl true)) (.cons (.tup .nil) .nil)))))))
  (.cons (.asg (.nm 3) (.call 11 (.cons (.var 1) (.cons (.var 2) .nil))))
  (.cons (.asg (.nm 4) (.call 26 (.cons (.var 3) .nil)))
  (.cons (.forr (.nm 5) (.e (.var 4)) (.cons (.ife (.cmp .ne (.xfl (.var 5) 2) (.var 3)) (.cons (.ret false (.cst (.bl false)))
  .nil) .nil)
  .nil))
  (.cons (.asg (.tp (.cons (.nm 6) (.cons (.nm 7) (.cons (.nm 8) .nil)))) (.tup (.cons (.xmk 3 (.var 3)) (.cons (.xmk 12 (.var 3)) (.cons (.xmk 13 (.var 3)) .nil)))))
  (.cons (.ife (.or (.cmp .ne (.xfl (.var 6) 3) (.var 3)) (.or (.cmp .ne (.xfl (.var 7) 4) (.var 3)) (.cmp .ne (.xfl (.var 8) 5) (.var 3)))) (.cons (.ret false (.cst (.bl false)))
  .nil) .nil)
  (.cons (.asg (.nm 4) (.bin false .add (.var 4) (.lst false (.cons (.var 6) (.cons (.var 7) (.cons (.var 8) .nil))))))
  (.cons (.forr (.nm 9) (.rng (.bf false .len (.cons (.var 4) .nil))) (.cons (.ife (.cmp .ne (.call 27 (.cons (.idx (.var 4) (.var 9)) .nil)) (.comp false [11] (.nm 11) (.rng (.bin false .add (.bf false .len (.cons (.var 4) .nil)) (.cst (.int 2)))) .none (.or (.cmp .eq (.var 11) (.var 9)) (.cmp .ge (.var 11) (.bf false .len (.cons (.var 4) .nil)))))) (.cons (.ret false (.cst (.bl false)))
  .nil) .nil)
  .nil))
  (.cons (.tr (.cons (.ex (.mk 0 7 (.cons (.cst (.int 0)) (.cons (.tup .nil) .nil))))
  (.cons (.ret false (.cst (.bl false)))
  .nil)) (.cons 0 10 (.cons (.ret true (.and (.xis (.var 10) [1]) (.cmpi .eq (.fle (.var 10) 2) 0)))
  .nil) .nil))
  .nil)))))))))))
abbrev ir__law_ones : ISs := (.cons (.asg (.nm 1) (.lst false (.cons (.xmk 1 (.var 0)) (.cons (.xmk 2 (.var 0)) (.cons (.xmk 4 (.var 0)) (.cons (.xmk 5 (.var 0)) (.cons (.xmk 6 (.var 0)) (.cons (.xmk 7 (.var 0)) .nil))))))))
  (.cons (.ret false (.bin false .add (.var 1) (.lst false (.cons (.xmk 8 (.var 0)) (.cons (.xmk 9 (.var 0)) (.cons (.xmk 10 (.var 0)) (.cons (.xmk 11 (.var 0)) .nil)))))))
  .nil))
abbrev ir__law_kinds : ISs := (.cons (.asg (.nm 1) (.lst false (.cons (.xio (.var 0) [1]) (.cons (.xio (.var 0) [2]) (.cons (.xio (.var 0) [4]) (.cons (.xio (.var 0) [5]) .nil))))))
  (.cons (.asg (.nm 1) (.bin false .add (.var 1) (.lst false (.cons (.xio (.var 0) [6]) (.cons (.xio (.var 0) [7]) (.cons (.xio (.var 0) [8]) .nil))))))
  (.cons (.asg (.nm 1) (.bin false .add (.var 1) (.lst false (.cons (.xio (.var 0) [9]) (.cons (.xio (.var 0) [10]) (.cons (.xio (.var 0) [11]) .nil))))))
  (.cons (.asg (.nm 1) (.bin false .add (.var 1) (.lst false (.cons (.xio (.var 0) [3]) (.cons (.xio (.var 0) [12]) (.cons (.xio (.var 0) [13]) .nil))))))
  (.cons (.ret false (.bin false .add (.var 1) (.lst false (.cons (.xio (.var 0) [0, 1, 2, 3, 4, 5, 6, 7, 8, 9, 10, 11, 12, 13]) (.cons (.xio (.var 0) [0, 1, 2, 3, 4, 5, 6, 7, 8, 9, 10, 11, 12, 13]) .nil)))))
  .nil)))))
def prg : Prg := { fns := [⟨1, 1, true, ir_is_integer⟩, ⟨3, 3, true, ir_is_integer_in⟩, ⟨1, 2, true, ir_is_word⟩, ⟨2, 5, true, ir_reached⟩, ⟨1, 2, true, ir_least_back⟩, ⟨2, 4, true, ir_is_rule⟩, ⟨2, 5, true, ir_single_steps⟩, ⟨3, 5, false, ir_Pairsx_initx⟩, ⟨2, 2, true, ir_Pairsx_eqx⟩, ⟨2, 4, false, ir__law_box⟩, ⟨2, 3, true, ir__law_take⟩, ⟨2, 2, true, ir__law_pick⟩, ⟨0, 0, true, .nil⟩, ⟨0, 0, true, .nil⟩, ⟨0, 0, true, .nil⟩, ⟨0, 0, true, .nil⟩, ⟨0, 0, true, .nil⟩, ⟨0, 0, true, .nil⟩, ⟨0, 0, true, .nil⟩, ⟨0, 0, true, .nil⟩, ⟨0, 0, true, .nil⟩, ⟨0, 0, true, .nil⟩, ⟨0, 0, true, .nil⟩, ⟨0, 0, true, .nil⟩, ⟨0, 0, true, .nil⟩, ⟨1, 12, true, ir_law⟩, ⟨1, 2, false, ir__law_ones⟩, ⟨1, 2, true, ir__law_kinds⟩], sub := subOf, xi := xiOf }
structure Fx (prog : Program) (w : World) (K : PySem.W.Frag) (mg : Str → Option Value) (base : Heap) (k : Nat) : Prop where
  n_ValueError : mg "ValueError" = none
  n_abs : mg "abs" = none
  n_all : mg "all" = none
  n_bool : mg "bool" = none
  n_int : mg "int" = none
  n_isinstance : mg "isinstance" = none
  n_len : mg "len" = none
  n_list : mg "list" = none
  n_range : mg "range" = none
  n_str : mg "str" = none
  n_tuple : mg "tuple" = none
  c_MOST_KINDS : ∃ t, mg "MOST_KINDS" = some (.int 40 t)
  c_MOST_LETTERS : ∃ t, mg "MOST_LETTERS" = some (.int 3 t)
  c_MOST_RULES : ∃ t, mg "MOST_RULES" = some (.int 90 t)
  c_LETTERS : ∃ t, mg "LETTERS" = some (.str "abcdefghijklmnopqrstuvwxyz" t)
  g_is_integer : mg "is_integer" = some (.ref (He.ga K "is_integer"))
  k_is_integer : PySem.W.keepIn K (.ref (He.ga K "is_integer")) = true
  g_is_integer_in : mg "is_integer_in" = some (.ref (He.ga K "is_integer_in"))
  k_is_integer_in : PySem.W.keepIn K (.ref (He.ga K "is_integer_in")) = true
  g_is_word : mg "is_word" = some (.ref (He.ga K "is_word"))
  k_is_word : PySem.W.keepIn K (.ref (He.ga K "is_word")) = true
  g_reached : mg "reached" = some (.ref (He.ga K "reached"))
  k_reached : PySem.W.keepIn K (.ref (He.ga K "reached")) = true
  g_least_back : mg "least_back" = some (.ref (He.ga K "least_back"))
  k_least_back : PySem.W.keepIn K (.ref (He.ga K "least_back")) = true
  g_is_rule : mg "is_rule" = some (.ref (He.ga K "is_rule"))
  k_is_rule : PySem.W.keepIn K (.ref (He.ga K "is_rule")) = true
  g_single_steps : mg "single_steps" = some (.ref (He.ga K "single_steps"))
  k_single_steps : PySem.W.keepIn K (.ref (He.ga K "single_steps")) = true
  g__law_box : mg "_law_box" = some (.ref (He.ga K "_law_box"))
  k__law_box : PySem.W.keepIn K (.ref (He.ga K "_law_box")) = true
  g__law_take : mg "_law_take" = some (.ref (He.ga K "_law_take"))
  k__law_take : PySem.W.keepIn K (.ref (He.ga K "_law_take")) = true
  g__law_pick : mg "_law_pick" = some (.ref (He.ga K "_law_pick"))
  k__law_pick : PySem.W.keepIn K (.ref (He.ga K "_law_pick")) = true
  g_law : mg "law" = some (.ref (He.ga K "law"))
  k_law : PySem.W.keepIn K (.ref (He.ga K "law")) = true
  g__law_ones : mg "_law_ones" = some (.ref (He.ga K "_law_ones"))
  k__law_ones : PySem.W.keepIn K (.ref (He.ga K "_law_ones")) = true
  g__law_kinds : mg "_law_kinds" = some (.ref (He.ga K "_law_kinds"))
  k__law_kinds : PySem.W.keepIn K (.ref (He.ga K "_law_kinds")) = true
  g_Pairs : mg "Pairs" = some (.ref (He.ga K "Pairs"))
  g_GraftError : mg "GraftError" = some (.ref (He.ga K "GraftError"))
  g_InvalidNumber : mg "InvalidNumber" = some (.ref (He.ga K "InvalidNumber"))
  g_InvalidRules : mg "InvalidRules" = some (.ref (He.ga K "InvalidRules"))
  g_Endless : mg "Endless" = some (.ref (He.ga K "Endless"))
  g_InvalidRule : mg "InvalidRule" = some (.ref (He.ga K "InvalidRule"))
  g_InvalidTrees : mg "InvalidTrees" = some (.ref (He.ga K "InvalidTrees"))
  g_InvalidText : mg "InvalidText" = some (.ref (He.ga K "InvalidText"))
  g_InvalidReading : mg "InvalidReading" = some (.ref (He.ga K "InvalidReading"))
  g_InvalidRun : mg "InvalidRun" = some (.ref (He.ga K "InvalidRun"))
  g_InvalidPlaces : mg "InvalidPlaces" = some (.ref (He.ga K "InvalidPlaces"))
  g_InvalidQuestion : mg "InvalidQuestion" = some (.ref (He.ga K "InvalidQuestion"))
  g_InvalidClaim : mg "InvalidClaim" = some (.ref (He.ga K "InvalidClaim"))
  g_Undefined : mg "Undefined" = some (.ref (He.ga K "Undefined"))
  g_NothingToUndo : mg "NothingToUndo" = some (.ref (He.ga K "NothingToUndo"))
  g_PARTS : mg "PARTS" = some (.ref (He.ga K "PARTS"))
  d_PARTS : ∃ es m, KDict K w (He.ga K "PARTS") es m
  w_PARTS : ∀ z, ∃ r, PySem.W.nsIn K (He.ga K "PARTS") z = some r ∧ r.isSome = ks_PARTS.contains z
  v_PARTS : ∀ z t, zs_PARTS.lookup z = some t → ∃ i u tk, t = .int i ∧ PySem.W.nsIn K (He.ga K "PARTS") z = some (some u) ∧ u = .int i tk
  o_PARTS : ∀ es n, KDict K w (He.ga K "PARTS") es n → es.toList.map keyStr = ks_PARTS.map some
  e_is_integer : ∀ {A : Around}, Room (2 * k + 2) A → ∃ k' fd ps, FnOk prog w K mg base (L2.CX prog w) k' (He.fAd K ("is_integer", none)) fd ps (spR (Dw K) (runFn prg k 0)) ∧ Room (k') A ∧ Binds K fd ps []
  m_is_integer : ∀ {A : Around}, Room (2 * k + 2) A → ∃ k' fd ps, FnOk prog w K mg base (L2.CX prog w) k' (He.fAd K ("is_integer", none)) fd ps (spR (Dw K) (runFn prg k 0)) ∧ Room (k' + 1) A ∧ Binds K fd ps []
  e_is_integer_in : ∀ {A : Around}, Room (2 * k + 2) A → ∃ k' fd ps, FnOk prog w K mg base (L2.CX prog w) k' (He.fAd K ("is_integer_in", none)) fd ps (spR (Dw K) (runFn prg k 1)) ∧ Room (k') A ∧ Binds K fd ps []
  m_is_integer_in : ∀ {A : Around}, Room (2 * k + 2) A → ∃ k' fd ps, FnOk prog w K mg base (L2.CX prog w) k' (He.fAd K ("is_integer_in", none)) fd ps (spR (Dw K) (runFn prg k 1)) ∧ Room (k' + 1) A ∧ Binds K fd ps []
  e_is_word : ∀ {A : Around}, Room (2 * k + 2) A → ∃ k' fd ps, FnOk prog w K mg base (L2.CX prog w) k' (He.fAd K ("is_word", none)) fd ps (spR (Dw K) (runFn prg k 2)) ∧ Room (k') A ∧ Binds K fd ps []
  m_is_word : ∀ {A : Around}, Room (2 * k + 2) A → ∃ k' fd ps, FnOk prog w K mg base (L2.CX prog w) k' (He.fAd K ("is_word", none)) fd ps (spR (Dw K) (runFn prg k 2)) ∧ Room (k' + 1) A ∧ Binds K fd ps []
  e_reached : ∀ {A : Around}, Room (2 * k + 2) A → ∃ k' fd ps, FnOk prog w K mg base (L2.CX prog w) k' (He.fAd K ("reached", none)) fd ps (spR (Dw K) (runFn prg k 3)) ∧ Room (k') A ∧ Binds K fd ps []
  m_reached : ∀ {A : Around}, Room (2 * k + 2) A → ∃ k' fd ps, FnOk prog w K mg base (L2.CX prog w) k' (He.fAd K ("reached", none)) fd ps (spR (Dw K) (runFn prg k 3)) ∧ Room (k' + 1) A ∧ Binds K fd ps []
  e_least_back : ∀ {A : Around}, Room (2 * k + 2) A → ∃ k' fd ps, FnOk prog w K mg base (L2.CX prog w) k' (He.fAd K ("least_back", none)) fd ps (spR (Dw K) (runFn prg k 4)) ∧ Room (k') A ∧ Binds K fd ps []
  m_least_back : ∀ {A : Around}, Room (2 * k + 2) A → ∃ k' fd ps, FnOk prog w K mg base (L2.CX prog w) k' (He.fAd K ("least_back", none)) fd ps (spR (Dw K) (runFn prg k 4)) ∧ Room (k' + 1) A ∧ Binds K fd ps []
  e_is_rule : ∀ {A : Around}, Room (2 * k + 2) A → ∃ k' fd ps, FnOk prog w K mg base (L2.CX prog w) k' (He.fAd K ("is_rule", none)) fd ps (spR (Dw K) (runFn prg k 5)) ∧ Room (k') A ∧ Binds K fd ps []
  m_is_rule : ∀ {A : Around}, Room (2 * k + 2) A → ∃ k' fd ps, FnOk prog w K mg base (L2.CX prog w) k' (He.fAd K ("is_rule", none)) fd ps (spR (Dw K) (runFn prg k 5)) ∧ Room (k' + 1) A ∧ Binds K fd ps []
  e_single_steps : ∀ {A : Around}, Room (2 * k + 2) A → ∃ k' fd ps, FnOk prog w K mg base (L2.CX prog w) k' (He.fAd K ("single_steps", none)) fd ps (spR (Dw K) (runFn prg k 6)) ∧ Room (k') A ∧ Binds K fd ps []
  m_single_steps : ∀ {A : Around}, Room (2 * k + 2) A → ∃ k' fd ps, FnOk prog w K mg base (L2.CX prog w) k' (He.fAd K ("single_steps", none)) fd ps (spR (Dw K) (runFn prg k 6)) ∧ Room (k' + 1) A ∧ Binds K fd ps []
  e_Pairsx_initx : ∀ {A : Around}, Room (2 * k + 2) A → ∃ k' fd ps, FnOk prog w K mg base (L2.CX prog w) k' (He.fAd K ("Pairs", some "__init__")) fd ps (spR (Dw K) (runFn prg k 7)) ∧ Room (k') A ∧ Binds K fd ps []
  m_Pairsx_initx : ∀ {A : Around}, Room (2 * k + 2) A → ∃ k' fd ps, FnOk prog w K mg base (L2.CX prog w) k' (He.fAd K ("Pairs", some "__init__")) fd ps (spR (Dw K) (runFn prg k 7)) ∧ Room (k' + 1) A ∧ Binds K fd ps []
  e_Pairsx_eqx : ∀ {A : Around}, Room (2 * k + 2) A → ∃ k' fd ps, FnOk prog w K mg base (L2.CX prog w) k' (He.fAd K ("Pairs", some "__eq__")) fd ps (spR (Dw K) (runFn prg k 8)) ∧ Room (k') A ∧ Binds K fd ps []
  m_Pairsx_eqx : ∀ {A : Around}, Room (2 * k + 2) A → ∃ k' fd ps, FnOk prog w K mg base (L2.CX prog w) k' (He.fAd K ("Pairs", some "__eq__")) fd ps (spR (Dw K) (runFn prg k 8)) ∧ Room (k' + 1) A ∧ Binds K fd ps []
  q_Pairsx_eqx : ∀ {A : Around}, Room (2 * k + 2) A → FnE (Dw K) prog w K mg base A (fun ts h => (runFn prg k 8 ts h).nox) (He.fAd K ("Pairs", some "__eq__"))
  s_Pairs : PySem.W.findIn K (.ref (He.ga K "Pairs")) "__eq__" = some (some (.ref (He.fAd K ("Pairs", some "__eq__"))))
  t_Pairs : PySem.W.isFn K (.ref (He.fAd K ("Pairs", some "__eq__"))) = true
  e__law_box : ∀ {A : Around}, Room (2 * k + 2) A → ∃ k' fd ps, FnOk prog w K mg base (L2.CX prog w) k' (He.fAd K ("_law_box", none)) fd ps (spR (Dw K) (runFn prg k 9)) ∧ Room (k') A ∧ Binds K fd ps []
  m__law_box : ∀ {A : Around}, Room (2 * k + 2) A → ∃ k' fd ps, FnOk prog w K mg base (L2.CX prog w) k' (He.fAd K ("_law_box", none)) fd ps (spR (Dw K) (runFn prg k 9)) ∧ Room (k' + 1) A ∧ Binds K fd ps []
  e__law_take : ∀ {A : Around}, Room (2 * k + 2) A → ∃ k' fd ps, FnOk prog w K mg base (L2.CX prog w) k' (He.fAd K ("_law_take", none)) fd ps (spR (Dw K) (runFn prg k 10)) ∧ Room (k') A ∧ Binds K fd ps []
  m__law_take : ∀ {A : Around}, Room (2 * k + 2) A → ∃ k' fd ps, FnOk prog w K mg base (L2.CX prog w) k' (He.fAd K ("_law_take", none)) fd ps (spR (Dw K) (runFn prg k 10)) ∧ Room (k' + 1) A ∧ Binds K fd ps []
  e__law_pick : ∀ {A : Around}, Room (2 * k + 2) A → ∃ k' fd ps, FnOk prog w K mg base (L2.CX prog w) k' (He.fAd K ("_law_pick", none)) fd ps (spR (Dw K) (runFn prg k 11)) ∧ Room (k') A ∧ Binds K fd ps []
  m__law_pick : ∀ {A : Around}, Room (2 * k + 2) A → ∃ k' fd ps, FnOk prog w K mg base (L2.CX prog w) k' (He.fAd K ("_law_pick", none)) fd ps (spR (Dw K) (runFn prg k 11)) ∧ Room (k' + 1) A ∧ Binds K fd ps []
  e_law : ∀ {A : Around}, Room (2 * k + 2) A → ∃ k' fd ps, FnOk prog w K mg base (L2.CX prog w) k' (He.fAd K ("law", none)) fd ps (spR (Dw K) (runFn prg k 25)) ∧ Room (k') A ∧ Binds K fd ps []
  m_law : ∀ {A : Around}, Room (2 * k + 2) A → ∃ k' fd ps, FnOk prog w K mg base (L2.CX prog w) k' (He.fAd K ("law", none)) fd ps (spR (Dw K) (runFn prg k 25)) ∧ Room (k' + 1) A ∧ Binds K fd ps []
  e__law_ones : ∀ {A : Around}, Room (2 * k + 2) A → ∃ k' fd ps, FnOk prog w K mg base (L2.CX prog w) k' (He.fAd K ("_law_ones", none)) fd ps (spR (Dw K) (runFn prg k 26)) ∧ Room (k') A ∧ Binds K fd ps []
  m__law_ones : ∀ {A : Around}, Room (2 * k + 2) A → ∃ k' fd ps, FnOk prog w K mg base (L2.CX prog w) k' (He.fAd K ("_law_ones", none)) fd ps (spR (Dw K) (runFn prg k 26)) ∧ Room (k' + 1) A ∧ Binds K fd ps []
  e__law_kinds : ∀ {A : Around}, Room (2 * k + 2) A → ∃ k' fd ps, FnOk prog w K mg base (L2.CX prog w) k' (He.fAd K ("_law_kinds", none)) fd ps (spR (Dw K) (runFn prg k 27)) ∧ Room (k') A ∧ Binds K fd ps []
  m__law_kinds : ∀ {A : Around}, Room (2 * k + 2) A → ∃ k' fd ps, FnOk prog w K mg base (L2.CX prog w) k' (He.fAd K ("_law_kinds", none)) fd ps (spR (Dw K) (runFn prg k 27)) ∧ Room (k' + 1) A ∧ Binds K fd ps []
  m_Pairs : Mk K (He.ga K "Pairs") (He.fAd K ("Pairs", some "__init__"))
  inj : ∀ i j, flOf i = flOf j → i = j
  a_Pairs_kinds : NoAttr K (He.ga K "Pairs") "kinds"
  a_Pairs_rules : NoAttr K (He.ga K "Pairs") "rules"
  cls : ∀ c, c < (Dw K).nc → ClsOk (Dw K) c
  y_GraftError : ∀ c, c < (Dw K).nx → PySem.W.exmOne K (.ref ((Dw K).xa c)) (.ref ((Dw K).xa 0)) = some (subOf c 0)
  x_InvalidNumber : ∀ {X : Cx}, X.K = K → X.prog = prog → X.w = w → X.mg = mg → X.base = base → Room (2 * k + 2) X.A → ErrOk (Dw K) X 1
  y_InvalidNumber : ∀ c, c < (Dw K).nx → PySem.W.exmOne K (.ref ((Dw K).xa c)) (.ref ((Dw K).xa 1)) = some (subOf c 1)
  x_InvalidRules : ∀ {X : Cx}, X.K = K → X.prog = prog → X.w = w → X.mg = mg → X.base = base → Room (2 * k + 2) X.A → ErrOk (Dw K) X 2
  y_InvalidRules : ∀ c, c < (Dw K).nx → PySem.W.exmOne K (.ref ((Dw K).xa c)) (.ref ((Dw K).xa 2)) = some (subOf c 2)
  x_Endless : ∀ {X : Cx}, X.K = K → X.prog = prog → X.w = w → X.mg = mg → X.base = base → Room (2 * k + 2) X.A → ErrOk (Dw K) X 3
  y_Endless : ∀ c, c < (Dw K).nx → PySem.W.exmOne K (.ref ((Dw K).xa c)) (.ref ((Dw K).xa 3)) = some (subOf c 3)
  x_InvalidRule : ∀ {X : Cx}, X.K = K → X.prog = prog → X.w = w → X.mg = mg → X.base = base → Room (2 * k + 2) X.A → ErrOk (Dw K) X 4
  y_InvalidRule : ∀ c, c < (Dw K).nx → PySem.W.exmOne K (.ref ((Dw K).xa c)) (.ref ((Dw K).xa 4)) = some (subOf c 4)
  x_InvalidTrees : ∀ {X : Cx}, X.K = K → X.prog = prog → X.w = w → X.mg = mg → X.base = base → Room (2 * k + 2) X.A → ErrOk (Dw K) X 5
  y_InvalidTrees : ∀ c, c < (Dw K).nx → PySem.W.exmOne K (.ref ((Dw K).xa c)) (.ref ((Dw K).xa 5)) = some (subOf c 5)
  x_InvalidText : ∀ {X : Cx}, X.K = K → X.prog = prog → X.w = w → X.mg = mg → X.base = base → Room (2 * k + 2) X.A → ErrOk (Dw K) X 6
  y_InvalidText : ∀ c, c < (Dw K).nx → PySem.W.exmOne K (.ref ((Dw K).xa c)) (.ref ((Dw K).xa 6)) = some (subOf c 6)
  x_InvalidReading : ∀ {X : Cx}, X.K = K → X.prog = prog → X.w = w → X.mg = mg → X.base = base → Room (2 * k + 2) X.A → ErrOk (Dw K) X 7
  y_InvalidReading : ∀ c, c < (Dw K).nx → PySem.W.exmOne K (.ref ((Dw K).xa c)) (.ref ((Dw K).xa 7)) = some (subOf c 7)
  x_InvalidRun : ∀ {X : Cx}, X.K = K → X.prog = prog → X.w = w → X.mg = mg → X.base = base → Room (2 * k + 2) X.A → ErrOk (Dw K) X 8
  y_InvalidRun : ∀ c, c < (Dw K).nx → PySem.W.exmOne K (.ref ((Dw K).xa c)) (.ref ((Dw K).xa 8)) = some (subOf c 8)
  x_InvalidPlaces : ∀ {X : Cx}, X.K = K → X.prog = prog → X.w = w → X.mg = mg → X.base = base → Room (2 * k + 2) X.A → ErrOk (Dw K) X 9
  y_InvalidPlaces : ∀ c, c < (Dw K).nx → PySem.W.exmOne K (.ref ((Dw K).xa c)) (.ref ((Dw K).xa 9)) = some (subOf c 9)
  x_InvalidQuestion : ∀ {X : Cx}, X.K = K → X.prog = prog → X.w = w → X.mg = mg → X.base = base → Room (2 * k + 2) X.A → ErrOk (Dw K) X 10
  y_InvalidQuestion : ∀ c, c < (Dw K).nx → PySem.W.exmOne K (.ref ((Dw K).xa c)) (.ref ((Dw K).xa 10)) = some (subOf c 10)
  x_InvalidClaim : ∀ {X : Cx}, X.K = K → X.prog = prog → X.w = w → X.mg = mg → X.base = base → Room (2 * k + 2) X.A → ErrOk (Dw K) X 11
  y_InvalidClaim : ∀ c, c < (Dw K).nx → PySem.W.exmOne K (.ref ((Dw K).xa c)) (.ref ((Dw K).xa 11)) = some (subOf c 11)
  x_Undefined : ∀ {X : Cx}, X.K = K → X.prog = prog → X.w = w → X.mg = mg → X.base = base → Room (2 * k + 2) X.A → ErrOk (Dw K) X 12
  y_Undefined : ∀ c, c < (Dw K).nx → PySem.W.exmOne K (.ref ((Dw K).xa c)) (.ref ((Dw K).xa 12)) = some (subOf c 12)
  x_NothingToUndo : ∀ {X : Cx}, X.K = K → X.prog = prog → X.w = w → X.mg = mg → X.base = base → Room (2 * k + 2) X.A → ErrOk (Dw K) X 13
  y_NothingToUndo : ∀ c, c < (Dw K).nx → PySem.W.exmOne K (.ref ((Dw K).xa c)) (.ref ((Dw K).xa 13)) = some (subOf c 13)
  ki_Endless : ∀ c, c < (Dw K).nx → ExcC K ((Dw K).xa c) ∧ PySem.W.kitOne K (.ref ((Dw K).xa c)) (.ref (He.ga K "Endless")) = some (([3] : List Nat).contains c)
  ki_GraftError : ∀ c, c < (Dw K).nx → ExcC K ((Dw K).xa c) ∧ PySem.W.kitOne K (.ref ((Dw K).xa c)) (.ref (He.ga K "GraftError")) = some (([0, 1, 2, 3, 4, 5, 6, 7, 8, 9, 10, 11, 12, 13] : List Nat).contains c)
  ki_InvalidClaim : ∀ c, c < (Dw K).nx → ExcC K ((Dw K).xa c) ∧ PySem.W.kitOne K (.ref ((Dw K).xa c)) (.ref (He.ga K "InvalidClaim")) = some (([11] : List Nat).contains c)
  ki_InvalidNumber : ∀ c, c < (Dw K).nx → ExcC K ((Dw K).xa c) ∧ PySem.W.kitOne K (.ref ((Dw K).xa c)) (.ref (He.ga K "InvalidNumber")) = some (([1] : List Nat).contains c)
  ki_InvalidPlaces : ∀ c, c < (Dw K).nx → ExcC K ((Dw K).xa c) ∧ PySem.W.kitOne K (.ref ((Dw K).xa c)) (.ref (He.ga K "InvalidPlaces")) = some (([9] : List Nat).contains c)
  ki_InvalidQuestion : ∀ c, c < (Dw K).nx → ExcC K ((Dw K).xa c) ∧ PySem.W.kitOne K (.ref ((Dw K).xa c)) (.ref (He.ga K "InvalidQuestion")) = some (([10] : List Nat).contains c)
  ki_InvalidReading : ∀ c, c < (Dw K).nx → ExcC K ((Dw K).xa c) ∧ PySem.W.kitOne K (.ref ((Dw K).xa c)) (.ref (He.ga K "InvalidReading")) = some (([7] : List Nat).contains c)
  ki_InvalidRule : ∀ c, c < (Dw K).nx → ExcC K ((Dw K).xa c) ∧ PySem.W.kitOne K (.ref ((Dw K).xa c)) (.ref (He.ga K "InvalidRule")) = some (([4] : List Nat).contains c)
  ki_InvalidRules : ∀ c, c < (Dw K).nx → ExcC K ((Dw K).xa c) ∧ PySem.W.kitOne K (.ref ((Dw K).xa c)) (.ref (He.ga K "InvalidRules")) = some (([2] : List Nat).contains c)
  ki_InvalidRun : ∀ c, c < (Dw K).nx → ExcC K ((Dw K).xa c) ∧ PySem.W.kitOne K (.ref ((Dw K).xa c)) (.ref (He.ga K "InvalidRun")) = some (([8] : List Nat).contains c)
  ki_InvalidText : ∀ c, c < (Dw K).nx → ExcC K ((Dw K).xa c) ∧ PySem.W.kitOne K (.ref ((Dw K).xa c)) (.ref (He.ga K "InvalidText")) = some (([6] : List Nat).contains c)
  ki_InvalidTrees : ∀ c, c < (Dw K).nx → ExcC K ((Dw K).xa c) ∧ PySem.W.kitOne K (.ref ((Dw K).xa c)) (.ref (He.ga K "InvalidTrees")) = some (([5] : List Nat).contains c)
  ki_NothingToUndo : ∀ c, c < (Dw K).nx → ExcC K ((Dw K).xa c) ∧ PySem.W.kitOne K (.ref ((Dw K).xa c)) (.ref (He.ga K "NothingToUndo")) = some (([13] : List Nat).contains c)
  ki_Undefined : ∀ c, c < (Dw K).nx → ExcC K ((Dw K).xa c) ∧ PySem.W.kitOne K (.ref ((Dw K).xa c)) (.ref (He.ga K "Undefined")) = some (([12] : List Nat).contains c)
  ki_ValueError : ∀ c, c < (Dw K).nx → ExcC K ((Dw K).xa c) ∧ PySem.W.kitOne K (.ref ((Dw K).xa c)) (.type "ValueError") = some (([0, 1, 2, 3, 4, 5, 6, 7, 8, 9, 10, 11, 12, 13] : List Nat).contains c)
  xf_kind : ∀ c, c < (Dw K).nx → xiOf c = 3 → (Dw K).xf c = "kind" ∧ XfC K ((Dw K).xa c) ∧ PySem.W.findIn K (.ref ((Dw K).xa c)) "kind" = some none
  xf_value : ∀ c, c < (Dw K).nx → xiOf c = 2 → (Dw K).xf c = "value" ∧ XfC K ((Dw K).xa c) ∧ PySem.W.findIn K (.ref ((Dw K).xa c)) "value" = some none
  xf_what : ∀ c, c < (Dw K).nx → xiOf c = 4 → (Dw K).xf c = "what" ∧ XfC K ((Dw K).xa c) ∧ PySem.W.findIn K (.ref ((Dw K).xa c)) "what" = some none
  xf_word : ∀ c, c < (Dw K).nx → xiOf c = 5 → (Dw K).xf c = "word" ∧ XfC K ((Dw K).xa c) ∧ PySem.W.findIn K (.ref ((Dw K).xa c)) "word" = some none
section
variable {prog : Program} {w : World} {K : PySem.W.Frag} {mg : Str → Option Value} {base : Heap} {k : Nat}
theorem sc_is_integer : FnScope ["value"] ["value"] (defScope (top 18)) := ⟨rfl, rfl, rfl, by decide +kernel, rfl, by decide +kernel, by decide +kernel⟩
theorem walk_is_integer (F : Fx prog w K mg base k) {f : Addr} {cdv : Value} {A : Around} {outer : List PySem.Env} {s : Shared} {H : Hp} {E : XK} {n0 : Nat} (hr : Room (2 * k + 2) (A.deeper (envOfC "is_integer" (defScope (top 18)) s.heap.objs.size f cdv))) :
    XSs (Dw K) (cxOf (L2.CX prog w) prog w K mg base ["value"] "is_integer" (defScope (top 18)) f cdv A outer s H E) (wB E) ⟨runFn prg k, n0, prg.sub, prg.xi⟩ (defBody (top 18)) ir_is_integer := by
  have nd : (["value"] : List Str).Nodup := sc_is_integer.nd
  have O : Okx (Dw K) (cxOf (L2.CX prog w) prog w K mg base ["value"] "is_integer" (defScope (top 18)) f cdv A outer s H E) := ⟨rfl, by have := hr.un; show (A.deeper (envOfC "is_integer" (defScope (top 18)) s.heap.objs.size f cdv)).units + 190 < _; omega, F.cls⟩
  have tk : Takes (cxOf (L2.CX prog w) prog w K mg base ["value"] "is_integer" (defScope (top 18)) f cdv A outer s H E) (wB E) := takes_of rfl rfl rfl rfl
  have hp : PassesOwn (model prog w) (A.deeper (envOfC "is_integer" (defScope (top 18)) s.heap.objs.size f cdv)) (envOfC "is_integer" (defScope (top 18)) s.heap.objs.size f cdv) (cxOf (L2.CX prog w) prog w K mg base ["value"] "is_integer" (defScope (top 18)) f cdv A outer s H E).xe := passes_of rfl
  exact (ss_cons (s_ret (x_and O (x_isi O (y := .int) trivial (by rfl) F.n_isinstance (x_var (i := 0) rfl (by first | exact .inl rfl | exact .inr (.inl rfl) | exact .inr (.inr rfl))) (c_ty (by rfl) F.n_int (by rfl))) (x_and1 (x_not O (x_isi O (y := .bool) trivial (by rfl) F.n_isinstance (x_var (i := 0) rfl (by first | exact .inl rfl | exact .inr (.inl rfl) | exact .inr (.inr rfl))) (c_ty (by rfl) F.n_bool (by rfl)))))))
  ss_nil)
theorem sc_is_integer_in : FnScope ["value", "least", "most"] ["value", "least", "most"] (defScope (top 19)) := ⟨rfl, rfl, rfl, by decide +kernel, rfl, by decide +kernel, by decide +kernel⟩
theorem walk_is_integer_in (F : Fx prog w K mg base k) {f : Addr} {cdv : Value} {A : Around} {outer : List PySem.Env} {s : Shared} {H : Hp} {E : XK} {n0 : Nat} (hr : Room (2 * k + 2) (A.deeper (envOfC "is_integer_in" (defScope (top 19)) s.heap.objs.size f cdv))) :
    XSs (Dw K) (cxOf (L2.CX prog w) prog w K mg base ["value", "least", "most"] "is_integer_in" (defScope (top 19)) f cdv A outer s H E) (wB E) ⟨runFn prg k, n0, prg.sub, prg.xi⟩ (defBody (top 19)) ir_is_integer_in := by
  have nd : (["value", "least", "most"] : List Str).Nodup := sc_is_integer_in.nd
  have O : Okx (Dw K) (cxOf (L2.CX prog w) prog w K mg base ["value", "least", "most"] "is_integer_in" (defScope (top 19)) f cdv A outer s H E) := ⟨rfl, by have := hr.un; show (A.deeper (envOfC "is_integer_in" (defScope (top 19)) s.heap.objs.size f cdv)).units + 190 < _; omega, F.cls⟩
  have tk : Takes (cxOf (L2.CX prog w) prog w K mg base ["value", "least", "most"] "is_integer_in" (defScope (top 19)) f cdv A outer s H E) (wB E) := takes_of rfl rfl rfl rfl
  have hp : PassesOwn (model prog w) (A.deeper (envOfC "is_integer_in" (defScope (top 19)) s.heap.objs.size f cdv)) (envOfC "is_integer_in" (defScope (top 19)) s.heap.objs.size f cdv) (cxOf (L2.CX prog w) prog w K mg base ["value", "least", "most"] "is_integer_in" (defScope (top 19)) f cdv A outer s H E).xe := passes_of rfl
  exact (ss_cons (s_ret (x_and O (x_call (by exact FnE.mk (F.e_is_integer hr)) tk (by rfl) F.g_is_integer F.k_is_integer (x_cons (x_var (i := 0) rfl (by first | exact .inl rfl | exact .inr (.inl rfl) | exact .inr (.inr rfl))) x_nil)) (x_and1 (x_chain O (o := .le) (o' := .le) (x_var (i := 1) rfl (by first | exact .inl rfl | exact .inr (.inl rfl) | exact .inr (.inr rfl))) (x_var (i := 0) rfl (by first | exact .inl rfl | exact .inr (.inl rfl) | exact .inr (.inr rfl))) (x_var (i := 2) rfl (by first | exact .inl rfl | exact .inr (.inl rfl) | exact .inr (.inr rfl))) (by with_unfolding_all rfl)))))
  ss_nil)
theorem sc_is_word : FnScope ["value", "letter"] ["value"] (defScope (top 20)) := ⟨rfl, rfl, rfl, by decide +kernel, rfl, by decide +kernel, by decide +kernel⟩
theorem walk_is_word (F : Fx prog w K mg base k) {f : Addr} {cdv : Value} {A : Around} {outer : List PySem.Env} {s : Shared} {H : Hp} {E : XK} {n0 : Nat} (hr : Room (2 * k + 2) (A.deeper (envOfC "is_word" (defScope (top 20)) s.heap.objs.size f cdv))) :
    XSs (Dw K) (cxOf (L2.CX prog w) prog w K mg base ["value", "letter"] "is_word" (defScope (top 20)) f cdv A outer s H E) (wB E) ⟨runFn prg k, n0, prg.sub, prg.xi⟩ (defBody (top 20)) ir_is_word := by
  have nd : (["value", "letter"] : List Str).Nodup := sc_is_word.nd
  have O : Okx (Dw K) (cxOf (L2.CX prog w) prog w K mg base ["value", "letter"] "is_word" (defScope (top 20)) f cdv A outer s H E) := ⟨rfl, by have := hr.un; show (A.deeper (envOfC "is_word" (defScope (top 20)) s.heap.objs.size f cdv)).units + 190 < _; omega, F.cls⟩
  have tk : Takes (cxOf (L2.CX prog w) prog w K mg base ["value", "letter"] "is_word" (defScope (top 20)) f cdv A outer s H E) (wB E) := takes_of rfl rfl rfl rfl
  have hp : PassesOwn (model prog w) (A.deeper (envOfC "is_word" (defScope (top 20)) s.heap.objs.size f cdv)) (envOfC "is_word" (defScope (top 20)) s.heap.objs.size f cdv) (cxOf (L2.CX prog w) prog w K mg base ["value", "letter"] "is_word" (defScope (top 20)) f cdv A outer s H E).xe := passes_of rfl
  exact (ss_cons (s_if (PW.pt (w_or (b_not (b_val O (x_isi O (y := .str) trivial (by rfl) F.n_isinstance (x_var (i := 0) rfl (by first | exact .inl rfl | exact .inr (.inl rfl) | exact .inr (.inr rfl))) (c_ty (by rfl) F.n_str (by rfl))))) (w_or1 (b_not (b_chain O (o := .le) (o' := .le) x_int (x_bf (bf_len O) (by rfl) F.n_len (by rfl) (x_cons (x_var (i := 0) rfl (by first | exact .inl rfl | exact .inr (.inl rfl) | exact .inr (.inr rfl))) x_nil)) (x_gi (by rfl) F.c_MOST_LETTERS) (by with_unfolding_all rfl)))))) (ss_cons (s_ret x_bl)
  ss_nil) ss_nil)
  (ss_cons (s_ret (x_bf (bf_all O (by rfl)) (by rfl) F.n_all (by rfl) (x_cons (x_comp (own := [("letter", 1)]) rfl nd  (i_e O (x_var (i := 0) rfl (by first | exact .inl rfl | exact .inr (.inl rfl) | exact .inr (.inr rfl)))) (blkOk_by (N := ["value", "letter"]) (sc := defScope (top 20)) (by decide +kernel)) (by decide) (fun _ _ _ _ _ => (g_nm nd rfl (by first | exact .inl rfl | exact .inr rfl) (by first | exact .inl rfl | exact .inr rfl))) (fun _ _ _ _ _ => .nil) (fun _ _ _ _ _ => (x_cmp (by exact O.of rfl rfl) (o := .isin) (x_var (i := 1) rfl (by first | exact .inl rfl | exact .inr (.inl rfl) | exact .inr (.inr rfl))) (x_gs (by rfl) F.c_LETTERS) (by with_unfolding_all rfl)))) x_nil)))
  ss_nil))
theorem sc_reached : FnScope ["leads", "start", "found", "waiting", "kind"] ["leads", "start"] (defScope (top 21)) := ⟨rfl, rfl, rfl, by decide +kernel, rfl, by decide +kernel, by decide +kernel⟩
theorem walk_reached (F : Fx prog w K mg base k) {f : Addr} {cdv : Value} {A : Around} {outer : List PySem.Env} {s : Shared} {H : Hp} {E : XK} {n0 : Nat} (hr : Room (2 * k + 2) (A.deeper (envOfC "reached" (defScope (top 21)) s.heap.objs.size f cdv))) :
    XSs (Dw K) (cxOf (L2.CX prog w) prog w K mg base ["leads", "start", "found", "waiting", "kind"] "reached" (defScope (top 21)) f cdv A outer s H E) (wB E) ⟨runFn prg k, n0, prg.sub, prg.xi⟩ (defBody (top 21)) ir_reached := by
  have nd : (["leads", "start", "found", "waiting", "kind"] : List Str).Nodup := sc_reached.nd
  have O : Okx (Dw K) (cxOf (L2.CX prog w) prog w K mg base ["leads", "start", "found", "waiting", "kind"] "reached" (defScope (top 21)) f cdv A outer s H E) := ⟨rfl, by have := hr.un; show (A.deeper (envOfC "reached" (defScope (top 21)) s.heap.objs.size f cdv)).units + 190 < _; omega, F.cls⟩
  have tk : Takes (cxOf (L2.CX prog w) prog w K mg base ["leads", "start", "found", "waiting", "kind"] "reached" (defScope (top 21)) f cdv A outer s H E) (wB E) := takes_of rfl rfl rfl rfl
  have hp : PassesOwn (model prog w) (A.deeper (envOfC "reached" (defScope (top 21)) s.heap.objs.size f cdv)) (envOfC "reached" (defScope (top 21)) s.heap.objs.size f cdv) (cxOf (L2.CX prog w) prog w K mg base ["leads", "start", "found", "waiting", "kind"] "reached" (defScope (top 21)) f cdv A outer s H E).xe := passes_of rfl
  exact (ss_cons (s_asg (x_dicK) (g_nm nd rfl (by first | exact .inl rfl | exact .inr rfl) (by first | exact .inl rfl | exact .inr rfl)))
  (ss_cons (s_asg (x_bfT (bf_list O) (by rfl) F.n_list (by rfl) (x_cons (x_idx O (x_var (i := 0) rfl (by first | exact .inl rfl | exact .inr (.inl rfl) | exact .inr (.inr rfl))) (x_var (i := 1) rfl (by first | exact .inl rfl | exact .inr (.inl rfl) | exact .inr (.inr rfl)))) x_nil)) (g_nm nd rfl (by first | exact .inl rfl | exact .inr rfl) (by first | exact .inl rfl | exact .inr rfl)))
  (ss_cons (s_whl hp (b_val O (x_var (i := 3) rfl (by first | exact .inl rfl | exact .inr (.inl rfl) | exact .inr (.inr rfl)))) (ss_cons (s_asg (x_bm0 O (f := .pop) (by constructor <;> (intro h; cases h)) PySem.F.slot_list_pop PySem.F.type_list_pop bm_pop (x_var (i := 3) rfl (by first | exact .inl rfl | exact .inr (.inl rfl) | exact .inr (.inr rfl)))) (g_nm nd rfl (by first | exact .inl rfl | exact .inr rfl) (by first | exact .inl rfl | exact .inr rfl)))
  (ss_cons (s_if (b_cmp O (o := .notin) (x_var (i := 4) rfl (by first | exact .inl rfl | exact .inr (.inl rfl) | exact .inr (.inr rfl))) (x_var (i := 2) rfl (by first | exact .inl rfl | exact .inr (.inl rfl) | exact .inr (.inr rfl))) (by with_unfolding_all rfl)) (ss_cons (s_seti O (x_var (i := 2) rfl (by first | exact .inl rfl | exact .inr (.inl rfl) | exact .inr (.inr rfl))) (x_var (i := 4) rfl (by first | exact .inl rfl | exact .inr (.inl rfl) | exact .inr (.inr rfl))) x_bl)
  (ss_cons (s_ex (x_bm O (f := .extend) (by constructor <;> (intro h; cases h)) PySem.F.slot_list_extend PySem.F.type_list_extend (bm_extend O) (x_var (i := 3) rfl (by first | exact .inl rfl | exact .inr (.inl rfl) | exact .inr (.inr rfl))) (x_cons (x_idx O (x_var (i := 0) rfl (by first | exact .inl rfl | exact .inr (.inl rfl) | exact .inr (.inr rfl))) (x_var (i := 4) rfl (by first | exact .inl rfl | exact .inr (.inl rfl) | exact .inr (.inr rfl)))) x_nil)))
  ss_nil)) ss_nil)
  ss_nil)))
  (ss_cons (s_retF (x_var (i := 2) rfl (by first | exact .inl rfl | exact .inr (.inl rfl) | exact .inr (.inr rfl))))
  ss_nil))))
theorem sc_least_back : FnScope ["leads", "kind"] ["leads"] (defScope (top 22)) := ⟨rfl, rfl, rfl, by decide +kernel, rfl, by decide +kernel, by decide +kernel⟩
theorem walk_least_back (F : Fx prog w K mg base k) {f : Addr} {cdv : Value} {A : Around} {outer : List PySem.Env} {s : Shared} {H : Hp} {E : XK} {n0 : Nat} (hr : Room (2 * k + 2) (A.deeper (envOfC "least_back" (defScope (top 22)) s.heap.objs.size f cdv))) :
    XSs (Dw K) (cxOf (L2.CX prog w) prog w K mg base ["leads", "kind"] "least_back" (defScope (top 22)) f cdv A outer s H E) (wB E) ⟨runFn prg k, n0, prg.sub, prg.xi⟩ (defBody (top 22)) ir_least_back := by
  have nd : (["leads", "kind"] : List Str).Nodup := sc_least_back.nd
  have O : Okx (Dw K) (cxOf (L2.CX prog w) prog w K mg base ["leads", "kind"] "least_back" (defScope (top 22)) f cdv A outer s H E) := ⟨rfl, by have := hr.un; show (A.deeper (envOfC "least_back" (defScope (top 22)) s.heap.objs.size f cdv)).units + 190 < _; omega, F.cls⟩
  have tk : Takes (cxOf (L2.CX prog w) prog w K mg base ["leads", "kind"] "least_back" (defScope (top 22)) f cdv A outer s H E) (wB E) := takes_of rfl rfl rfl rfl
  have hp : PassesOwn (model prog w) (A.deeper (envOfC "least_back" (defScope (top 22)) s.heap.objs.size f cdv)) (envOfC "least_back" (defScope (top 22)) s.heap.objs.size f cdv) (cxOf (L2.CX prog w) prog w K mg base ["leads", "kind"] "least_back" (defScope (top 22)) f cdv A outer s H E).xe := passes_of rfl
  exact (ss_cons (s_for hp rfl (i_rng (by rfl) F.n_range (x_bf (bf_len O) (by rfl) F.n_len (by rfl) (x_cons (x_var (i := 0) rfl (by first | exact .inl rfl | exact .inr (.inl rfl) | exact .inr (.inr rfl))) x_nil))) (g_nm nd rfl (by first | exact .inl rfl | exact .inr rfl) (by first | exact .inl rfl | exact .inr rfl)) (ss_cons (s_if (b_cmp O (o := .isin) (x_var (i := 1) rfl (by first | exact .inl rfl | exact .inr (.inl rfl) | exact .inr (.inr rfl))) (x_call (by exact FnE.mk (F.e_reached hr)) tk (by rfl) F.g_reached F.k_reached (x_cons (x_var (i := 0) rfl (by first | exact .inl rfl | exact .inr (.inl rfl) | exact .inr (.inr rfl))) (x_cons (x_var (i := 1) rfl (by first | exact .inl rfl | exact .inr (.inl rfl) | exact .inr (.inr rfl))) x_nil))) (by with_unfolding_all rfl)) (ss_cons (s_ret (x_var (i := 1) rfl (by first | exact .inl rfl | exact .inr (.inl rfl) | exact .inr (.inr rfl))))
  ss_nil) ss_nil)
  ss_nil))
  (ss_cons (s_ret x_non)
  ss_nil))
theorem sc_is_rule : FnScope ["value", "kinds", "many", "part"] ["value", "kinds"] (defScope (top 27)) := ⟨rfl, rfl, rfl, by decide +kernel, rfl, by decide +kernel, by decide +kernel⟩
theorem walk_is_rule (F : Fx prog w K mg base k) {f : Addr} {cdv : Value} {A : Around} {outer : List PySem.Env} {s : Shared} {H : Hp} {E : XK} {n0 : Nat} (hr : Room (2 * k + 2) (A.deeper (envOfC "is_rule" (defScope (top 27)) s.heap.objs.size f cdv))) :
    XSs (Dw K) (cxOf (L2.CX prog w) prog w K mg base ["value", "kinds", "many", "part"] "is_rule" (defScope (top 27)) f cdv A outer s H E) (wB E) ⟨runFn prg k, n0, prg.sub, prg.xi⟩ (defBody (top 27)) ir_is_rule := by
  have nd : (["value", "kinds", "many", "part"] : List Str).Nodup := sc_is_rule.nd
  have O : Okx (Dw K) (cxOf (L2.CX prog w) prog w K mg base ["value", "kinds", "many", "part"] "is_rule" (defScope (top 27)) f cdv A outer s H E) := ⟨rfl, by have := hr.un; show (A.deeper (envOfC "is_rule" (defScope (top 27)) s.heap.objs.size f cdv)).units + 190 < _; omega, F.cls⟩
  have tk : Takes (cxOf (L2.CX prog w) prog w K mg base ["value", "kinds", "many", "part"] "is_rule" (defScope (top 27)) f cdv A outer s H E) (wB E) := takes_of rfl rfl rfl rfl
  have hp : PassesOwn (model prog w) (A.deeper (envOfC "is_rule" (defScope (top 27)) s.heap.objs.size f cdv)) (envOfC "is_rule" (defScope (top 27)) s.heap.objs.size f cdv) (cxOf (L2.CX prog w) prog w K mg base ["value", "kinds", "many", "part"] "is_rule" (defScope (top 27)) f cdv A outer s H E).xe := passes_of rfl
  exact (ss_cons (s_if (PW.pt (w_or (b_not (b_val O (x_isi O (y := .tuple) trivial (by rfl) F.n_isinstance (x_var (i := 0) rfl (by first | exact .inl rfl | exact .inr (.inl rfl) | exact .inr (.inr rfl))) (c_ty (by rfl) F.n_tuple (by rfl))))) (w_or (b_cmp O (o := .lt) (x_bf (bf_len O) (by rfl) F.n_len (by rfl) (x_cons (x_var (i := 0) rfl (by first | exact .inl rfl | exact .inr (.inl rfl) | exact .inr (.inr rfl))) x_nil)) x_int (nomark _)) (w_or1 (b_not (b_val O (x_call (by exact FnE.mk (F.e_is_integer_in hr)) tk (by rfl) F.g_is_integer_in F.k_is_integer_in (x_cons (x_idx O (x_var (i := 0) rfl (by first | exact .inl rfl | exact .inr (.inl rfl) | exact .inr (.inr rfl))) x_int) (x_cons x_int (x_cons (x_bin O (o := .sub) (x_var (i := 1) rfl (by first | exact .inl rfl | exact .inr (.inl rfl) | exact .inr (.inr rfl))) x_int) x_nil)))))))))) (ss_cons (s_ret x_bl)
  ss_nil) ss_nil)
  (ss_cons (s_if (PW.pt (w_or (b_not (b_val O (x_isi O (y := .str) trivial (by rfl) F.n_isinstance (x_idx O (x_var (i := 0) rfl (by first | exact .inl rfl | exact .inr (.inl rfl) | exact .inr (.inr rfl))) x_int) (c_ty (by rfl) F.n_str (by rfl))))) (w_or1 (b_kinE (n := true) F.d_PARTS F.w_PARTS (x_idx O (x_var (i := 0) rfl (by first | exact .inl rfl | exact .inr (.inl rfl) | exact .inr (.inr rfl))) x_int) (c_cls2 (by rfl) F.g_PARTS) (by with_unfolding_all rfl))))) (ss_cons (s_ret x_bl)
  ss_nil) ss_nil)
  (ss_cons (s_asg (x_kgetE F.d_PARTS F.v_PARTS (c_cls2 (by rfl) F.g_PARTS) (x_idx O (x_var (i := 0) rfl (by first | exact .inl rfl | exact .inr (.inl rfl) | exact .inr (.inr rfl))) x_int)) (g_nm nd rfl (by first | exact .inl rfl | exact .inr rfl) (by first | exact .inl rfl | exact .inr rfl)))
  (ss_cons (s_if (b_cmp O (o := .eq) (x_var (i := 2) rfl (by first | exact .inl rfl | exact .inr (.inl rfl) | exact .inr (.inr rfl))) x_int (nomark _)) (ss_cons (s_ret (x_and O (x_cmp O (o := .eq) (x_bf (bf_len O) (by rfl) F.n_len (by rfl) (x_cons (x_var (i := 0) rfl (by first | exact .inl rfl | exact .inr (.inl rfl) | exact .inr (.inr rfl))) x_nil)) x_int (nomark _)) (x_and1 (x_call (by exact FnE.mk (F.e_is_word hr)) tk (by rfl) F.g_is_word F.k_is_word (x_cons (x_idx O (x_var (i := 0) rfl (by first | exact .inl rfl | exact .inr (.inl rfl) | exact .inr (.inr rfl))) x_int) x_nil)))))
  ss_nil) ss_nil)
  (ss_cons (s_ret (x_and O (x_cmp O (o := .eq) (x_bf (bf_len O) (by rfl) F.n_len (by rfl) (x_cons (x_var (i := 0) rfl (by first | exact .inl rfl | exact .inr (.inl rfl) | exact .inr (.inr rfl))) x_nil)) (x_bin O (o := .add) x_int (x_var (i := 2) rfl (by first | exact .inl rfl | exact .inr (.inl rfl) | exact .inr (.inr rfl)))) (nomark _)) (x_and1 (x_bf (bf_all O (by rfl)) (by rfl) F.n_all (by rfl) (x_cons (x_comp (own := [("part", 3)]) rfl nd  (i_e O (x_slc O (x_var (i := 0) rfl (by first | exact .inl rfl | exact .inr (.inl rfl) | exact .inr (.inr rfl))) (o_some x_int) o_none)) (blkOk_by (N := ["value", "kinds", "many", "part"]) (sc := defScope (top 27)) (by decide +kernel)) (by decide) (fun _ _ _ _ _ => (g_nm nd rfl (by first | exact .inl rfl | exact .inr rfl) (by first | exact .inl rfl | exact .inr rfl))) (fun _ _ _ _ _ => .nil) (fun _ _ _ _ _ => (x_call (by exact FnE.mk (F.e_is_integer_in hr)) takes_none5 (by rfl) F.g_is_integer_in F.k_is_integer_in (x_cons (x_var (i := 3) rfl (by first | exact .inl rfl | exact .inr (.inl rfl) | exact .inr (.inr rfl))) (x_cons x_int (x_cons (x_bin (by exact O.of rfl rfl) (o := .sub) (x_var (i := 1) rfl (by first | exact .inl rfl | exact .inr (.inl rfl) | exact .inr (.inr rfl))) x_int) x_nil)))))) x_nil)))))
  ss_nil)))))
theorem sc_single_steps : FnScope ["kinds", "rules", "found", "rule", "_"] ["kinds", "rules"] (defScope (top 28)) := ⟨rfl, rfl, rfl, by decide +kernel, rfl, by decide +kernel, by decide +kernel⟩
theorem walk_single_steps (F : Fx prog w K mg base k) {f : Addr} {cdv : Value} {A : Around} {outer : List PySem.Env} {s : Shared} {H : Hp} {E : XK} {n0 : Nat} (hr : Room (2 * k + 2) (A.deeper (envOfC "single_steps" (defScope (top 28)) s.heap.objs.size f cdv))) :
    XSs (Dw K) (cxOf (L2.CX prog w) prog w K mg base ["kinds", "rules", "found", "rule", "_"] "single_steps" (defScope (top 28)) f cdv A outer s H E) (wB E) ⟨runFn prg k, n0, prg.sub, prg.xi⟩ (defBody (top 28)) ir_single_steps := by
  have nd : (["kinds", "rules", "found", "rule", "_"] : List Str).Nodup := sc_single_steps.nd
  have O : Okx (Dw K) (cxOf (L2.CX prog w) prog w K mg base ["kinds", "rules", "found", "rule", "_"] "single_steps" (defScope (top 28)) f cdv A outer s H E) := ⟨rfl, by have := hr.un; show (A.deeper (envOfC "single_steps" (defScope (top 28)) s.heap.objs.size f cdv)).units + 190 < _; omega, F.cls⟩
  have tk : Takes (cxOf (L2.CX prog w) prog w K mg base ["kinds", "rules", "found", "rule", "_"] "single_steps" (defScope (top 28)) f cdv A outer s H E) (wB E) := takes_of rfl rfl rfl rfl
  have hp : PassesOwn (model prog w) (A.deeper (envOfC "single_steps" (defScope (top 28)) s.heap.objs.size f cdv)) (envOfC "single_steps" (defScope (top 28)) s.heap.objs.size f cdv) (cxOf (L2.CX prog w) prog w K mg base ["kinds", "rules", "found", "rule", "_"] "single_steps" (defScope (top 28)) f cdv A outer s H E).xe := passes_of rfl
  exact (ss_cons (s_comp (i := 2) (own := [("_", 4)]) rfl nd rfl rfl (sw_true rfl rfl rfl (by decide +kernel)) (i_rng (by rfl) F.n_range (x_var (i := 0) rfl (by first | exact .inl rfl | exact .inr (.inl rfl) | exact .inr (.inr rfl)))) (blkOk_by (N := ["kinds", "rules", "found", "rule", "_"]) (sc := defScope (top 28)) (by decide +kernel)) (by decide) (fun _ _ _ _ _ => (g_nm nd rfl (by first | exact .inl rfl | exact .inr rfl) (by first | exact .inl rfl | exact .inr rfl))) (fun _ _ _ _ _ => .nil) (fun _ _ _ _ _ => (x_lst (m := true) x_nil)))
  (ss_cons (s_for hp rfl (i_e O (x_var (i := 1) rfl (by first | exact .inl rfl | exact .inr (.inl rfl) | exact .inr (.inr rfl)))) (g_nm nd rfl (by first | exact .inl rfl | exact .inr rfl) (by first | exact .inl rfl | exact .inr rfl)) (ss_cons (s_if (b_cmp O (o := .eq) (x_kgetE F.d_PARTS F.v_PARTS (c_cls2 (by rfl) F.g_PARTS) (x_idx O (x_var (i := 3) rfl (by first | exact .inl rfl | exact .inr (.inl rfl) | exact .inr (.inr rfl))) x_int)) x_int (nomark _)) (ss_cons (s_ex (x_bm O (f := .append) (by constructor <;> (intro h; cases h)) PySem.F.slot_list_append PySem.F.type_list_append bm_append (x_idx O (x_var (i := 2) rfl (by first | exact .inl rfl | exact .inr (.inl rfl) | exact .inr (.inr rfl))) (x_idx O (x_var (i := 3) rfl (by first | exact .inl rfl | exact .inr (.inl rfl) | exact .inr (.inr rfl))) x_int)) (x_cons (x_idx O (x_var (i := 3) rfl (by first | exact .inl rfl | exact .inr (.inl rfl) | exact .inr (.inr rfl))) x_int) x_nil)))
  ss_nil) ss_nil)
  ss_nil))
  (ss_cons (s_retF (x_var (i := 2) rfl (by first | exact .inl rfl | exact .inr (.inl rfl) | exact .inr (.inr rfl))))
  ss_nil)))
theorem sc_Pairsx_initx : FnScope ["self", "kinds", "rules", "back", "rule"] ["self", "kinds", "rules"] (defScope (mth 29 0)) := ⟨rfl, rfl, rfl, by decide +kernel, rfl, by decide +kernel, by decide +kernel⟩
theorem walk_Pairsx_initx (F : Fx prog w K mg base k) {f : Addr} {cdv : Value} {A : Around} {outer : List PySem.Env} {s : Shared} {H : Hp} {E : XK} {n0 : Nat} (hr : Room (2 * k + 2) (A.deeper (envOfC "Pairs.__init__" (defScope (mth 29 0)) s.heap.objs.size f cdv))) :
    XSs (Dw K) (cxOf (L2.CX prog w) prog w K mg base ["self", "kinds", "rules", "back", "rule"] "Pairs.__init__" (defScope (mth 29 0)) f cdv A outer s H E) (wB E) ⟨runFn prg k, n0, prg.sub, prg.xi⟩ (defBody (mth 29 0)) ir_Pairsx_initx := by
  have nd : (["self", "kinds", "rules", "back", "rule"] : List Str).Nodup := sc_Pairsx_initx.nd
  have O : Okx (Dw K) (cxOf (L2.CX prog w) prog w K mg base ["self", "kinds", "rules", "back", "rule"] "Pairs.__init__" (defScope (mth 29 0)) f cdv A outer s H E) := ⟨rfl, by have := hr.un; show (A.deeper (envOfC "Pairs.__init__" (defScope (mth 29 0)) s.heap.objs.size f cdv)).units + 190 < _; omega, F.cls⟩
  have tk : Takes (cxOf (L2.CX prog w) prog w K mg base ["self", "kinds", "rules", "back", "rule"] "Pairs.__init__" (defScope (mth 29 0)) f cdv A outer s H E) (wB E) := takes_of rfl rfl rfl rfl
  have hp : PassesOwn (model prog w) (A.deeper (envOfC "Pairs.__init__" (defScope (mth 29 0)) s.heap.objs.size f cdv)) (envOfC "Pairs.__init__" (defScope (mth 29 0)) s.heap.objs.size f cdv) (cxOf (L2.CX prog w) prog w K mg base ["self", "kinds", "rules", "back", "rule"] "Pairs.__init__" (defScope (mth 29 0)) f cdv A outer s H E).xe := passes_of rfl
  exact (ss_cons (s_if (b_not (b_val O (x_call (by exact FnE.mk (F.e_is_integer_in hr)) tk (by rfl) F.g_is_integer_in F.k_is_integer_in (x_cons (x_var (i := 1) rfl (by first | exact .inl rfl | exact .inr (.inl rfl) | exact .inr (.inr rfl))) (x_cons x_int (x_cons (x_gi (by rfl) F.c_MOST_KINDS) x_nil)))))) (ss_cons (s_raise (c := 1) rfl tk (by exact F.x_InvalidNumber rfl rfl rfl rfl rfl hr) (x_var (i := 1) rfl (by first | exact .inl rfl | exact .inr (.inl rfl) | exact .inr (.inr rfl))) (by rfl) F.g_InvalidNumber)
  ss_nil) ss_nil)
  (ss_cons (s_if (PW.pt (w_or (b_not (b_val O (x_isi O (y := .tuple) trivial (by rfl) F.n_isinstance (x_var (i := 2) rfl (by first | exact .inl rfl | exact .inr (.inl rfl) | exact .inr (.inr rfl))) (c_ty (by rfl) F.n_tuple (by rfl))))) (w_or1 (b_not (b_chain O (o := .le) (o' := .le) x_int (x_bf (bf_len O) (by rfl) F.n_len (by rfl) (x_cons (x_var (i := 2) rfl (by first | exact .inl rfl | exact .inr (.inl rfl) | exact .inr (.inr rfl))) x_nil)) (x_gi (by rfl) F.c_MOST_RULES) (by with_unfolding_all rfl)))))) (ss_cons (s_raise (c := 2) rfl tk (by exact F.x_InvalidRules rfl rfl rfl rfl rfl hr) (x_var (i := 2) rfl (by first | exact .inl rfl | exact .inr (.inl rfl) | exact .inr (.inr rfl))) (by rfl) F.g_InvalidRules)
  ss_nil) ss_nil)
  (ss_cons (s_if (b_not (b_val O (x_bf (bf_all O (by rfl)) (by rfl) F.n_all (by rfl) (x_cons (x_comp (own := [("rule", 4)]) rfl nd  (i_e O (x_var (i := 2) rfl (by first | exact .inl rfl | exact .inr (.inl rfl) | exact .inr (.inr rfl)))) (blkOk_by (N := ["self", "kinds", "rules", "back", "rule"]) (sc := defScope (mth 29 0)) (by decide +kernel)) (by decide) (fun _ _ _ _ _ => (g_nm nd rfl (by first | exact .inl rfl | exact .inr rfl) (by first | exact .inl rfl | exact .inr rfl))) (fun _ _ _ _ _ => .nil) (fun _ _ _ _ _ => (x_call (by exact FnE.mk (F.e_is_rule hr)) takes_none5 (by rfl) F.g_is_rule F.k_is_rule (x_cons (x_var (i := 4) rfl (by first | exact .inl rfl | exact .inr (.inl rfl) | exact .inr (.inr rfl))) (x_cons (x_var (i := 1) rfl (by first | exact .inl rfl | exact .inr (.inl rfl) | exact .inr (.inr rfl))) x_nil))))) x_nil)))) (ss_cons (s_raise (c := 2) rfl tk (by exact F.x_InvalidRules rfl rfl rfl rfl rfl hr) (x_var (i := 2) rfl (by first | exact .inl rfl | exact .inr (.inl rfl) | exact .inr (.inr rfl))) (by rfl) F.g_InvalidRules)
  ss_nil) ss_nil)
  (ss_cons (s_asg (x_call (by exact FnE.mk (F.e_least_back hr)) tk (by rfl) F.g_least_back F.k_least_back (x_cons (x_call (by exact FnE.mk (F.e_single_steps hr)) tk (by rfl) F.g_single_steps F.k_single_steps (x_cons (x_var (i := 1) rfl (by first | exact .inl rfl | exact .inr (.inl rfl) | exact .inr (.inr rfl))) (x_cons (x_var (i := 2) rfl (by first | exact .inl rfl | exact .inr (.inl rfl) | exact .inr (.inr rfl))) x_nil))) x_nil)) (g_nm nd rfl (by first | exact .inl rfl | exact .inr rfl) (by first | exact .inl rfl | exact .inr rfl)))
  (ss_cons (s_if (b_cmp O (o := .isnot) (x_var (i := 3) rfl (by first | exact .inl rfl | exact .inr (.inl rfl) | exact .inr (.inr rfl))) x_non (nomark _)) (ss_cons (s_raise (c := 3) rfl tk (by exact F.x_Endless rfl rfl rfl rfl rfl hr) (x_var (i := 3) rfl (by first | exact .inl rfl | exact .inr (.inl rfl) | exact .inr (.inr rfl))) (by rfl) F.g_Endless)
  ss_nil) ss_nil)
  (ss_cons (s_setf O (c := 0) (f := 0) F.inj F.a_Pairs_kinds (x_var (i := 0) rfl (by first | exact .inl rfl | exact .inr (.inl rfl) | exact .inr (.inr rfl))) (x_var (i := 1) rfl (by first | exact .inl rfl | exact .inr (.inl rfl) | exact .inr (.inr rfl))))
  (ss_cons (s_setf O (c := 0) (f := 1) F.inj F.a_Pairs_rules (x_var (i := 0) rfl (by first | exact .inl rfl | exact .inr (.inl rfl) | exact .inr (.inr rfl))) (x_var (i := 2) rfl (by first | exact .inl rfl | exact .inr (.inl rfl) | exact .inr (.inr rfl))))
  ss_nil)))))))
theorem sc_Pairsx_eqx : FnScope ["self", "other"] ["self", "other"] (defScope (mth 29 1)) := ⟨rfl, rfl, rfl, by decide +kernel, rfl, by decide +kernel, by decide +kernel⟩
theorem walk_Pairsx_eqx (F : Fx prog w K mg base k) {f : Addr} {cdv : Value} {A : Around} {outer : List PySem.Env} {s : Shared} {H : Hp} {E : XK} {n0 : Nat} (hr : Room (2 * k + 2) (A.deeper (envOfC "Pairs.__eq__" (defScope (mth 29 1)) s.heap.objs.size f cdv))) :
    XSs (Dw K) (cxOf (L2.CX prog w) prog w K mg base ["self", "other"] "Pairs.__eq__" (defScope (mth 29 1)) f cdv A outer s H E) (wB E) ⟨runFn prg k, n0, prg.sub, prg.xi⟩ (defBody (mth 29 1)) ir_Pairsx_eqx := by
  have nd : (["self", "other"] : List Str).Nodup := sc_Pairsx_eqx.nd
  have O : Okx (Dw K) (cxOf (L2.CX prog w) prog w K mg base ["self", "other"] "Pairs.__eq__" (defScope (mth 29 1)) f cdv A outer s H E) := ⟨rfl, by have := hr.un; show (A.deeper (envOfC "Pairs.__eq__" (defScope (mth 29 1)) s.heap.objs.size f cdv)).units + 190 < _; omega, F.cls⟩
  have tk : Takes (cxOf (L2.CX prog w) prog w K mg base ["self", "other"] "Pairs.__eq__" (defScope (mth 29 1)) f cdv A outer s H E) (wB E) := takes_of rfl rfl rfl rfl
  have hp : PassesOwn (model prog w) (A.deeper (envOfC "Pairs.__eq__" (defScope (mth 29 1)) s.heap.objs.size f cdv)) (envOfC "Pairs.__eq__" (defScope (mth 29 1)) s.heap.objs.size f cdv) (cxOf (L2.CX prog w) prog w K mg base ["self", "other"] "Pairs.__eq__" (defScope (mth 29 1)) f cdv A outer s H E).xe := passes_of rfl
  exact (ss_cons (s_ret (x_and O (x_isi O (y := (.cls 0)) (by show 0 < 1; decide) (by rfl) F.n_isinstance (x_var (i := 1) rfl (by first | exact .inl rfl | exact .inr (.inl rfl) | exact .inr (.inr rfl))) (c_cls (by rfl) F.g_Pairs)) (x_and O (x_cmp O (o := .eq) (x_fld O (c := 0) (f := 0) F.inj F.a_Pairs_kinds (x_var (i := 0) rfl (by first | exact .inl rfl | exact .inr (.inl rfl) | exact .inr (.inr rfl)))) (x_fld O (c := 0) (f := 0) F.inj F.a_Pairs_kinds (x_var (i := 1) rfl (by first | exact .inl rfl | exact .inr (.inl rfl) | exact .inr (.inr rfl)))) (nomark _)) (x_and1 (x_cmp O (o := .eq) (x_fld O (c := 0) (f := 1) F.inj F.a_Pairs_rules (x_var (i := 0) rfl (by first | exact .inl rfl | exact .inr (.inl rfl) | exact .inr (.inr rfl)))) (x_fld O (c := 0) (f := 1) F.inj F.a_Pairs_rules (x_var (i := 1) rfl (by first | exact .inl rfl | exact .inr (.inl rfl) | exact .inr (.inr rfl)))) (nomark _))))))
  ss_nil)
theorem sc__law_box : FnScope ["script", "k", "cell", "great"] ["script", "k"] (defScope (top 31)) := ⟨rfl, rfl, rfl, by decide +kernel, rfl, by decide +kernel, by decide +kernel⟩
theorem walk__law_box (F : Fx prog w K mg base k) {f : Addr} {cdv : Value} {A : Around} {outer : List PySem.Env} {s : Shared} {H : Hp} {E : XK} {n0 : Nat} (hr : Room (2 * k + 2) (A.deeper (envOfC "_law_box" (defScope (top 31)) s.heap.objs.size f cdv))) :
    XSs (Dw K) (cxOf (L2.CX prog w) prog w K mg base ["script", "k", "cell", "great"] "_law_box" (defScope (top 31)) f cdv A outer s H E) (wB E) ⟨runFn prg k, n0, prg.sub, prg.xi⟩ (defBody (top 31)) ir__law_box := by
  have nd : (["script", "k", "cell", "great"] : List Str).Nodup := sc__law_box.nd
  have O : Okx (Dw K) (cxOf (L2.CX prog w) prog w K mg base ["script", "k", "cell", "great"] "_law_box" (defScope (top 31)) f cdv A outer s H E) := ⟨rfl, by have := hr.un; show (A.deeper (envOfC "_law_box" (defScope (top 31)) s.heap.objs.size f cdv)).units + 190 < _; omega, F.cls⟩
  have tk : Takes (cxOf (L2.CX prog w) prog w K mg base ["script", "k", "cell", "great"] "_law_box" (defScope (top 31)) f cdv A outer s H E) (wB E) := takes_of rfl rfl rfl rfl
  have hp : PassesOwn (model prog w) (A.deeper (envOfC "_law_box" (defScope (top 31)) s.heap.objs.size f cdv)) (envOfC "_law_box" (defScope (top 31)) s.heap.objs.size f cdv) (cxOf (L2.CX prog w) prog w K mg base ["script", "k", "cell", "great"] "_law_box" (defScope (top 31)) f cdv A outer s H E).xe := passes_of rfl
  exact (ss_cons (s_asg (x_bin O (o := .add) (x_bin O (o := .mul) x_int (x_var (i := 1) rfl (by first | exact .inl rfl | exact .inr (.inl rfl) | exact .inr (.inr rfl)))) x_int) (g_nm nd rfl (by first | exact .inl rfl | exact .inr rfl) (by first | exact .inl rfl | exact .inr rfl)))
  (ss_cons (s_if (b_cmp O (o := .lt) (x_var (i := 1) rfl (by first | exact .inl rfl | exact .inr (.inl rfl) | exact .inr (.inr rfl))) (x_bf (bf_len O) (by rfl) F.n_len (by rfl) (x_cons (x_var (i := 0) rfl (by first | exact .inl rfl | exact .inr (.inl rfl) | exact .inr (.inr rfl))) x_nil)) (nomark _)) (ss_cons (s_asg (x_bf bf_abs (by rfl) F.n_abs (by rfl) (x_cons (x_idx O (x_var (i := 0) rfl (by first | exact .inl rfl | exact .inr (.inl rfl) | exact .inr (.inr rfl))) (x_var (i := 1) rfl (by first | exact .inl rfl | exact .inr (.inl rfl) | exact .inr (.inr rfl)))) x_nil)) (g_nm nd rfl (by first | exact .inl rfl | exact .inr rfl) (by first | exact .inl rfl | exact .inr rfl)))
  ss_nil) (ss_cons (s_if (b_cmp O (o := .gt) (x_bf (bf_len O) (by rfl) F.n_len (by rfl) (x_cons (x_var (i := 0) rfl (by first | exact .inl rfl | exact .inr (.inl rfl) | exact .inr (.inr rfl))) x_nil)) x_int (nomark _)) (ss_cons (s_asg (x_bin O (o := .add) (x_bin O (o := .mul) (x_bin O (o := .mod) (x_bfT bf_int (by rfl) F.n_int (by rfl) (x_cons (x_bf bf_abs (by rfl) F.n_abs (by rfl) (x_cons (x_idx O (x_var (i := 0) rfl (by first | exact .inl rfl | exact .inr (.inl rfl) | exact .inr (.inr rfl))) (x_bin O (o := .mod) (x_bfT bf_int (by rfl) F.n_int (by rfl) (x_cons (x_var (i := 1) rfl (by first | exact .inl rfl | exact .inr (.inl rfl) | exact .inr (.inr rfl))) x_nil)) (x_bf (bf_len O) (by rfl) F.n_len (by rfl) (x_cons (x_var (i := 0) rfl (by first | exact .inl rfl | exact .inr (.inl rfl) | exact .inr (.inr rfl))) x_nil)))) x_nil)) x_nil)) x_int) x_int) (x_bin O (o := .mul) x_int (x_var (i := 1) rfl (by first | exact .inl rfl | exact .inr (.inl rfl) | exact .inr (.inr rfl))))) (g_nm nd rfl (by first | exact .inl rfl | exact .inr rfl) (by first | exact .inl rfl | exact .inr rfl)))
  ss_nil) ss_nil)
  ss_nil))
  (ss_cons (s_asg (x_idx O (x_lst (m := false) (x_cons x_int (x_cons (x_var (i := 2) rfl (by first | exact .inl rfl | exact .inr (.inl rfl) | exact .inr (.inr rfl))) x_nil))) (x_bfT bf_int (by rfl) F.n_int (by rfl) (x_cons (x_cmp O (o := .ge) (x_var (i := 2) rfl (by first | exact .inl rfl | exact .inr (.inl rfl) | exact .inr (.inr rfl))) (x_bin O (o := .pow) x_int x_int) (nomark _)) x_nil))) (g_nm nd rfl (by first | exact .inl rfl | exact .inr rfl) (by first | exact .inl rfl | exact .inr rfl)))
  (ss_cons (s_ret (x_lst (m := true) (x_cons (x_var (i := 3) rfl (by first | exact .inl rfl | exact .inr (.inl rfl) | exact .inr (.inr rfl))) (x_cons (x_bin O (o := .add) (x_bin O (o := .mod) (x_bfT bf_int (by rfl) F.n_int (by rfl) (x_cons (x_bin O (o := .add) (x_bin O (o := .mul) (x_bin O (o := .mod) (x_bfT bf_int (by rfl) F.n_int (by rfl) (x_cons (x_var (i := 2) rfl (by first | exact .inl rfl | exact .inr (.inl rfl) | exact .inr (.inr rfl))) x_nil)) x_int) x_int) (x_bin O (o := .mul) x_int (x_var (i := 1) rfl (by first | exact .inl rfl | exact .inr (.inl rfl) | exact .inr (.inr rfl))))) x_nil)) x_int) x_int) x_nil))))
  ss_nil))))
theorem sc__law_take : FnScope ["box", "many", "got"] ["box", "many"] (defScope (top 32)) := ⟨rfl, rfl, rfl, by decide +kernel, rfl, by decide +kernel, by decide +kernel⟩
theorem walk__law_take (F : Fx prog w K mg base k) {f : Addr} {cdv : Value} {A : Around} {outer : List PySem.Env} {s : Shared} {H : Hp} {E : XK} {n0 : Nat} (hr : Room (2 * k + 2) (A.deeper (envOfC "_law_take" (defScope (top 32)) s.heap.objs.size f cdv))) :
    XSs (Dw K) (cxOf (L2.CX prog w) prog w K mg base ["box", "many", "got"] "_law_take" (defScope (top 32)) f cdv A outer s H E) (wB E) ⟨runFn prg k, n0, prg.sub, prg.xi⟩ (defBody (top 32)) ir__law_take := by
  have nd : (["box", "many", "got"] : List Str).Nodup := sc__law_take.nd
  have O : Okx (Dw K) (cxOf (L2.CX prog w) prog w K mg base ["box", "many", "got"] "_law_take" (defScope (top 32)) f cdv A outer s H E) := ⟨rfl, by have := hr.un; show (A.deeper (envOfC "_law_take" (defScope (top 32)) s.heap.objs.size f cdv)).units + 190 < _; omega, F.cls⟩
  have tk : Takes (cxOf (L2.CX prog w) prog w K mg base ["box", "many", "got"] "_law_take" (defScope (top 32)) f cdv A outer s H E) (wB E) := takes_of rfl rfl rfl rfl
  have hp : PassesOwn (model prog w) (A.deeper (envOfC "_law_take" (defScope (top 32)) s.heap.objs.size f cdv)) (envOfC "_law_take" (defScope (top 32)) s.heap.objs.size f cdv) (cxOf (L2.CX prog w) prog w K mg base ["box", "many", "got"] "_law_take" (defScope (top 32)) f cdv A outer s H E).xe := passes_of rfl
  exact (ss_cons (s_if (b_cmp O (o := .gt) (x_idx O (x_var (i := 0) rfl (by first | exact .inl rfl | exact .inr (.inl rfl) | exact .inr (.inr rfl))) x_int) x_int (nomark _)) (ss_cons (s_asg (x_bin O (o := .mod) (x_bfT bf_int (by rfl) F.n_int (by rfl) (x_cons (x_idx O (x_var (i := 0) rfl (by first | exact .inl rfl | exact .inr (.inl rfl) | exact .inr (.inr rfl))) x_int) x_nil)) (x_var (i := 1) rfl (by first | exact .inl rfl | exact .inr (.inl rfl) | exact .inr (.inr rfl)))) (g_nm nd rfl (by first | exact .inl rfl | exact .inr rfl) (by first | exact .inl rfl | exact .inr rfl)))
  (ss_cons (s_seti O (x_var (i := 0) rfl (by first | exact .inl rfl | exact .inr (.inl rfl) | exact .inr (.inr rfl))) x_int (x_bin O (o := .fdiv) (x_idx O (x_var (i := 0) rfl (by first | exact .inl rfl | exact .inr (.inl rfl) | exact .inr (.inr rfl))) x_int) (x_var (i := 1) rfl (by first | exact .inl rfl | exact .inr (.inl rfl) | exact .inr (.inr rfl)))))
  (ss_cons (s_ret (x_var (i := 2) rfl (by first | exact .inl rfl | exact .inr (.inl rfl) | exact .inr (.inr rfl))))
  ss_nil))) ss_nil)
  (ss_cons (s_seti O (x_var (i := 0) rfl (by first | exact .inl rfl | exact .inr (.inl rfl) | exact .inr (.inr rfl))) x_int (x_bin O (o := .mod) (x_bfT bf_int (by rfl) F.n_int (by rfl) (x_cons (x_bin O (o := .add) (x_bin O (o := .mul) (x_idx O (x_var (i := 0) rfl (by first | exact .inl rfl | exact .inr (.inl rfl) | exact .inr (.inr rfl))) x_int) x_int) x_int) x_nil)) x_int))
  (ss_cons (s_ret (x_bin O (o := .mod) (x_bfT bf_int (by rfl) F.n_int (by rfl) (x_cons (x_bin O (o := .fdiv) (x_idx O (x_var (i := 0) rfl (by first | exact .inl rfl | exact .inr (.inl rfl) | exact .inr (.inr rfl))) x_int) x_int) x_nil)) (x_var (i := 1) rfl (by first | exact .inl rfl | exact .inr (.inl rfl) | exact .inr (.inr rfl)))))
  ss_nil)))
theorem sc__law_pick : FnScope ["box", "some"] ["box", "some"] (defScope (top 33)) := ⟨rfl, rfl, rfl, by decide +kernel, rfl, by decide +kernel, by decide +kernel⟩
theorem walk__law_pick (F : Fx prog w K mg base k) {f : Addr} {cdv : Value} {A : Around} {outer : List PySem.Env} {s : Shared} {H : Hp} {E : XK} {n0 : Nat} (hr : Room (2 * k + 2) (A.deeper (envOfC "_law_pick" (defScope (top 33)) s.heap.objs.size f cdv))) :
    XSs (Dw K) (cxOf (L2.CX prog w) prog w K mg base ["box", "some"] "_law_pick" (defScope (top 33)) f cdv A outer s H E) (wB E) ⟨runFn prg k, n0, prg.sub, prg.xi⟩ (defBody (top 33)) ir__law_pick := by
  have nd : (["box", "some"] : List Str).Nodup := sc__law_pick.nd
  have O : Okx (Dw K) (cxOf (L2.CX prog w) prog w K mg base ["box", "some"] "_law_pick" (defScope (top 33)) f cdv A outer s H E) := ⟨rfl, by have := hr.un; show (A.deeper (envOfC "_law_pick" (defScope (top 33)) s.heap.objs.size f cdv)).units + 190 < _; omega, F.cls⟩
  have tk : Takes (cxOf (L2.CX prog w) prog w K mg base ["box", "some"] "_law_pick" (defScope (top 33)) f cdv A outer s H E) (wB E) := takes_of rfl rfl rfl rfl
  have hp : PassesOwn (model prog w) (A.deeper (envOfC "_law_pick" (defScope (top 33)) s.heap.objs.size f cdv)) (envOfC "_law_pick" (defScope (top 33)) s.heap.objs.size f cdv) (cxOf (L2.CX prog w) prog w K mg base ["box", "some"] "_law_pick" (defScope (top 33)) f cdv A outer s H E).xe := passes_of rfl
  exact (ss_cons (s_ret (x_idx O (x_var (i := 1) rfl (by first | exact .inl rfl | exact .inr (.inl rfl) | exact .inr (.inr rfl))) (x_call (by exact FnE.mk (F.e__law_take hr)) tk (by rfl) F.g__law_take F.k__law_take (x_cons (x_var (i := 0) rfl (by first | exact .inl rfl | exact .inr (.inl rfl) | exact .inr (.inr rfl))) (x_cons (x_bf (bf_len O) (by rfl) F.n_len (by rfl) (x_cons (x_var (i := 1) rfl (by first | exact .inl rfl | exact .inr (.inl rfl) | exact .inr (.inr rfl))) x_nil)) x_nil)))))
  ss_nil)
theorem sc_law : FnScope ["script", "box", "some", "v", "errors", "one", "back", "what", "word", "k", "e", "j"] ["script"] (defScope (top 36)) := ⟨rfl, rfl, rfl, by decide +kernel, rfl, by decide +kernel, by decide +kernel⟩
theorem walk_law (F : Fx prog w K mg base k) {f : Addr} {cdv : Value} {A : Around} {outer : List PySem.Env} {s : Shared} {H : Hp} {E : XK} {n0 : Nat} (hr : Room (2 * k + 2) (A.deeper (envOfC "law" (defScope (top 36)) s.heap.objs.size f cdv))) :
    XSs (Dw K) (cxOf (L2.CX prog w) prog w K mg base ["script", "box", "some", "v", "errors", "one", "back", "what", "word", "k", "e", "j"] "law" (defScope (top 36)) f cdv A outer s H E) (wB E) ⟨runFn prg k, n0, prg.sub, prg.xi⟩ (defBody (top 36)) ir_law := by
  have nd : (["script", "box", "some", "v", "errors", "one", "back", "what", "word", "k", "e", "j"] : List Str).Nodup := sc_law.nd
  have O : Okx (Dw K) (cxOf (L2.CX prog w) prog w K mg base ["script", "box", "some", "v", "errors", "one", "back", "what", "word", "k", "e", "j"] "law" (defScope (top 36)) f cdv A outer s H E) := ⟨rfl, by have := hr.un; show (A.deeper (envOfC "law" (defScope (top 36)) s.heap.objs.size f cdv)).units + 190 < _; omega, F.cls⟩
  have tk : Takes (cxOf (L2.CX prog w) prog w K mg base ["script", "box", "some", "v", "errors", "one", "back", "what", "word", "k", "e", "j"] "law" (defScope (top 36)) f cdv A outer s H E) (wB E) := takes_of rfl rfl rfl rfl
  have hp : PassesOwn (model prog w) (A.deeper (envOfC "law" (defScope (top 36)) s.heap.objs.size f cdv)) (envOfC "law" (defScope (top 36)) s.heap.objs.size f cdv) (cxOf (L2.CX prog w) prog w K mg base ["script", "box", "some", "v", "errors", "one", "back", "what", "word", "k", "e", "j"] "law" (defScope (top 36)) f cdv A outer s H E).xe := passes_of rfl
  exact (ss_cons (s_asg (x_call (by exact FnE.mk (F.e__law_box hr)) tk (by rfl) F.g__law_box F.k__law_box (x_cons (x_var (i := 0) rfl (by first | exact .inl rfl | exact .inr (.inl rfl) | exact .inr (.inr rfl))) (x_cons x_int x_nil))) (g_nm nd rfl (by first | exact .inl rfl | exact .inr rfl) (by first | exact .inl rfl | exact .inr rfl)))
  (ss_cons (s_asg (x_lst (m := false) (x_cons (x_bin O (o := .sub) (x_call (by exact FnE.mk (F.e__law_take hr)) tk (by rfl) F.g__law_take F.k__law_take (x_cons (x_var (i := 1) rfl (by first | exact .inl rfl | exact .inr (.inl rfl) | exact .inr (.inr rfl))) (x_cons (x_bin O (o := .pow) x_int x_int) x_nil))) x_int) (x_cons (x_bin O (o := .add) x_str (x_bfT bf_str (by rfl) F.n_str (by rfl) (x_cons (x_call (by exact FnE.mk (F.e__law_take hr)) tk (by rfl) F.g__law_take F.k__law_take (x_cons (x_var (i := 1) rfl (by first | exact .inl rfl | exact .inr (.inl rfl) | exact .inr (.inr rfl))) (x_cons x_int x_nil))) x_nil))) (x_cons (x_tup (x_cons x_int (x_cons (x_call (by exact FnE.mk (F.e__law_take hr)) tk (by rfl) F.g__law_take F.k__law_take (x_cons (x_var (i := 1) rfl (by first | exact .inl rfl | exact .inr (.inl rfl) | exact .inr (.inr rfl))) (x_cons x_int x_nil))) x_nil))) x_nil)))) (g_nm nd rfl (by first | exact .inl rfl | exact .inr rfl) (by first | exact .inl rfl | exact .inr rfl)))
  (ss_cons (s_asg (x_bin O (o := .add) (x_var (i := 2) rfl (by first | exact .inl rfl | exact .inr (.inl rfl) | exact .inr (.inr rfl))) (x_lst (m := false) (x_cons (x_lst (m := false) (x_cons (x_call (by exact FnE.mk (F.e__law_take hr)) tk (by rfl) F.g__law_take F.k__law_take (x_cons (x_var (i := 1) rfl (by first | exact .inl rfl | exact .inr (.inl rfl) | exact .inr (.inr rfl))) (x_cons x_int x_nil))) x_nil)) (x_cons x_non (x_cons x_bl (x_cons (x_tup x_nil) x_nil)))))) (g_nm nd rfl (by first | exact .inl rfl | exact .inr rfl) (by first | exact .inl rfl | exact .inr rfl)))
  (ss_cons (s_asg (x_call (by exact FnE.mk (F.e__law_pick hr)) tk (by rfl) F.g__law_pick F.k__law_pick (x_cons (x_var (i := 1) rfl (by first | exact .inl rfl | exact .inr (.inl rfl) | exact .inr (.inr rfl))) (x_cons (x_var (i := 2) rfl (by first | exact .inl rfl | exact .inr (.inl rfl) | exact .inr (.inr rfl))) x_nil))) (g_nm nd rfl (by first | exact .inl rfl | exact .inr rfl) (by first | exact .inl rfl | exact .inr rfl)))
  (ss_cons (s_asg (x_call (by exact FnE.mk (F.e__law_ones hr)) tk (by rfl) F.g__law_ones F.k__law_ones (x_cons (x_var (i := 3) rfl (by first | exact .inl rfl | exact .inr (.inl rfl) | exact .inr (.inr rfl))) x_nil)) (g_nm nd rfl (by first | exact .inl rfl | exact .inr rfl) (by first | exact .inl rfl | exact .inr rfl)))
  (ss_cons (s_for hp rfl (i_e O (x_var (i := 4) rfl (by first | exact .inl rfl | exact .inr (.inl rfl) | exact .inr (.inr rfl)))) (g_nm nd rfl (by first | exact .inl rfl | exact .inr rfl) (by first | exact .inl rfl | exact .inr rfl)) (ss_cons (s_if (b_cmp O (o := .ne) (x_xfl F.xf_value (x_var (i := 5) rfl (by first | exact .inl rfl | exact .inr (.inl rfl) | exact .inr (.inr rfl)))) (x_var (i := 3) rfl (by first | exact .inl rfl | exact .inr (.inl rfl) | exact .inr (.inr rfl))) (nomark _)) (ss_cons (s_ret x_bl)
  ss_nil) ss_nil)
  ss_nil))
  (ss_cons (s_par3 (i := 6) (j := 7) (l := 8) rfl nd rfl rfl rfl (by decide) (by decide) (by decide) rfl rfl rfl (x_cons (x_xmk (c := 3) tk (by exact F.x_Endless rfl rfl rfl rfl rfl hr) (x_var (i := 3) rfl (by first | exact .inl rfl | exact .inr (.inl rfl) | exact .inr (.inr rfl))) (by rfl) F.g_Endless) (x_cons (x_xmk (c := 12) tk (by exact F.x_Undefined rfl rfl rfl rfl rfl hr) (x_var (i := 3) rfl (by first | exact .inl rfl | exact .inr (.inl rfl) | exact .inr (.inr rfl))) (by rfl) F.g_Undefined) (x_cons (x_xmk (c := 13) tk (by exact F.x_NothingToUndo rfl rfl rfl rfl rfl hr) (x_var (i := 3) rfl (by first | exact .inl rfl | exact .inr (.inl rfl) | exact .inr (.inr rfl))) (by rfl) F.g_NothingToUndo) x_nil))) (by with_unfolding_all rfl))
  (ss_cons (s_if (PW.pt (w_or (b_cmp O (o := .ne) (x_xfl F.xf_kind (x_var (i := 6) rfl (by first | exact .inl rfl | exact .inr (.inl rfl) | exact .inr (.inr rfl)))) (x_var (i := 3) rfl (by first | exact .inl rfl | exact .inr (.inl rfl) | exact .inr (.inr rfl))) (nomark _)) (w_or (b_cmp O (o := .ne) (x_xfl F.xf_what (x_var (i := 7) rfl (by first | exact .inl rfl | exact .inr (.inl rfl) | exact .inr (.inr rfl)))) (x_var (i := 3) rfl (by first | exact .inl rfl | exact .inr (.inl rfl) | exact .inr (.inr rfl))) (nomark _)) (w_or1 (b_cmp O (o := .ne) (x_xfl F.xf_word (x_var (i := 8) rfl (by first | exact .inl rfl | exact .inr (.inl rfl) | exact .inr (.inr rfl)))) (x_var (i := 3) rfl (by first | exact .inl rfl | exact .inr (.inl rfl) | exact .inr (.inr rfl))) (nomark _)))))) (ss_cons (s_ret x_bl)
  ss_nil) ss_nil)
  (ss_cons (s_asg (x_bin O (o := .add) (x_var (i := 4) rfl (by first | exact .inl rfl | exact .inr (.inl rfl) | exact .inr (.inr rfl))) (x_lst (m := false) (x_cons (x_var (i := 6) rfl (by first | exact .inl rfl | exact .inr (.inl rfl) | exact .inr (.inr rfl))) (x_cons (x_var (i := 7) rfl (by first | exact .inl rfl | exact .inr (.inl rfl) | exact .inr (.inr rfl))) (x_cons (x_var (i := 8) rfl (by first | exact .inl rfl | exact .inr (.inl rfl) | exact .inr (.inr rfl))) x_nil))))) (g_nm nd rfl (by first | exact .inl rfl | exact .inr rfl) (by first | exact .inl rfl | exact .inr rfl)))
  (ss_cons (s_for hp rfl (i_rng (by rfl) F.n_range (x_bf (bf_len O) (by rfl) F.n_len (by rfl) (x_cons (x_var (i := 4) rfl (by first | exact .inl rfl | exact .inr (.inl rfl) | exact .inr (.inr rfl))) x_nil))) (g_nm nd rfl (by first | exact .inl rfl | exact .inr rfl) (by first | exact .inl rfl | exact .inr rfl)) (ss_cons (s_if (b_cmp O (o := .ne) (x_call (by exact FnE.mk (F.e__law_kinds hr)) tk (by rfl) F.g__law_kinds F.k__law_kinds (x_cons (x_idx O (x_var (i := 4) rfl (by first | exact .inl rfl | exact .inr (.inl rfl) | exact .inr (.inr rfl))) (x_var (i := 9) rfl (by first | exact .inl rfl | exact .inr (.inl rfl) | exact .inr (.inr rfl)))) x_nil)) (x_comp (own := [("j", 11)]) rfl nd  (i_rng (by rfl) F.n_range (x_bin O (o := .add) (x_bf (bf_len O) (by rfl) F.n_len (by rfl) (x_cons (x_var (i := 4) rfl (by first | exact .inl rfl | exact .inr (.inl rfl) | exact .inr (.inr rfl))) x_nil)) x_int)) (blkOk_by (N := ["script", "box", "some", "v", "errors", "one", "back", "what", "word", "k", "e", "j"]) (sc := defScope (top 36)) (by decide +kernel)) (by decide) (fun _ _ _ _ _ => (g_nm nd rfl (by first | exact .inl rfl | exact .inr rfl) (by first | exact .inl rfl | exact .inr rfl))) (fun _ _ _ _ _ => .nil) (fun _ _ _ _ _ => (x_or (by exact O.of rfl rfl) (x_cmp (by exact O.of rfl rfl) (o := .eq) (x_var (i := 11) rfl (by first | exact .inl rfl | exact .inr (.inl rfl) | exact .inr (.inr rfl))) (x_var (i := 9) rfl (by first | exact .inl rfl | exact .inr (.inl rfl) | exact .inr (.inr rfl))) (nomark _)) (x_and1 (x_cmp (by exact O.of rfl rfl) (o := .ge) (x_var (i := 11) rfl (by first | exact .inl rfl | exact .inr (.inl rfl) | exact .inr (.inr rfl))) (x_bf (bf_len (by exact O.of rfl rfl)) (by rfl) F.n_len (by rfl) (x_cons (x_var (i := 4) rfl (by first | exact .inl rfl | exact .inr (.inl rfl) | exact .inr (.inr rfl))) x_nil)) (nomark _)))))) (nomark _)) (ss_cons (s_ret x_bl)
  ss_nil) ss_nil)
  ss_nil))
  (ss_cons (s_try rfl rfl nd tk (fun W2 pn xe tk2 hp2 => (ss_cons (s_ex (x_mk (c := 0) (by show 0 < 1; decide) F.m_Pairs (by exact FnM.mk (F.m_Pairsx_initx hr)) tk2 (by rfl) F.g_Pairs (x_cons x_int (x_cons (x_tup x_nil) x_nil))))
  (ss_cons (s_ret x_bl)
  ss_nil))) (.cons (i := 10) rfl rfl ⟨rfl, by decide, .inl F.g_GraftError⟩ F.y_GraftError (fun a oe cls d pn hz hfl => (ss_cons (s_retF (x_xand (by exact ⟨O.K, O.u, O.cls⟩) (x_xis (cv := .ref (He.ga K "InvalidNumber")) (cu := .ref (He.ga K "InvalidNumber")) (fun _ r => r) F.ki_InvalidNumber hz hfl (by rfl) F.n_isinstance (x_var (i := 10) rfl (by first | exact .inl rfl | exact .inr (.inl rfl) | exact .inr (.inr rfl))) (c_cls2 (by rfl) F.g_InvalidNumber)) (x_and1S (x_cmpi (by exact ⟨O.K, O.u, O.cls⟩) (o := .eq) (x_fle F.xf_value hz hfl (x_var (i := 10) rfl (by first | exact .inl rfl | exact .inr (.inl rfl) | exact .inr (.inr rfl)))) (nomark _)))))
  ss_nil)) .nil))
  ss_nil)))))))))))
theorem sc__law_ones : FnScope ["v", "found"] ["v"] (defScope (top 34)) := ⟨rfl, rfl, rfl, by decide +kernel, rfl, by decide +kernel, by decide +kernel⟩
theorem walk__law_ones (F : Fx prog w K mg base k) {f : Addr} {cdv : Value} {A : Around} {outer : List PySem.Env} {s : Shared} {H : Hp} {E : XK} {n0 : Nat} (hr : Room (2 * k + 2) (A.deeper (envOfC "_law_ones" (defScope (top 34)) s.heap.objs.size f cdv))) :
    XSs (Dw K) (cxOf (L2.CX prog w) prog w K mg base ["v", "found"] "_law_ones" (defScope (top 34)) f cdv A outer s H E) (wB E) ⟨runFn prg k, n0, prg.sub, prg.xi⟩ (defBody (top 34)) ir__law_ones := by
  have nd : (["v", "found"] : List Str).Nodup := sc__law_ones.nd
  have O : Okx (Dw K) (cxOf (L2.CX prog w) prog w K mg base ["v", "found"] "_law_ones" (defScope (top 34)) f cdv A outer s H E) := ⟨rfl, by have := hr.un; show (A.deeper (envOfC "_law_ones" (defScope (top 34)) s.heap.objs.size f cdv)).units + 190 < _; omega, F.cls⟩
  have tk : Takes (cxOf (L2.CX prog w) prog w K mg base ["v", "found"] "_law_ones" (defScope (top 34)) f cdv A outer s H E) (wB E) := takes_of rfl rfl rfl rfl
  have hp : PassesOwn (model prog w) (A.deeper (envOfC "_law_ones" (defScope (top 34)) s.heap.objs.size f cdv)) (envOfC "_law_ones" (defScope (top 34)) s.heap.objs.size f cdv) (cxOf (L2.CX prog w) prog w K mg base ["v", "found"] "_law_ones" (defScope (top 34)) f cdv A outer s H E).xe := passes_of rfl
  exact (ss_cons (s_asg (x_lst (m := false) (x_cons (x_xmk (c := 1) tk (by exact F.x_InvalidNumber rfl rfl rfl rfl rfl hr) (x_var (i := 0) rfl (by first | exact .inl rfl | exact .inr (.inl rfl) | exact .inr (.inr rfl))) (by rfl) F.g_InvalidNumber) (x_cons (x_xmk (c := 2) tk (by exact F.x_InvalidRules rfl rfl rfl rfl rfl hr) (x_var (i := 0) rfl (by first | exact .inl rfl | exact .inr (.inl rfl) | exact .inr (.inr rfl))) (by rfl) F.g_InvalidRules) (x_cons (x_xmk (c := 4) tk (by exact F.x_InvalidRule rfl rfl rfl rfl rfl hr) (x_var (i := 0) rfl (by first | exact .inl rfl | exact .inr (.inl rfl) | exact .inr (.inr rfl))) (by rfl) F.g_InvalidRule) (x_cons (x_xmk (c := 5) tk (by exact F.x_InvalidTrees rfl rfl rfl rfl rfl hr) (x_var (i := 0) rfl (by first | exact .inl rfl | exact .inr (.inl rfl) | exact .inr (.inr rfl))) (by rfl) F.g_InvalidTrees) (x_cons (x_xmk (c := 6) tk (by exact F.x_InvalidText rfl rfl rfl rfl rfl hr) (x_var (i := 0) rfl (by first | exact .inl rfl | exact .inr (.inl rfl) | exact .inr (.inr rfl))) (by rfl) F.g_InvalidText) (x_cons (x_xmk (c := 7) tk (by exact F.x_InvalidReading rfl rfl rfl rfl rfl hr) (x_var (i := 0) rfl (by first | exact .inl rfl | exact .inr (.inl rfl) | exact .inr (.inr rfl))) (by rfl) F.g_InvalidReading) x_nil))))))) (g_nm nd rfl (by first | exact .inl rfl | exact .inr rfl) (by first | exact .inl rfl | exact .inr rfl)))
  (ss_cons (s_ret (x_bin O (o := .add) (x_var (i := 1) rfl (by first | exact .inl rfl | exact .inr (.inl rfl) | exact .inr (.inr rfl))) (x_lst (m := false) (x_cons (x_xmk (c := 8) tk (by exact F.x_InvalidRun rfl rfl rfl rfl rfl hr) (x_var (i := 0) rfl (by first | exact .inl rfl | exact .inr (.inl rfl) | exact .inr (.inr rfl))) (by rfl) F.g_InvalidRun) (x_cons (x_xmk (c := 9) tk (by exact F.x_InvalidPlaces rfl rfl rfl rfl rfl hr) (x_var (i := 0) rfl (by first | exact .inl rfl | exact .inr (.inl rfl) | exact .inr (.inr rfl))) (by rfl) F.g_InvalidPlaces) (x_cons (x_xmk (c := 10) tk (by exact F.x_InvalidQuestion rfl rfl rfl rfl rfl hr) (x_var (i := 0) rfl (by first | exact .inl rfl | exact .inr (.inl rfl) | exact .inr (.inr rfl))) (by rfl) F.g_InvalidQuestion) (x_cons (x_xmk (c := 11) tk (by exact F.x_InvalidClaim rfl rfl rfl rfl rfl hr) (x_var (i := 0) rfl (by first | exact .inl rfl | exact .inr (.inl rfl) | exact .inr (.inr rfl))) (by rfl) F.g_InvalidClaim) x_nil)))))))
  ss_nil))
theorem sc__law_kinds : FnScope ["e", "found"] ["e"] (defScope (top 35)) := ⟨rfl, rfl, rfl, by decide +kernel, rfl, by decide +kernel, by decide +kernel⟩
theorem walk__law_kinds (F : Fx prog w K mg base k) {f : Addr} {cdv : Value} {A : Around} {outer : List PySem.Env} {s : Shared} {H : Hp} {E : XK} {n0 : Nat} (hr : Room (2 * k + 2) (A.deeper (envOfC "_law_kinds" (defScope (top 35)) s.heap.objs.size f cdv))) :
    XSs (Dw K) (cxOf (L2.CX prog w) prog w K mg base ["e", "found"] "_law_kinds" (defScope (top 35)) f cdv A outer s H E) (wB E) ⟨runFn prg k, n0, prg.sub, prg.xi⟩ (defBody (top 35)) ir__law_kinds := by
  have nd : (["e", "found"] : List Str).Nodup := sc__law_kinds.nd
  have O : Okx (Dw K) (cxOf (L2.CX prog w) prog w K mg base ["e", "found"] "_law_kinds" (defScope (top 35)) f cdv A outer s H E) := ⟨rfl, by have := hr.un; show (A.deeper (envOfC "_law_kinds" (defScope (top 35)) s.heap.objs.size f cdv)).units + 190 < _; omega, F.cls⟩
  have tk : Takes (cxOf (L2.CX prog w) prog w K mg base ["e", "found"] "_law_kinds" (defScope (top 35)) f cdv A outer s H E) (wB E) := takes_of rfl rfl rfl rfl
  have hp : PassesOwn (model prog w) (A.deeper (envOfC "_law_kinds" (defScope (top 35)) s.heap.objs.size f cdv)) (envOfC "_law_kinds" (defScope (top 35)) s.heap.objs.size f cdv) (cxOf (L2.CX prog w) prog w K mg base ["e", "found"] "_law_kinds" (defScope (top 35)) f cdv A outer s H E).xe := passes_of rfl
  exact (ss_cons (s_asg (x_lst (m := false) (x_cons (x_xio O (cv := .ref (He.ga K "InvalidNumber")) (cu := .ref (He.ga K "InvalidNumber")) (fun _ r => r) F.ki_InvalidNumber (by rfl) F.n_isinstance (x_var (i := 0) rfl (by first | exact .inl rfl | exact .inr (.inl rfl) | exact .inr (.inr rfl))) (c_cls2 (by rfl) F.g_InvalidNumber)) (x_cons (x_xio O (cv := .ref (He.ga K "InvalidRules")) (cu := .ref (He.ga K "InvalidRules")) (fun _ r => r) F.ki_InvalidRules (by rfl) F.n_isinstance (x_var (i := 0) rfl (by first | exact .inl rfl | exact .inr (.inl rfl) | exact .inr (.inr rfl))) (c_cls2 (by rfl) F.g_InvalidRules)) (x_cons (x_xio O (cv := .ref (He.ga K "InvalidRule")) (cu := .ref (He.ga K "InvalidRule")) (fun _ r => r) F.ki_InvalidRule (by rfl) F.n_isinstance (x_var (i := 0) rfl (by first | exact .inl rfl | exact .inr (.inl rfl) | exact .inr (.inr rfl))) (c_cls2 (by rfl) F.g_InvalidRule)) (x_cons (x_xio O (cv := .ref (He.ga K "InvalidTrees")) (cu := .ref (He.ga K "InvalidTrees")) (fun _ r => r) F.ki_InvalidTrees (by rfl) F.n_isinstance (x_var (i := 0) rfl (by first | exact .inl rfl | exact .inr (.inl rfl) | exact .inr (.inr rfl))) (c_cls2 (by rfl) F.g_InvalidTrees)) x_nil))))) (g_nm nd rfl (by first | exact .inl rfl | exact .inr rfl) (by first | exact .inl rfl | exact .inr rfl)))
  (ss_cons (s_asg (x_bin O (o := .add) (x_var (i := 1) rfl (by first | exact .inl rfl | exact .inr (.inl rfl) | exact .inr (.inr rfl))) (x_lst (m := false) (x_cons (x_xio O (cv := .ref (He.ga K "InvalidText")) (cu := .ref (He.ga K "InvalidText")) (fun _ r => r) F.ki_InvalidText (by rfl) F.n_isinstance (x_var (i := 0) rfl (by first | exact .inl rfl | exact .inr (.inl rfl) | exact .inr (.inr rfl))) (c_cls2 (by rfl) F.g_InvalidText)) (x_cons (x_xio O (cv := .ref (He.ga K "InvalidReading")) (cu := .ref (He.ga K "InvalidReading")) (fun _ r => r) F.ki_InvalidReading (by rfl) F.n_isinstance (x_var (i := 0) rfl (by first | exact .inl rfl | exact .inr (.inl rfl) | exact .inr (.inr rfl))) (c_cls2 (by rfl) F.g_InvalidReading)) (x_cons (x_xio O (cv := .ref (He.ga K "InvalidRun")) (cu := .ref (He.ga K "InvalidRun")) (fun _ r => r) F.ki_InvalidRun (by rfl) F.n_isinstance (x_var (i := 0) rfl (by first | exact .inl rfl | exact .inr (.inl rfl) | exact .inr (.inr rfl))) (c_cls2 (by rfl) F.g_InvalidRun)) x_nil))))) (g_nm nd rfl (by first | exact .inl rfl | exact .inr rfl) (by first | exact .inl rfl | exact .inr rfl)))
  (ss_cons (s_asg (x_bin O (o := .add) (x_var (i := 1) rfl (by first | exact .inl rfl | exact .inr (.inl rfl) | exact .inr (.inr rfl))) (x_lst (m := false) (x_cons (x_xio O (cv := .ref (He.ga K "InvalidPlaces")) (cu := .ref (He.ga K "InvalidPlaces")) (fun _ r => r) F.ki_InvalidPlaces (by rfl) F.n_isinstance (x_var (i := 0) rfl (by first | exact .inl rfl | exact .inr (.inl rfl) | exact .inr (.inr rfl))) (c_cls2 (by rfl) F.g_InvalidPlaces)) (x_cons (x_xio O (cv := .ref (He.ga K "InvalidQuestion")) (cu := .ref (He.ga K "InvalidQuestion")) (fun _ r => r) F.ki_InvalidQuestion (by rfl) F.n_isinstance (x_var (i := 0) rfl (by first | exact .inl rfl | exact .inr (.inl rfl) | exact .inr (.inr rfl))) (c_cls2 (by rfl) F.g_InvalidQuestion)) (x_cons (x_xio O (cv := .ref (He.ga K "InvalidClaim")) (cu := .ref (He.ga K "InvalidClaim")) (fun _ r => r) F.ki_InvalidClaim (by rfl) F.n_isinstance (x_var (i := 0) rfl (by first | exact .inl rfl | exact .inr (.inl rfl) | exact .inr (.inr rfl))) (c_cls2 (by rfl) F.g_InvalidClaim)) x_nil))))) (g_nm nd rfl (by first | exact .inl rfl | exact .inr rfl) (by first | exact .inl rfl | exact .inr rfl)))
  (ss_cons (s_asg (x_bin O (o := .add) (x_var (i := 1) rfl (by first | exact .inl rfl | exact .inr (.inl rfl) | exact .inr (.inr rfl))) (x_lst (m := false) (x_cons (x_xio O (cv := .ref (He.ga K "Endless")) (cu := .ref (He.ga K "Endless")) (fun _ r => r) F.ki_Endless (by rfl) F.n_isinstance (x_var (i := 0) rfl (by first | exact .inl rfl | exact .inr (.inl rfl) | exact .inr (.inr rfl))) (c_cls2 (by rfl) F.g_Endless)) (x_cons (x_xio O (cv := .ref (He.ga K "Undefined")) (cu := .ref (He.ga K "Undefined")) (fun _ r => r) F.ki_Undefined (by rfl) F.n_isinstance (x_var (i := 0) rfl (by first | exact .inl rfl | exact .inr (.inl rfl) | exact .inr (.inr rfl))) (c_cls2 (by rfl) F.g_Undefined)) (x_cons (x_xio O (cv := .ref (He.ga K "NothingToUndo")) (cu := .ref (He.ga K "NothingToUndo")) (fun _ r => r) F.ki_NothingToUndo (by rfl) F.n_isinstance (x_var (i := 0) rfl (by first | exact .inl rfl | exact .inr (.inl rfl) | exact .inr (.inr rfl))) (c_cls2 (by rfl) F.g_NothingToUndo)) x_nil))))) (g_nm nd rfl (by first | exact .inl rfl | exact .inr rfl) (by first | exact .inl rfl | exact .inr rfl)))
  (ss_cons (s_ret (x_bin O (o := .add) (x_var (i := 1) rfl (by first | exact .inl rfl | exact .inr (.inl rfl) | exact .inr (.inr rfl))) (x_lst (m := false) (x_cons (x_xio O (cv := .ref (He.ga K "GraftError")) (cu := .ref (He.ga K "GraftError")) (fun _ r => r) F.ki_GraftError (by rfl) F.n_isinstance (x_var (i := 0) rfl (by first | exact .inl rfl | exact .inr (.inl rfl) | exact .inr (.inr rfl))) (c_cls2 (by rfl) F.g_GraftError)) (x_cons (x_xio O (cv := .ty "ValueError") (cu := .type "ValueError") (fun _ r => r) F.ki_ValueError (by rfl) F.n_isinstance (x_var (i := 0) rfl (by first | exact .inl rfl | exact .inr (.inl rfl) | exact .inr (.inr rfl))) (c_ty (by rfl) F.n_ValueError (by rfl))) x_nil)))))
  ss_nil)))))
end
end LW
end
section
set_option maxRecDepth 100000
set_option maxHeartbeats 4000000
namespace LW
open PySem PySem.Spec PyProof.Rows L2 PS
section
variable {prog : Program} {w : World} {K : PySem.W.Frag} {mg : Str → Option Value} {base : Heap} {k : Nat}
structure Ih (prog : Program) (w : World) (K : PySem.W.Frag) (mg : Str → Option Value) (base : Heap) (k : Nat) : Prop where
  h_is_integer : ∃ fd ps, FnOk prog w K mg base (L2.CX prog w) (2 * k + 1) (He.fAd K ("is_integer", none)) fd ps (spR (Dw K) (runFn prg k 0)) ∧ Binds K fd ps []
  h_is_integer_in : ∃ fd ps, FnOk prog w K mg base (L2.CX prog w) (2 * k + 1) (He.fAd K ("is_integer_in", none)) fd ps (spR (Dw K) (runFn prg k 1)) ∧ Binds K fd ps []
  h_is_word : ∃ fd ps, FnOk prog w K mg base (L2.CX prog w) (2 * k + 1) (He.fAd K ("is_word", none)) fd ps (spR (Dw K) (runFn prg k 2)) ∧ Binds K fd ps []
  h_reached : ∃ fd ps, FnOk prog w K mg base (L2.CX prog w) (2 * k + 1) (He.fAd K ("reached", none)) fd ps (spR (Dw K) (runFn prg k 3)) ∧ Binds K fd ps []
  h_least_back : ∃ fd ps, FnOk prog w K mg base (L2.CX prog w) (2 * k + 1) (He.fAd K ("least_back", none)) fd ps (spR (Dw K) (runFn prg k 4)) ∧ Binds K fd ps []
  h_is_rule : ∃ fd ps, FnOk prog w K mg base (L2.CX prog w) (2 * k + 1) (He.fAd K ("is_rule", none)) fd ps (spR (Dw K) (runFn prg k 5)) ∧ Binds K fd ps []
  h_single_steps : ∃ fd ps, FnOk prog w K mg base (L2.CX prog w) (2 * k + 1) (He.fAd K ("single_steps", none)) fd ps (spR (Dw K) (runFn prg k 6)) ∧ Binds K fd ps []
  h_Pairsx_initx : ∃ fd ps, FnOk prog w K mg base (L2.CX prog w) (2 * k + 1) (He.fAd K ("Pairs", some "__init__")) fd ps (spR (Dw K) (runFn prg k 7)) ∧ Binds K fd ps []
  h_Pairsx_eqx : ∃ fd ps, FnOk prog w K mg base (L2.CX prog w) (2 * k + 1) (He.fAd K ("Pairs", some "__eq__")) fd ps (spR (Dw K) (runFn prg k 8)) ∧ Binds K fd ps []
  h__law_box : ∃ fd ps, FnOk prog w K mg base (L2.CX prog w) (2 * k + 1) (He.fAd K ("_law_box", none)) fd ps (spR (Dw K) (runFn prg k 9)) ∧ Binds K fd ps []
  h__law_take : ∃ fd ps, FnOk prog w K mg base (L2.CX prog w) (2 * k + 1) (He.fAd K ("_law_take", none)) fd ps (spR (Dw K) (runFn prg k 10)) ∧ Binds K fd ps []
  h__law_pick : ∃ fd ps, FnOk prog w K mg base (L2.CX prog w) (2 * k + 1) (He.fAd K ("_law_pick", none)) fd ps (spR (Dw K) (runFn prg k 11)) ∧ Binds K fd ps []
  h_law : ∃ fd ps, FnOk prog w K mg base (L2.CX prog w) (2 * k + 1) (He.fAd K ("law", none)) fd ps (spR (Dw K) (runFn prg k 25)) ∧ Binds K fd ps []
  h__law_ones : ∃ fd ps, FnOk prog w K mg base (L2.CX prog w) (2 * k + 1) (He.fAd K ("_law_ones", none)) fd ps (spR (Dw K) (runFn prg k 26)) ∧ Binds K fd ps []
  h__law_kinds : ∃ fd ps, FnOk prog w K mg base (L2.CX prog w) (2 * k + 1) (He.fAd K ("_law_kinds", none)) fd ps (spR (Dw K) (runFn prg k 27)) ∧ Binds K fd ps []
end
def fnL : List He.DefD := [
  ⟨("is_integer", none), "is_integer", "is_integer", defArgs (top 18), defBody (top 18), defScope (top 18), [], []⟩,
  ⟨("is_integer_in", none), "is_integer_in", "is_integer_in", defArgs (top 19), defBody (top 19), defScope (top 19), [], []⟩,
  ⟨("is_word", none), "is_word", "is_word", defArgs (top 20), defBody (top 20), defScope (top 20), [], []⟩,
  ⟨("reached", none), "reached", "reached", defArgs (top 21), defBody (top 21), defScope (top 21), [], []⟩,
  ⟨("least_back", none), "least_back", "least_back", defArgs (top 22), defBody (top 22), defScope (top 22), [], []⟩,
  ⟨("is_rule", none), "is_rule", "is_rule", defArgs (top 27), defBody (top 27), defScope (top 27), [], []⟩,
  ⟨("single_steps", none), "single_steps", "single_steps", defArgs (top 28), defBody (top 28), defScope (top 28), [], []⟩,
  ⟨("Pairs", some "__init__"), "__init__", "Pairs.__init__", defArgs (mth 29 0), defBody (mth 29 0), defScope (mth 29 0), [], []⟩,
  ⟨("Pairs", some "__eq__"), "__eq__", "Pairs.__eq__", defArgs (mth 29 1), defBody (mth 29 1), defScope (mth 29 1), [], []⟩,
  ⟨("_law_box", none), "_law_box", "_law_box", defArgs (top 31), defBody (top 31), defScope (top 31), [], []⟩,
  ⟨("_law_take", none), "_law_take", "_law_take", defArgs (top 32), defBody (top 32), defScope (top 32), [], []⟩,
  ⟨("_law_pick", none), "_law_pick", "_law_pick", defArgs (top 33), defBody (top 33), defScope (top 33), [], []⟩,
  ⟨("law", none), "law", "law", defArgs (top 36), defBody (top 36), defScope (top 36), [], []⟩,
  ⟨("_law_ones", none), "_law_ones", "_law_ones", defArgs (top 34), defBody (top 34), defScope (top 34), [], []⟩,
  ⟨("_law_kinds", none), "_law_kinds", "_law_kinds", defArgs (top 35), defBody (top 35), defScope (top 35), [], []⟩,
  ⟨("InvalidNumber", some "__init__"), "__init__", "InvalidNumber.__init__", defArgs (mth 2 0), defBody (mth 2 0), defScope (mth 2 0), [], []⟩,
  ⟨("InvalidRules", some "__init__"), "__init__", "InvalidRules.__init__", defArgs (mth 3 0), defBody (mth 3 0), defScope (mth 3 0), [], []⟩,
  ⟨("Endless", some "__init__"), "__init__", "Endless.__init__", defArgs (mth 12 0), defBody (mth 12 0), defScope (mth 12 0), [], []⟩,
  ⟨("InvalidRule", some "__init__"), "__init__", "InvalidRule.__init__", defArgs (mth 4 0), defBody (mth 4 0), defScope (mth 4 0), [], []⟩,
  ⟨("InvalidTrees", some "__init__"), "__init__", "InvalidTrees.__init__", defArgs (mth 5 0), defBody (mth 5 0), defScope (mth 5 0), [], []⟩,
  ⟨("InvalidText", some "__init__"), "__init__", "InvalidText.__init__", defArgs (mth 6 0), defBody (mth 6 0), defScope (mth 6 0), [], []⟩,
  ⟨("InvalidReading", some "__init__"), "__init__", "InvalidReading.__init__", defArgs (mth 7 0), defBody (mth 7 0), defScope (mth 7 0), [], []⟩,
  ⟨("InvalidRun", some "__init__"), "__init__", "InvalidRun.__init__", defArgs (mth 8 0), defBody (mth 8 0), defScope (mth 8 0), [], []⟩,
  ⟨("InvalidPlaces", some "__init__"), "__init__", "InvalidPlaces.__init__", defArgs (mth 9 0), defBody (mth 9 0), defScope (mth 9 0), [], []⟩,
  ⟨("InvalidQuestion", some "__init__"), "__init__", "InvalidQuestion.__init__", defArgs (mth 10 0), defBody (mth 10 0), defScope (mth 10 0), [], []⟩,
  ⟨("InvalidClaim", some "__init__"), "__init__", "InvalidClaim.__init__", defArgs (mth 11 0), defBody (mth 11 0), defScope (mth 11 0), [], []⟩,
  ⟨("Undefined", some "__init__"), "__init__", "Undefined.__init__", defArgs (mth 13 0), defBody (mth 13 0), defScope (mth 13 0), [], []⟩,
  ⟨("NothingToUndo", some "__init__"), "__init__", "NothingToUndo.__init__", defArgs (mth 14 0), defBody (mth 14 0), defScope (mth 14 0), [], []⟩]
def faL : List He.Fa := [.glo "is_integer", .keep "is_integer", .glo "is_integer_in", .keep "is_integer_in", .glo "is_word", .keep "is_word", .glo "reached", .keep "reached", .glo "least_back", .keep "least_back", .glo "is_rule", .keep "is_rule", .glo "single_steps", .keep "single_steps", .glo "_law_box", .keep "_law_box", .glo "_law_take", .keep "_law_take", .glo "_law_pick", .keep "_law_pick", .glo "law", .keep "law", .glo "_law_ones", .keep "_law_ones", .glo "_law_kinds", .keep "_law_kinds", .glo "Pairs", .glo "GraftError", .glo "InvalidNumber", .glo "InvalidRules", .glo "Endless", .glo "InvalidRule", .glo "InvalidTrees", .glo "InvalidText", .glo "InvalidReading", .glo "InvalidRun", .glo "InvalidPlaces", .glo "InvalidQuestion", .glo "InvalidClaim", .glo "Undefined"] ++ [.glo "NothingToUndo", .glo "PARTS", .free "ValueError", .free "abs", .free "all", .free "bool", .free "int", .free "isinstance", .free "len", .free "list", .free "range", .free "str", .free "tuple", .int "MOST_KINDS" 40, .int "MOST_LETTERS" 3, .int "MOST_RULES" 90, .str "LETTERS" "abcdefghijklmnopqrstuvwxyz", .cls "Pairs", .mkr "Pairs", .noat "Pairs" "kinds", .noat "Pairs" "rules", .exm "GraftError" "GraftError" true, .exm "GraftError" "InvalidNumber" false, .exm "GraftError" "InvalidRules" false, .exm "GraftError" "Endless" false, .exm "GraftError" "InvalidRule" false, .exm "GraftError" "InvalidTrees" false, .exm "GraftError" "InvalidText" false, .exm "GraftError" "InvalidReading" false, .exm "GraftError" "InvalidRun" false, .exm "GraftError" "InvalidPlaces" false, .exm "GraftError" "InvalidQuestion" false, .exm "GraftError" "InvalidClaim" false, .exm "GraftError" "Undefined" false, .exm "GraftError" "NothingToUndo" false, .exm "InvalidNumber" "GraftError" true, .exm "InvalidNumber" "InvalidNumber" true, .exm "InvalidNumber" "InvalidRules" false, .exm "InvalidNumber" "Endless" false, .exm "InvalidNumber" "InvalidRule" false] ++ [.exm "InvalidNumber" "InvalidTrees" false, .exm "InvalidNumber" "InvalidText" false, .exm "InvalidNumber" "InvalidReading" false, .exm "InvalidNumber" "InvalidRun" false, .exm "InvalidNumber" "InvalidPlaces" false, .exm "InvalidNumber" "InvalidQuestion" false, .exm "InvalidNumber" "InvalidClaim" false, .exm "InvalidNumber" "Undefined" false, .exm "InvalidNumber" "NothingToUndo" false, .exm "InvalidRules" "GraftError" true, .exm "InvalidRules" "InvalidNumber" false, .exm "InvalidRules" "InvalidRules" true, .exm "InvalidRules" "Endless" false, .exm "InvalidRules" "InvalidRule" false, .exm "InvalidRules" "InvalidTrees" false, .exm "InvalidRules" "InvalidText" false, .exm "InvalidRules" "InvalidReading" false, .exm "InvalidRules" "InvalidRun" false, .exm "InvalidRules" "InvalidPlaces" false, .exm "InvalidRules" "InvalidQuestion" false, .exm "InvalidRules" "InvalidClaim" false, .exm "InvalidRules" "Undefined" false, .exm "InvalidRules" "NothingToUndo" false, .exm "Endless" "GraftError" true, .exm "Endless" "InvalidNumber" false, .exm "Endless" "InvalidRules" false, .exm "Endless" "Endless" true, .exm "Endless" "InvalidRule" false, .exm "Endless" "InvalidTrees" false, .exm "Endless" "InvalidText" false, .exm "Endless" "InvalidReading" false, .exm "Endless" "InvalidRun" false, .exm "Endless" "InvalidPlaces" false, .exm "Endless" "InvalidQuestion" false, .exm "Endless" "InvalidClaim" false, .exm "Endless" "Undefined" false, .exm "Endless" "NothingToUndo" false, .exm "InvalidRule" "GraftError" true, .exm "InvalidRule" "InvalidNumber" false, .exm "InvalidRule" "InvalidRules" false] ++ [.exm "InvalidRule" "Endless" false, .exm "InvalidRule" "InvalidRule" true, .exm "InvalidRule" "InvalidTrees" false, .exm "InvalidRule" "InvalidText" false, .exm "InvalidRule" "InvalidReading" false, .exm "InvalidRule" "InvalidRun" false, .exm "InvalidRule" "InvalidPlaces" false, .exm "InvalidRule" "InvalidQuestion" false, .exm "InvalidRule" "InvalidClaim" false, .exm "InvalidRule" "Undefined" false, .exm "InvalidRule" "NothingToUndo" false, .exm "InvalidTrees" "GraftError" true, .exm "InvalidTrees" "InvalidNumber" false, .exm "InvalidTrees" "InvalidRules" false, .exm "InvalidTrees" "Endless" false, .exm "InvalidTrees" "InvalidRule" false, .exm "InvalidTrees" "InvalidTrees" true, .exm "InvalidTrees" "InvalidText" false, .exm "InvalidTrees" "InvalidReading" false, .exm "InvalidTrees" "InvalidRun" false, .exm "InvalidTrees" "InvalidPlaces" false, .exm "InvalidTrees" "InvalidQuestion" false, .exm "InvalidTrees" "InvalidClaim" false, .exm "InvalidTrees" "Undefined" false, .exm "InvalidTrees" "NothingToUndo" false, .exm "InvalidText" "GraftError" true, .exm "InvalidText" "InvalidNumber" false, .exm "InvalidText" "InvalidRules" false, .exm "InvalidText" "Endless" false, .exm "InvalidText" "InvalidRule" false, .exm "InvalidText" "InvalidTrees" false, .exm "InvalidText" "InvalidText" true, .exm "InvalidText" "InvalidReading" false, .exm "InvalidText" "InvalidRun" false, .exm "InvalidText" "InvalidPlaces" false, .exm "InvalidText" "InvalidQuestion" false, .exm "InvalidText" "InvalidClaim" false, .exm "InvalidText" "Undefined" false, .exm "InvalidText" "NothingToUndo" false, .exm "InvalidReading" "GraftError" true] ++ [.exm "InvalidReading" "InvalidNumber" false, .exm "InvalidReading" "InvalidRules" false, .exm "InvalidReading" "Endless" false, .exm "InvalidReading" "InvalidRule" false, .exm "InvalidReading" "InvalidTrees" false, .exm "InvalidReading" "InvalidText" false, .exm "InvalidReading" "InvalidReading" true, .exm "InvalidReading" "InvalidRun" false, .exm "InvalidReading" "InvalidPlaces" false, .exm "InvalidReading" "InvalidQuestion" false, .exm "InvalidReading" "InvalidClaim" false, .exm "InvalidReading" "Undefined" false, .exm "InvalidReading" "NothingToUndo" false, .exm "InvalidRun" "GraftError" true, .exm "InvalidRun" "InvalidNumber" false, .exm "InvalidRun" "InvalidRules" false, .exm "InvalidRun" "Endless" false, .exm "InvalidRun" "InvalidRule" false, .exm "InvalidRun" "InvalidTrees" false, .exm "InvalidRun" "InvalidText" false, .exm "InvalidRun" "InvalidReading" false, .exm "InvalidRun" "InvalidRun" true, .exm "InvalidRun" "InvalidPlaces" false, .exm "InvalidRun" "InvalidQuestion" false, .exm "InvalidRun" "InvalidClaim" false, .exm "InvalidRun" "Undefined" false, .exm "InvalidRun" "NothingToUndo" false, .exm "InvalidPlaces" "GraftError" true, .exm "InvalidPlaces" "InvalidNumber" false, .exm "InvalidPlaces" "InvalidRules" false, .exm "InvalidPlaces" "Endless" false, .exm "InvalidPlaces" "InvalidRule" false, .exm "InvalidPlaces" "InvalidTrees" false, .exm "InvalidPlaces" "InvalidText" false, .exm "InvalidPlaces" "InvalidReading" false, .exm "InvalidPlaces" "InvalidRun" false, .exm "InvalidPlaces" "InvalidPlaces" true, .exm "InvalidPlaces" "InvalidQuestion" false, .exm "InvalidPlaces" "InvalidClaim" false, .exm "InvalidPlaces" "Undefined" false] ++ [.exm "InvalidPlaces" "NothingToUndo" false, .exm "InvalidQuestion" "GraftError" true, .exm "InvalidQuestion" "InvalidNumber" false, .exm "InvalidQuestion" "InvalidRules" false, .exm "InvalidQuestion" "Endless" false, .exm "InvalidQuestion" "InvalidRule" false, .exm "InvalidQuestion" "InvalidTrees" false, .exm "InvalidQuestion" "InvalidText" false, .exm "InvalidQuestion" "InvalidReading" false, .exm "InvalidQuestion" "InvalidRun" false, .exm "InvalidQuestion" "InvalidPlaces" false, .exm "InvalidQuestion" "InvalidQuestion" true, .exm "InvalidQuestion" "InvalidClaim" false, .exm "InvalidQuestion" "Undefined" false, .exm "InvalidQuestion" "NothingToUndo" false, .exm "InvalidClaim" "GraftError" true, .exm "InvalidClaim" "InvalidNumber" false, .exm "InvalidClaim" "InvalidRules" false, .exm "InvalidClaim" "Endless" false, .exm "InvalidClaim" "InvalidRule" false, .exm "InvalidClaim" "InvalidTrees" false, .exm "InvalidClaim" "InvalidText" false, .exm "InvalidClaim" "InvalidReading" false, .exm "InvalidClaim" "InvalidRun" false, .exm "InvalidClaim" "InvalidPlaces" false, .exm "InvalidClaim" "InvalidQuestion" false, .exm "InvalidClaim" "InvalidClaim" true, .exm "InvalidClaim" "Undefined" false, .exm "InvalidClaim" "NothingToUndo" false, .exm "Undefined" "GraftError" true, .exm "Undefined" "InvalidNumber" false, .exm "Undefined" "InvalidRules" false, .exm "Undefined" "Endless" false, .exm "Undefined" "InvalidRule" false, .exm "Undefined" "InvalidTrees" false, .exm "Undefined" "InvalidText" false, .exm "Undefined" "InvalidReading" false, .exm "Undefined" "InvalidRun" false, .exm "Undefined" "InvalidPlaces" false, .exm "Undefined" "InvalidQuestion" false] ++ [.exm "Undefined" "InvalidClaim" false, .exm "Undefined" "Undefined" true, .exm "Undefined" "NothingToUndo" false, .exm "NothingToUndo" "GraftError" true, .exm "NothingToUndo" "InvalidNumber" false, .exm "NothingToUndo" "InvalidRules" false, .exm "NothingToUndo" "Endless" false, .exm "NothingToUndo" "InvalidRule" false, .exm "NothingToUndo" "InvalidTrees" false, .exm "NothingToUndo" "InvalidText" false, .exm "NothingToUndo" "InvalidReading" false, .exm "NothingToUndo" "InvalidRun" false, .exm "NothingToUndo" "InvalidPlaces" false, .exm "NothingToUndo" "InvalidQuestion" false, .exm "NothingToUndo" "InvalidClaim" false, .exm "NothingToUndo" "Undefined" false, .exm "NothingToUndo" "NothingToUndo" true]
def tsL : List He.Tab := [((fun K => He.ga K "PARTS"), ["left", "right", "same", "first", "last", "wrap", "ahead", "behind"])]
def vs_PARTS : List (Str × Int) := [("left", 0), ("right", 0), ("same", 1), ("first", 1), ("last", 1), ("wrap", 2), ("ahead", 2), ("behind", 2)]
def ex0 (K : PySem.W.Frag) : Bool := noList K
def ex1 (K : PySem.W.Frag) : Bool := clsOkB (Dw K) 0
def ex2 (K : PySem.W.Frag) : Bool := (decide (PySem.W.findIn K (.ref (He.ga K "Pairs")) "__eq__" = some (some (.ref (He.fAd K ("Pairs", some "__eq__"))))) && PySem.W.isFn K (.ref (He.fAd K ("Pairs", some "__eq__"))))
def ex3 (K : PySem.W.Frag) : Bool := (oexB K (He.ga K "InvalidNumber") && (xfB K (He.ga K "InvalidNumber") && (decide (PySem.W.findIn K (.ref (He.ga K "InvalidNumber")) "value" = some none) && (decide (PySem.W.findIn K (.ref (He.ga K "InvalidNumber")) "__init__" = some (some (.ref (He.fAd K ("InvalidNumber", some "__init__"))))) && decide (PySem.W.typeIn K (.ref (He.fAd K ("InvalidNumber", some "__init__"))) = some (.type "function"))))))
def ex4 (K : PySem.W.Frag) : Bool := (oexB K (He.ga K "InvalidRules") && (xfB K (He.ga K "InvalidRules") && (decide (PySem.W.findIn K (.ref (He.ga K "InvalidRules")) "value" = some none) && (decide (PySem.W.findIn K (.ref (He.ga K "InvalidRules")) "__init__" = some (some (.ref (He.fAd K ("InvalidRules", some "__init__"))))) && decide (PySem.W.typeIn K (.ref (He.fAd K ("InvalidRules", some "__init__"))) = some (.type "function"))))))
def ex5 (K : PySem.W.Frag) : Bool := (oexB K (He.ga K "Endless") && (xfB K (He.ga K "Endless") && (decide (PySem.W.findIn K (.ref (He.ga K "Endless")) "kind" = some none) && (decide (PySem.W.findIn K (.ref (He.ga K "Endless")) "__init__" = some (some (.ref (He.fAd K ("Endless", some "__init__"))))) && decide (PySem.W.typeIn K (.ref (He.fAd K ("Endless", some "__init__"))) = some (.type "function"))))))
def ex6 (K : PySem.W.Frag) : Bool := (oexB K (He.ga K "InvalidRule") && (xfB K (He.ga K "InvalidRule") && (decide (PySem.W.findIn K (.ref (He.ga K "InvalidRule")) "value" = some none) && (decide (PySem.W.findIn K (.ref (He.ga K "InvalidRule")) "__init__" = some (some (.ref (He.fAd K ("InvalidRule", some "__init__"))))) && decide (PySem.W.typeIn K (.ref (He.fAd K ("InvalidRule", some "__init__"))) = some (.type "function"))))))
def ex7 (K : PySem.W.Frag) : Bool := (oexB K (He.ga K "InvalidTrees") && (xfB K (He.ga K "InvalidTrees") && (decide (PySem.W.findIn K (.ref (He.ga K "InvalidTrees")) "value" = some none) && (decide (PySem.W.findIn K (.ref (He.ga K "InvalidTrees")) "__init__" = some (some (.ref (He.fAd K ("InvalidTrees", some "__init__"))))) && decide (PySem.W.typeIn K (.ref (He.fAd K ("InvalidTrees", some "__init__"))) = some (.type "function"))))))
def ex8 (K : PySem.W.Frag) : Bool := (oexB K (He.ga K "InvalidText") && (xfB K (He.ga K "InvalidText") && (decide (PySem.W.findIn K (.ref (He.ga K "InvalidText")) "value" = some none) && (decide (PySem.W.findIn K (.ref (He.ga K "InvalidText")) "__init__" = some (some (.ref (He.fAd K ("InvalidText", some "__init__"))))) && decide (PySem.W.typeIn K (.ref (He.fAd K ("InvalidText", some "__init__"))) = some (.type "function"))))))
def ex9 (K : PySem.W.Frag) : Bool := (oexB K (He.ga K "InvalidReading") && (xfB K (He.ga K "InvalidReading") && (decide (PySem.W.findIn K (.ref (He.ga K "InvalidReading")) "value" = some none) && (decide (PySem.W.findIn K (.ref (He.ga K "InvalidReading")) "__init__" = some (some (.ref (He.fAd K ("InvalidReading", some "__init__"))))) && decide (PySem.W.typeIn K (.ref (He.fAd K ("InvalidReading", some "__init__"))) = some (.type "function"))))))
def ex10 (K : PySem.W.Frag) : Bool := (oexB K (He.ga K "InvalidRun") && (xfB K (He.ga K "InvalidRun") && (decide (PySem.W.findIn K (.ref (He.ga K "InvalidRun")) "value" = some none) && (decide (PySem.W.findIn K (.ref (He.ga K "InvalidRun")) "__init__" = some (some (.ref (He.fAd K ("InvalidRun", some "__init__"))))) && decide (PySem.W.typeIn K (.ref (He.fAd K ("InvalidRun", some "__init__"))) = some (.type "function"))))))
def ex11 (K : PySem.W.Frag) : Bool := (oexB K (He.ga K "InvalidPlaces") && (xfB K (He.ga K "InvalidPlaces") && (decide (PySem.W.findIn K (.ref (He.ga K "InvalidPlaces")) "value" = some none) && (decide (PySem.W.findIn K (.ref (He.ga K "InvalidPlaces")) "__init__" = some (some (.ref (He.fAd K ("InvalidPlaces", some "__init__"))))) && decide (PySem.W.typeIn K (.ref (He.fAd K ("InvalidPlaces", some "__init__"))) = some (.type "function"))))))
def ex12 (K : PySem.W.Frag) : Bool := (oexB K (He.ga K "InvalidQuestion") && (xfB K (He.ga K "InvalidQuestion") && (decide (PySem.W.findIn K (.ref (He.ga K "InvalidQuestion")) "value" = some none) && (decide (PySem.W.findIn K (.ref (He.ga K "InvalidQuestion")) "__init__" = some (some (.ref (He.fAd K ("InvalidQuestion", some "__init__"))))) && decide (PySem.W.typeIn K (.ref (He.fAd K ("InvalidQuestion", some "__init__"))) = some (.type "function"))))))
def ex13 (K : PySem.W.Frag) : Bool := (oexB K (He.ga K "InvalidClaim") && (xfB K (He.ga K "InvalidClaim") && (decide (PySem.W.findIn K (.ref (He.ga K "InvalidClaim")) "value" = some none) && (decide (PySem.W.findIn K (.ref (He.ga K "InvalidClaim")) "__init__" = some (some (.ref (He.fAd K ("InvalidClaim", some "__init__"))))) && decide (PySem.W.typeIn K (.ref (He.fAd K ("InvalidClaim", some "__init__"))) = some (.type "function"))))))
def ex14 (K : PySem.W.Frag) : Bool := (oexB K (He.ga K "Undefined") && (xfB K (He.ga K "Undefined") && (decide (PySem.W.findIn K (.ref (He.ga K "Undefined")) "what" = some none) && (decide (PySem.W.findIn K (.ref (He.ga K "Undefined")) "__init__" = some (some (.ref (He.fAd K ("Undefined", some "__init__"))))) && decide (PySem.W.typeIn K (.ref (He.fAd K ("Undefined", some "__init__"))) = some (.type "function"))))))
def ex15 (K : PySem.W.Frag) : Bool := (oexB K (He.ga K "NothingToUndo") && (xfB K (He.ga K "NothingToUndo") && (decide (PySem.W.findIn K (.ref (He.ga K "NothingToUndo")) "word" = some none) && (decide (PySem.W.findIn K (.ref (He.ga K "NothingToUndo")) "__init__" = some (some (.ref (He.fAd K ("NothingToUndo", some "__init__"))))) && decide (PySem.W.typeIn K (.ref (He.fAd K ("NothingToUndo", some "__init__"))) = some (.type "function"))))))
def ex16 (K : PySem.W.Frag) : Bool := excAllB (Dw K)
def ex17 (K : PySem.W.Frag) : Bool := kiB (Dw K) (.ref (He.ga K "Endless")) ([3] : List Nat)
def ex18 (K : PySem.W.Frag) : Bool := kiB (Dw K) (.ref (He.ga K "GraftError")) ([0, 1, 2, 3, 4, 5, 6, 7, 8, 9, 10, 11, 12, 13] : List Nat)
def ex19 (K : PySem.W.Frag) : Bool := kiB (Dw K) (.ref (He.ga K "InvalidClaim")) ([11] : List Nat)
def ex20 (K : PySem.W.Frag) : Bool := kiB (Dw K) (.ref (He.ga K "InvalidNumber")) ([1] : List Nat)
def ex21 (K : PySem.W.Frag) : Bool := kiB (Dw K) (.ref (He.ga K "InvalidPlaces")) ([9] : List Nat)
def ex22 (K : PySem.W.Frag) : Bool := kiB (Dw K) (.ref (He.ga K "InvalidQuestion")) ([10] : List Nat)
def ex23 (K : PySem.W.Frag) : Bool := kiB (Dw K) (.ref (He.ga K "InvalidReading")) ([7] : List Nat)
def ex24 (K : PySem.W.Frag) : Bool := kiB (Dw K) (.ref (He.ga K "InvalidRule")) ([4] : List Nat)
def ex25 (K : PySem.W.Frag) : Bool := kiB (Dw K) (.ref (He.ga K "InvalidRules")) ([2] : List Nat)
def ex26 (K : PySem.W.Frag) : Bool := kiB (Dw K) (.ref (He.ga K "InvalidRun")) ([8] : List Nat)
def ex27 (K : PySem.W.Frag) : Bool := kiB (Dw K) (.ref (He.ga K "InvalidText")) ([6] : List Nat)
def ex28 (K : PySem.W.Frag) : Bool := kiB (Dw K) (.ref (He.ga K "InvalidTrees")) ([5] : List Nat)
def ex29 (K : PySem.W.Frag) : Bool := kiB (Dw K) (.ref (He.ga K "NothingToUndo")) ([13] : List Nat)
def ex30 (K : PySem.W.Frag) : Bool := kiB (Dw K) (.ref (He.ga K "Undefined")) ([12] : List Nat)
def ex31 (K : PySem.W.Frag) : Bool := kiB (Dw K) (.type "ValueError") ([0, 1, 2, 3, 4, 5, 6, 7, 8, 9, 10, 11, 12, 13] : List Nat)
def ex32 (K : PySem.W.Frag) : Bool := keysB K (He.ga K "PARTS") ks_PARTS
def ex33 (K : PySem.W.Frag) : Bool := valsB K (He.ga K "PARTS") vs_PARTS
def exB (K : PySem.W.Frag) : Bool := (ex0 K && (ex1 K && (ex2 K && (ex3 K && (ex4 K && (ex5 K && (ex6 K && (ex7 K && (ex8 K && (ex9 K && (ex10 K && (ex11 K && (ex12 K && (ex13 K && (ex14 K && (ex15 K && (ex16 K && (ex17 K && (ex18 K && (ex19 K && (ex20 K && (ex21 K && (ex22 K && (ex23 K && (ex24 K && (ex25 K && (ex26 K && (ex27 K && (ex28 K && (ex29 K && (ex30 K && (ex31 K && (ex32 K && ex33 K)))))))))))))))))))))))))))))))))
section
variable {prog : Program} {w : World} {K : PySem.W.Frag} {mg : Str → Option Value} {base h : Heap} {k : Nat}
theorem exB_ok (e : exB K = true) : ex0 K = true ∧ ex1 K = true ∧ ex2 K = true ∧ ex3 K = true ∧ ex4 K = true ∧ ex5 K = true ∧ ex6 K = true ∧ ex7 K = true ∧ ex8 K = true ∧ ex9 K = true ∧ ex10 K = true ∧ ex11 K = true ∧ ex12 K = true ∧ ex13 K = true ∧ ex14 K = true ∧ ex15 K = true ∧ ex16 K = true ∧ ex17 K = true ∧ ex18 K = true ∧ ex19 K = true ∧ ex20 K = true ∧ ex21 K = true ∧ ex22 K = true ∧ ex23 K = true ∧ ex24 K = true ∧ ex25 K = true ∧ ex26 K = true ∧ ex27 K = true ∧ ex28 K = true ∧ ex29 K = true ∧ ex30 K = true ∧ ex31 K = true ∧ ex32 K = true ∧ ex33 K = true := by
  unfold exB at e
  simp only [Bool.and_eq_true] at e
  exact e
theorem nox_imp {F : List T → AH → R T} {vs : List V} {H : Hp} {Q : VK} {E : XK} (h : spR (Dw K) (fun ts h => (F ts h).nox) vs H Q E) : spR (Dw K) F vs H Q E := by
  obtain ⟨rho, h, ts, R, l, q⟩ := h
  refine ⟨rho, h, ts, R, l, ?_⟩
  have q : outE (Dw K) none _ [] H rho Q ((F ts h).nox) := q
  generalize F ts h = r at q ⊢
  cases r <;> first | exact q | exact q.elim
theorem flOf_inj : ∀ i j, flOf i = flOf j → i = j := by
  intro i j e
  have key : ∀ n, fN.length ≤ n → (flOf n).length = n + 100 := fun n hn => by
    unfold flOf
    rw [List.getElem?_eq_none hn]
    show (Array.replicate (n + 100) 0).size = _
    simp
  have low : ∀ n, n < fN.length → (flOf n).length < 100 := by decide
  by_cases hi : i < fN.length
  · by_cases hj : j < fN.length
    · exact (by decide : ∀ i < fN.length, ∀ j < fN.length, flOf i = flOf j → i = j) i hi j hj e
    · have a := low i hi
      have b := key j (by omega)
      rw [e] at a; omega
  · have a := key i (by omega)
    by_cases hj : j < fN.length
    · have b := low j hj
      rw [← e] at b; omega
    · have b := key j (by omega)
      rw [e] at a; omega
theorem fx_of (X : K.In h) (G : h.Ns mainGlobals mg) (c : He.SaysX faL fnL tsL [] exB w h K) (I : Ih prog w K mg base k) : Fx prog w K mg base k := by
  obtain ⟨z0, z1, z2, z3, z4, z5, z6, z7, z8, z9, z10, z11, z12, z13, z14, z15, z16, z17, z18, z19, z20, z21, z22, z23, z24, z25, z26, z27, z28, z29, z30, z31, z32, z33⟩ := exB_ok c.more
  have z3 : ex3 K = true := z3
  unfold ex3 at z3
  simp only [Bool.and_eq_true, decide_eq_true_eq] at z3
  obtain ⟨o_InvalidNumber, xf_InvalidNumber, no_InvalidNumber, in_InvalidNumber, ty_InvalidNumber⟩ := z3
  have z4 : ex4 K = true := z4
  unfold ex4 at z4
  simp only [Bool.and_eq_true, decide_eq_true_eq] at z4
  obtain ⟨o_InvalidRules, xf_InvalidRules, no_InvalidRules, in_InvalidRules, ty_InvalidRules⟩ := z4
  have z5 : ex5 K = true := z5
  unfold ex5 at z5
  simp only [Bool.and_eq_true, decide_eq_true_eq] at z5
  obtain ⟨o_Endless, xf_Endless, no_Endless, in_Endless, ty_Endless⟩ := z5
  have z6 : ex6 K = true := z6
  unfold ex6 at z6
  simp only [Bool.and_eq_true, decide_eq_true_eq] at z6
  obtain ⟨o_InvalidRule, xf_InvalidRule, no_InvalidRule, in_InvalidRule, ty_InvalidRule⟩ := z6
  have z7 : ex7 K = true := z7
  unfold ex7 at z7
  simp only [Bool.and_eq_true, decide_eq_true_eq] at z7
  obtain ⟨o_InvalidTrees, xf_InvalidTrees, no_InvalidTrees, in_InvalidTrees, ty_InvalidTrees⟩ := z7
  have z8 : ex8 K = true := z8
  unfold ex8 at z8
  simp only [Bool.and_eq_true, decide_eq_true_eq] at z8
  obtain ⟨o_InvalidText, xf_InvalidText, no_InvalidText, in_InvalidText, ty_InvalidText⟩ := z8
  have z9 : ex9 K = true := z9
  unfold ex9 at z9
  simp only [Bool.and_eq_true, decide_eq_true_eq] at z9
  obtain ⟨o_InvalidReading, xf_InvalidReading, no_InvalidReading, in_InvalidReading, ty_InvalidReading⟩ := z9
  have z10 : ex10 K = true := z10
  unfold ex10 at z10
  simp only [Bool.and_eq_true, decide_eq_true_eq] at z10
  obtain ⟨o_InvalidRun, xf_InvalidRun, no_InvalidRun, in_InvalidRun, ty_InvalidRun⟩ := z10
  have z11 : ex11 K = true := z11
  unfold ex11 at z11
  simp only [Bool.and_eq_true, decide_eq_true_eq] at z11
  obtain ⟨o_InvalidPlaces, xf_InvalidPlaces, no_InvalidPlaces, in_InvalidPlaces, ty_InvalidPlaces⟩ := z11
  have z12 : ex12 K = true := z12
  unfold ex12 at z12
  simp only [Bool.and_eq_true, decide_eq_true_eq] at z12
  obtain ⟨o_InvalidQuestion, xf_InvalidQuestion, no_InvalidQuestion, in_InvalidQuestion, ty_InvalidQuestion⟩ := z12
  have z13 : ex13 K = true := z13
  unfold ex13 at z13
  simp only [Bool.and_eq_true, decide_eq_true_eq] at z13
  obtain ⟨o_InvalidClaim, xf_InvalidClaim, no_InvalidClaim, in_InvalidClaim, ty_InvalidClaim⟩ := z13
  have z14 : ex14 K = true := z14
  unfold ex14 at z14
  simp only [Bool.and_eq_true, decide_eq_true_eq] at z14
  obtain ⟨o_Undefined, xf_Undefined, no_Undefined, in_Undefined, ty_Undefined⟩ := z14
  have z15 : ex15 K = true := z15
  unfold ex15 at z15
  simp only [Bool.and_eq_true, decide_eq_true_eq] at z15
  obtain ⟨o_NothingToUndo, xf_NothingToUndo, no_NothingToUndo, in_NothingToUndo, ty_NothingToUndo⟩ := z15
  have z2 : ex2 K = true := z2
  unfold ex2 at z2
  simp only [Bool.and_eq_true, decide_eq_true_eq] at z2
  exact {
    n_ValueError := He.free_ok X G (c.t.d.fact 42 (f := .free "ValueError") rfl),
    n_abs := He.free_ok X G (c.t.d.fact 43 (f := .free "abs") rfl),
    n_all := He.free_ok X G (c.t.d.fact 44 (f := .free "all") rfl),
    n_bool := He.free_ok X G (c.t.d.fact 45 (f := .free "bool") rfl),
    n_int := He.free_ok X G (c.t.d.fact 46 (f := .free "int") rfl),
    n_isinstance := He.free_ok X G (c.t.d.fact 47 (f := .free "isinstance") rfl),
    n_len := He.free_ok X G (c.t.d.fact 48 (f := .free "len") rfl),
    n_list := He.free_ok X G (c.t.d.fact 49 (f := .free "list") rfl),
    n_range := He.free_ok X G (c.t.d.fact 50 (f := .free "range") rfl),
    n_str := He.free_ok X G (c.t.d.fact 51 (f := .free "str") rfl),
    n_tuple := He.free_ok X G (c.t.d.fact 52 (f := .free "tuple") rfl),
    c_MOST_KINDS := He.int_ok X G (c.t.d.fact 53 (f := .int "MOST_KINDS" 40) rfl),
    c_MOST_LETTERS := He.int_ok X G (c.t.d.fact 54 (f := .int "MOST_LETTERS" 3) rfl),
    c_MOST_RULES := He.int_ok X G (c.t.d.fact 55 (f := .int "MOST_RULES" 90) rfl),
    c_LETTERS := He.str_ok X G (c.t.d.fact 56 (f := .str "LETTERS" "abcdefghijklmnopqrstuvwxyz") rfl),
    g_is_integer := He.glo_ok X G (c.t.d.fact 0 (f := .glo "is_integer") rfl),
    k_is_integer := He.keep_ok (c.t.d.fact 1 (f := .keep "is_integer") rfl),
    g_is_integer_in := He.glo_ok X G (c.t.d.fact 2 (f := .glo "is_integer_in") rfl),
    k_is_integer_in := He.keep_ok (c.t.d.fact 3 (f := .keep "is_integer_in") rfl),
    g_is_word := He.glo_ok X G (c.t.d.fact 4 (f := .glo "is_word") rfl),
    k_is_word := He.keep_ok (c.t.d.fact 5 (f := .keep "is_word") rfl),
    g_reached := He.glo_ok X G (c.t.d.fact 6 (f := .glo "reached") rfl),
    k_reached := He.keep_ok (c.t.d.fact 7 (f := .keep "reached") rfl),
    g_least_back := He.glo_ok X G (c.t.d.fact 8 (f := .glo "least_back") rfl),
    k_least_back := He.keep_ok (c.t.d.fact 9 (f := .keep "least_back") rfl),
    g_is_rule := He.glo_ok X G (c.t.d.fact 10 (f := .glo "is_rule") rfl),
    k_is_rule := He.keep_ok (c.t.d.fact 11 (f := .keep "is_rule") rfl),
    g_single_steps := He.glo_ok X G (c.t.d.fact 12 (f := .glo "single_steps") rfl),
    k_single_steps := He.keep_ok (c.t.d.fact 13 (f := .keep "single_steps") rfl),
    g__law_box := He.glo_ok X G (c.t.d.fact 14 (f := .glo "_law_box") rfl),
    k__law_box := He.keep_ok (c.t.d.fact 15 (f := .keep "_law_box") rfl),
    g__law_take := He.glo_ok X G (c.t.d.fact 16 (f := .glo "_law_take") rfl),
    k__law_take := He.keep_ok (c.t.d.fact 17 (f := .keep "_law_take") rfl),
    g__law_pick := He.glo_ok X G (c.t.d.fact 18 (f := .glo "_law_pick") rfl),
    k__law_pick := He.keep_ok (c.t.d.fact 19 (f := .keep "_law_pick") rfl),
    g_law := He.glo_ok X G (c.t.d.fact 20 (f := .glo "law") rfl),
    k_law := He.keep_ok (c.t.d.fact 21 (f := .keep "law") rfl),
    g__law_ones := He.glo_ok X G (c.t.d.fact 22 (f := .glo "_law_ones") rfl),
    k__law_ones := He.keep_ok (c.t.d.fact 23 (f := .keep "_law_ones") rfl),
    g__law_kinds := He.glo_ok X G (c.t.d.fact 24 (f := .glo "_law_kinds") rfl),
    k__law_kinds := He.keep_ok (c.t.d.fact 25 (f := .keep "_law_kinds") rfl),
    g_Pairs := He.glo_ok X G (c.t.d.fact 26 (f := .glo "Pairs") rfl),
    g_GraftError := He.glo_ok X G (c.t.d.fact 27 (f := .glo "GraftError") rfl),
    g_InvalidNumber := He.glo_ok X G (c.t.d.fact 28 (f := .glo "InvalidNumber") rfl),
    g_InvalidRules := He.glo_ok X G (c.t.d.fact 29 (f := .glo "InvalidRules") rfl),
    g_Endless := He.glo_ok X G (c.t.d.fact 30 (f := .glo "Endless") rfl),
    g_InvalidRule := He.glo_ok X G (c.t.d.fact 31 (f := .glo "InvalidRule") rfl),
    g_InvalidTrees := He.glo_ok X G (c.t.d.fact 32 (f := .glo "InvalidTrees") rfl),
    g_InvalidText := He.glo_ok X G (c.t.d.fact 33 (f := .glo "InvalidText") rfl),
    g_InvalidReading := He.glo_ok X G (c.t.d.fact 34 (f := .glo "InvalidReading") rfl),
    g_InvalidRun := He.glo_ok X G (c.t.d.fact 35 (f := .glo "InvalidRun") rfl),
    g_InvalidPlaces := He.glo_ok X G (c.t.d.fact 36 (f := .glo "InvalidPlaces") rfl),
    g_InvalidQuestion := He.glo_ok X G (c.t.d.fact 37 (f := .glo "InvalidQuestion") rfl),
    g_InvalidClaim := He.glo_ok X G (c.t.d.fact 38 (f := .glo "InvalidClaim") rfl),
    g_Undefined := He.glo_ok X G (c.t.d.fact 39 (f := .glo "Undefined") rfl),
    g_NothingToUndo := He.glo_ok X G (c.t.d.fact 40 (f := .glo "NothingToUndo") rfl),
    g_PARTS := He.glo_ok X G (c.t.d.fact 41 (f := .glo "PARTS") rfl),
    d_PARTS := c.t.tab 0 rfl,
    w_PARTS := fun z => keysB_ok z32 z,
    v_PARTS := fun z t e => valsB_ok (zs := vs_PARTS) z33 e,
    o_PARTS := fun es n kd => keysB_ord kd z32,
    e_is_integer := fun {A} hr => by
      obtain ⟨fd, ps, F, b⟩ := I.h_is_integer
      exact ⟨_, fd, ps, F, hr.mono (by omega), b⟩,
    m_is_integer := fun {A} hr => by
      obtain ⟨fd, ps, F, b⟩ := I.h_is_integer
      exact ⟨_, fd, ps, F, hr, b⟩,
    e_is_integer_in := fun {A} hr => by
      obtain ⟨fd, ps, F, b⟩ := I.h_is_integer_in
      exact ⟨_, fd, ps, F, hr.mono (by omega), b⟩,
    m_is_integer_in := fun {A} hr => by
      obtain ⟨fd, ps, F, b⟩ := I.h_is_integer_in
      exact ⟨_, fd, ps, F, hr, b⟩,
    e_is_word := fun {A} hr => by
      obtain ⟨fd, ps, F, b⟩ := I.h_is_word
      exact ⟨_, fd, ps, F, hr.mono (by omega), b⟩,
    m_is_word := fun {A} hr => by
      obtain ⟨fd, ps, F, b⟩ := I.h_is_word
      exact ⟨_, fd, ps, F, hr, b⟩,
    e_reached := fun {A} hr => by
      obtain ⟨fd, ps, F, b⟩ := I.h_reached
      exact ⟨_, fd, ps, F, hr.mono (by omega), b⟩,
    m_reached := fun {A} hr => by
      obtain ⟨fd, ps, F, b⟩ := I.h_reached
      exact ⟨_, fd, ps, F, hr, b⟩,
    e_least_back := fun {A} hr => by
      obtain ⟨fd, ps, F, b⟩ := I.h_least_back
      exact ⟨_, fd, ps, F, hr.mono (by omega), b⟩,
    m_least_back := fun {A} hr => by
      obtain ⟨fd, ps, F, b⟩ := I.h_least_back
      exact ⟨_, fd, ps, F, hr, b⟩,
    e_is_rule := fun {A} hr => by
      obtain ⟨fd, ps, F, b⟩ := I.h_is_rule
      exact ⟨_, fd, ps, F, hr.mono (by omega), b⟩,
    m_is_rule := fun {A} hr => by
      obtain ⟨fd, ps, F, b⟩ := I.h_is_rule
      exact ⟨_, fd, ps, F, hr, b⟩,
    e_single_steps := fun {A} hr => by
      obtain ⟨fd, ps, F, b⟩ := I.h_single_steps
      exact ⟨_, fd, ps, F, hr.mono (by omega), b⟩,
    m_single_steps := fun {A} hr => by
      obtain ⟨fd, ps, F, b⟩ := I.h_single_steps
      exact ⟨_, fd, ps, F, hr, b⟩,
    e_Pairsx_initx := fun {A} hr => by
      obtain ⟨fd, ps, F, b⟩ := I.h_Pairsx_initx
      exact ⟨_, fd, ps, F, hr.mono (by omega), b⟩,
    m_Pairsx_initx := fun {A} hr => by
      obtain ⟨fd, ps, F, b⟩ := I.h_Pairsx_initx
      exact ⟨_, fd, ps, F, hr, b⟩,
    e_Pairsx_eqx := fun {A} hr => by
      obtain ⟨fd, ps, F, b⟩ := I.h_Pairsx_eqx
      exact ⟨_, fd, ps, F, hr.mono (by omega), b⟩,
    m_Pairsx_eqx := fun {A} hr => by
      obtain ⟨fd, ps, F, b⟩ := I.h_Pairsx_eqx
      exact ⟨_, fd, ps, F, hr, b⟩,
    q_Pairsx_eqx := fun {A} hr => by
      obtain ⟨fd, ps, F, b⟩ := I.h_Pairsx_eqx
      exact ⟨_, fd, ps, F.imp fun _ _ _ _ => nox_imp, hr.mono (by omega), b⟩,
    s_Pairs := z2.1,
    t_Pairs := z2.2,
    e__law_box := fun {A} hr => by
      obtain ⟨fd, ps, F, b⟩ := I.h__law_box
      exact ⟨_, fd, ps, F, hr.mono (by omega), b⟩,
    m__law_box := fun {A} hr => by
      obtain ⟨fd, ps, F, b⟩ := I.h__law_box
      exact ⟨_, fd, ps, F, hr, b⟩,
    e__law_take := fun {A} hr => by
      obtain ⟨fd, ps, F, b⟩ := I.h__law_take
      exact ⟨_, fd, ps, F, hr.mono (by omega), b⟩,
    m__law_take := fun {A} hr => by
      obtain ⟨fd, ps, F, b⟩ := I.h__law_take
      exact ⟨_, fd, ps, F, hr, b⟩,
    e__law_pick := fun {A} hr => by
      obtain ⟨fd, ps, F, b⟩ := I.h__law_pick
      exact ⟨_, fd, ps, F, hr.mono (by omega), b⟩,
    m__law_pick := fun {A} hr => by
      obtain ⟨fd, ps, F, b⟩ := I.h__law_pick
      exact ⟨_, fd, ps, F, hr, b⟩,
    e_law := fun {A} hr => by
      obtain ⟨fd, ps, F, b⟩ := I.h_law
      exact ⟨_, fd, ps, F, hr.mono (by omega), b⟩,
    m_law := fun {A} hr => by
      obtain ⟨fd, ps, F, b⟩ := I.h_law
      exact ⟨_, fd, ps, F, hr, b⟩,
    e__law_ones := fun {A} hr => by
      obtain ⟨fd, ps, F, b⟩ := I.h__law_ones
      exact ⟨_, fd, ps, F, hr.mono (by omega), b⟩,
    m__law_ones := fun {A} hr => by
      obtain ⟨fd, ps, F, b⟩ := I.h__law_ones
      exact ⟨_, fd, ps, F, hr, b⟩,
    e__law_kinds := fun {A} hr => by
      obtain ⟨fd, ps, F, b⟩ := I.h__law_kinds
      exact ⟨_, fd, ps, F, hr.mono (by omega), b⟩,
    m__law_kinds := fun {A} hr => by
      obtain ⟨fd, ps, F, b⟩ := I.h__law_kinds
      exact ⟨_, fd, ps, F, hr, b⟩,
    m_Pairs := He.mkr_ok (c.t.d.fact 58 (f := .mkr "Pairs") rfl),
    inj := flOf_inj,
    a_Pairs_kinds := He.noat_ok (c.t.d.fact 59 (f := .noat "Pairs" "kinds") rfl),
    a_Pairs_rules := He.noat_ok (c.t.d.fact 60 (f := .noat "Pairs" "rules") rfl),
    cls := fun c0 h0 => match c0, h0 with | 0, _ => clsOkB_ok (D := Dw K) (c := 0) (He.cls_ok (c.t.d.fact 57 (f := .cls "Pairs") rfl)) z1 | _ + 1, h0 => absurd h0 (by show ¬ _ < 1; omega),
    y_GraftError := fun c0 h0 => match c0, h0 with | 0, _ => He.exm_ok (c.t.d.fact 61 (f := .exm "GraftError" "GraftError" true) rfl) | 1, _ => He.exm_ok (c.t.d.fact 75 (f := .exm "InvalidNumber" "GraftError" true) rfl) | 2, _ => He.exm_ok (c.t.d.fact 89 (f := .exm "InvalidRules" "GraftError" true) rfl) | 3, _ => He.exm_ok (c.t.d.fact 103 (f := .exm "Endless" "GraftError" true) rfl) | 4, _ => He.exm_ok (c.t.d.fact 117 (f := .exm "InvalidRule" "GraftError" true) rfl) | 5, _ => He.exm_ok (c.t.d.fact 131 (f := .exm "InvalidTrees" "GraftError" true) rfl) | 6, _ => He.exm_ok (c.t.d.fact 145 (f := .exm "InvalidText" "GraftError" true) rfl) | 7, _ => He.exm_ok (c.t.d.fact 159 (f := .exm "InvalidReading" "GraftError" true) rfl) | 8, _ => He.exm_ok (c.t.d.fact 173 (f := .exm "InvalidRun" "GraftError" true) rfl) | 9, _ => He.exm_ok (c.t.d.fact 187 (f := .exm "InvalidPlaces" "GraftError" true) rfl) | 10, _ => He.exm_ok (c.t.d.fact 201 (f := .exm "InvalidQuestion" "GraftError" true) rfl) | 11, _ => He.exm_ok (c.t.d.fact 215 (f := .exm "InvalidClaim" "GraftError" true) rfl) | 12, _ => He.exm_ok (c.t.d.fact 229 (f := .exm "Undefined" "GraftError" true) rfl) | 13, _ => He.exm_ok (c.t.d.fact 243 (f := .exm "NothingToUndo" "GraftError" true) rfl) | _ + 14, h0 => absurd h0 (by show ¬ _ < 14; omega),
    x_InvalidNumber := fun {Y} e1 e2 e3 e4 e5 hr => by
      subst e1 e2 e3 e4 e5
      obtain ⟨fd, F⟩ := c.t.d.def_ 15 rfl
      exact ⟨by show 1 < 14; decide, oexB_ok o_InvalidNumber, _, in_InvalidNumber, ty_InvalidNumber, 1, fd, ["self", "value"], err_ok F ⟨rfl, rfl, rfl, by decide +kernel, rfl, by decide +kernel, by decide +kernel⟩ rfl (oexB_ok o_InvalidNumber) no_InvalidNumber (.inl rfl) (.inl rfl), hr.mono (by omega), FunD.bindsN F fun _ _ _ _ _ _ us hl => match us, hl with | [_, _], _ => rfl⟩,
    y_InvalidNumber := fun c0 h0 => match c0, h0 with | 0, _ => He.exm_ok (c.t.d.fact 62 (f := .exm "GraftError" "InvalidNumber" false) rfl) | 1, _ => He.exm_ok (c.t.d.fact 76 (f := .exm "InvalidNumber" "InvalidNumber" true) rfl) | 2, _ => He.exm_ok (c.t.d.fact 90 (f := .exm "InvalidRules" "InvalidNumber" false) rfl) | 3, _ => He.exm_ok (c.t.d.fact 104 (f := .exm "Endless" "InvalidNumber" false) rfl) | 4, _ => He.exm_ok (c.t.d.fact 118 (f := .exm "InvalidRule" "InvalidNumber" false) rfl) | 5, _ => He.exm_ok (c.t.d.fact 132 (f := .exm "InvalidTrees" "InvalidNumber" false) rfl) | 6, _ => He.exm_ok (c.t.d.fact 146 (f := .exm "InvalidText" "InvalidNumber" false) rfl) | 7, _ => He.exm_ok (c.t.d.fact 160 (f := .exm "InvalidReading" "InvalidNumber" false) rfl) | 8, _ => He.exm_ok (c.t.d.fact 174 (f := .exm "InvalidRun" "InvalidNumber" false) rfl) | 9, _ => He.exm_ok (c.t.d.fact 188 (f := .exm "InvalidPlaces" "InvalidNumber" false) rfl) | 10, _ => He.exm_ok (c.t.d.fact 202 (f := .exm "InvalidQuestion" "InvalidNumber" false) rfl) | 11, _ => He.exm_ok (c.t.d.fact 216 (f := .exm "InvalidClaim" "InvalidNumber" false) rfl) | 12, _ => He.exm_ok (c.t.d.fact 230 (f := .exm "Undefined" "InvalidNumber" false) rfl) | 13, _ => He.exm_ok (c.t.d.fact 244 (f := .exm "NothingToUndo" "InvalidNumber" false) rfl) | _ + 14, h0 => absurd h0 (by show ¬ _ < 14; omega),
    x_InvalidRules := fun {Y} e1 e2 e3 e4 e5 hr => by
      subst e1 e2 e3 e4 e5
      obtain ⟨fd, F⟩ := c.t.d.def_ 16 rfl
      exact ⟨by show 2 < 14; decide, oexB_ok o_InvalidRules, _, in_InvalidRules, ty_InvalidRules, 1, fd, ["self", "value"], err_ok F ⟨rfl, rfl, rfl, by decide +kernel, rfl, by decide +kernel, by decide +kernel⟩ rfl (oexB_ok o_InvalidRules) no_InvalidRules (.inl rfl) (.inl rfl), hr.mono (by omega), FunD.bindsN F fun _ _ _ _ _ _ us hl => match us, hl with | [_, _], _ => rfl⟩,
    y_InvalidRules := fun c0 h0 => match c0, h0 with | 0, _ => He.exm_ok (c.t.d.fact 63 (f := .exm "GraftError" "InvalidRules" false) rfl) | 1, _ => He.exm_ok (c.t.d.fact 77 (f := .exm "InvalidNumber" "InvalidRules" false) rfl) | 2, _ => He.exm_ok (c.t.d.fact 91 (f := .exm "InvalidRules" "InvalidRules" true) rfl) | 3, _ => He.exm_ok (c.t.d.fact 105 (f := .exm "Endless" "InvalidRules" false) rfl) | 4, _ => He.exm_ok (c.t.d.fact 119 (f := .exm "InvalidRule" "InvalidRules" false) rfl) | 5, _ => He.exm_ok (c.t.d.fact 133 (f := .exm "InvalidTrees" "InvalidRules" false) rfl) | 6, _ => He.exm_ok (c.t.d.fact 147 (f := .exm "InvalidText" "InvalidRules" false) rfl) | 7, _ => He.exm_ok (c.t.d.fact 161 (f := .exm "InvalidReading" "InvalidRules" false) rfl) | 8, _ => He.exm_ok (c.t.d.fact 175 (f := .exm "InvalidRun" "InvalidRules" false) rfl) | 9, _ => He.exm_ok (c.t.d.fact 189 (f := .exm "InvalidPlaces" "InvalidRules" false) rfl) | 10, _ => He.exm_ok (c.t.d.fact 203 (f := .exm "InvalidQuestion" "InvalidRules" false) rfl) | 11, _ => He.exm_ok (c.t.d.fact 217 (f := .exm "InvalidClaim" "InvalidRules" false) rfl) | 12, _ => He.exm_ok (c.t.d.fact 231 (f := .exm "Undefined" "InvalidRules" false) rfl) | 13, _ => He.exm_ok (c.t.d.fact 245 (f := .exm "NothingToUndo" "InvalidRules" false) rfl) | _ + 14, h0 => absurd h0 (by show ¬ _ < 14; omega),
    x_Endless := fun {Y} e1 e2 e3 e4 e5 hr => by
      subst e1 e2 e3 e4 e5
      obtain ⟨fd, F⟩ := c.t.d.def_ 17 rfl
      exact ⟨by show 3 < 14; decide, oexB_ok o_Endless, _, in_Endless, ty_Endless, 1, fd, ["self", "kind"], err_ok F ⟨rfl, rfl, rfl, by decide +kernel, rfl, by decide +kernel, by decide +kernel⟩ rfl (oexB_ok o_Endless) no_Endless (.inl rfl) (.inl rfl), hr.mono (by omega), FunD.bindsN F fun _ _ _ _ _ _ us hl => match us, hl with | [_, _], _ => rfl⟩,
    y_Endless := fun c0 h0 => match c0, h0 with | 0, _ => He.exm_ok (c.t.d.fact 64 (f := .exm "GraftError" "Endless" false) rfl) | 1, _ => He.exm_ok (c.t.d.fact 78 (f := .exm "InvalidNumber" "Endless" false) rfl) | 2, _ => He.exm_ok (c.t.d.fact 92 (f := .exm "InvalidRules" "Endless" false) rfl) | 3, _ => He.exm_ok (c.t.d.fact 106 (f := .exm "Endless" "Endless" true) rfl) | 4, _ => He.exm_ok (c.t.d.fact 120 (f := .exm "InvalidRule" "Endless" false) rfl) | 5, _ => He.exm_ok (c.t.d.fact 134 (f := .exm "InvalidTrees" "Endless" false) rfl) | 6, _ => He.exm_ok (c.t.d.fact 148 (f := .exm "InvalidText" "Endless" false) rfl) | 7, _ => He.exm_ok (c.t.d.fact 162 (f := .exm "InvalidReading" "Endless" false) rfl) | 8, _ => He.exm_ok (c.t.d.fact 176 (f := .exm "InvalidRun" "Endless" false) rfl) | 9, _ => He.exm_ok (c.t.d.fact 190 (f := .exm "InvalidPlaces" "Endless" false) rfl) | 10, _ => He.exm_ok (c.t.d.fact 204 (f := .exm "InvalidQuestion" "Endless" false) rfl) | 11, _ => He.exm_ok (c.t.d.fact 218 (f := .exm "InvalidClaim" "Endless" false) rfl) | 12, _ => He.exm_ok (c.t.d.fact 232 (f := .exm "Undefined" "Endless" false) rfl) | 13, _ => He.exm_ok (c.t.d.fact 246 (f := .exm "NothingToUndo" "Endless" false) rfl) | _ + 14, h0 => absurd h0 (by show ¬ _ < 14; omega),
    x_InvalidRule := fun {Y} e1 e2 e3 e4 e5 hr => by
      subst e1 e2 e3 e4 e5
      obtain ⟨fd, F⟩ := c.t.d.def_ 18 rfl
      exact ⟨by show 4 < 14; decide, oexB_ok o_InvalidRule, _, in_InvalidRule, ty_InvalidRule, 1, fd, ["self", "value"], err_ok F ⟨rfl, rfl, rfl, by decide +kernel, rfl, by decide +kernel, by decide +kernel⟩ rfl (oexB_ok o_InvalidRule) no_InvalidRule (.inl rfl) (.inl rfl), hr.mono (by omega), FunD.bindsN F fun _ _ _ _ _ _ us hl => match us, hl with | [_, _], _ => rfl⟩,
    y_InvalidRule := fun c0 h0 => match c0, h0 with | 0, _ => He.exm_ok (c.t.d.fact 65 (f := .exm "GraftError" "InvalidRule" false) rfl) | 1, _ => He.exm_ok (c.t.d.fact 79 (f := .exm "InvalidNumber" "InvalidRule" false) rfl) | 2, _ => He.exm_ok (c.t.d.fact 93 (f := .exm "InvalidRules" "InvalidRule" false) rfl) | 3, _ => He.exm_ok (c.t.d.fact 107 (f := .exm "Endless" "InvalidRule" false) rfl) | 4, _ => He.exm_ok (c.t.d.fact 121 (f := .exm "InvalidRule" "InvalidRule" true) rfl) | 5, _ => He.exm_ok (c.t.d.fact 135 (f := .exm "InvalidTrees" "InvalidRule" false) rfl) | 6, _ => He.exm_ok (c.t.d.fact 149 (f := .exm "InvalidText" "InvalidRule" false) rfl) | 7, _ => He.exm_ok (c.t.d.fact 163 (f := .exm "InvalidReading" "InvalidRule" false) rfl) | 8, _ => He.exm_ok (c.t.d.fact 177 (f := .exm "InvalidRun" "InvalidRule" false) rfl) | 9, _ => He.exm_ok (c.t.d.fact 191 (f := .exm "InvalidPlaces" "InvalidRule" false) rfl) | 10, _ => He.exm_ok (c.t.d.fact 205 (f := .exm "InvalidQuestion" "InvalidRule" false) rfl) | 11, _ => He.exm_ok (c.t.d.fact 219 (f := .exm "InvalidClaim" "InvalidRule" false) rfl) | 12, _ => He.exm_ok (c.t.d.fact 233 (f := .exm "Undefined" "InvalidRule" false) rfl) | 13, _ => He.exm_ok (c.t.d.fact 247 (f := .exm "NothingToUndo" "InvalidRule" false) rfl) | _ + 14, h0 => absurd h0 (by show ¬ _ < 14; omega),
    x_InvalidTrees := fun {Y} e1 e2 e3 e4 e5 hr => by
      subst e1 e2 e3 e4 e5
      obtain ⟨fd, F⟩ := c.t.d.def_ 19 rfl
      exact ⟨by show 5 < 14; decide, oexB_ok o_InvalidTrees, _, in_InvalidTrees, ty_InvalidTrees, 1, fd, ["self", "value"], err_ok F ⟨rfl, rfl, rfl, by decide +kernel, rfl, by decide +kernel, by decide +kernel⟩ rfl (oexB_ok o_InvalidTrees) no_InvalidTrees (.inl rfl) (.inl rfl), hr.mono (by omega), FunD.bindsN F fun _ _ _ _ _ _ us hl => match us, hl with | [_, _], _ => rfl⟩,
    y_InvalidTrees := fun c0 h0 => match c0, h0 with | 0, _ => He.exm_ok (c.t.d.fact 66 (f := .exm "GraftError" "InvalidTrees" false) rfl) | 1, _ => He.exm_ok (c.t.d.fact 80 (f := .exm "InvalidNumber" "InvalidTrees" false) rfl) | 2, _ => He.exm_ok (c.t.d.fact 94 (f := .exm "InvalidRules" "InvalidTrees" false) rfl) | 3, _ => He.exm_ok (c.t.d.fact 108 (f := .exm "Endless" "InvalidTrees" false) rfl) | 4, _ => He.exm_ok (c.t.d.fact 122 (f := .exm "InvalidRule" "InvalidTrees" false) rfl) | 5, _ => He.exm_ok (c.t.d.fact 136 (f := .exm "InvalidTrees" "InvalidTrees" true) rfl) | 6, _ => He.exm_ok (c.t.d.fact 150 (f := .exm "InvalidText" "InvalidTrees" false) rfl) | 7, _ => He.exm_ok (c.t.d.fact 164 (f := .exm "InvalidReading" "InvalidTrees" false) rfl) | 8, _ => He.exm_ok (c.t.d.fact 178 (f := .exm "InvalidRun" "InvalidTrees" false) rfl) | 9, _ => He.exm_ok (c.t.d.fact 192 (f := .exm "InvalidPlaces" "InvalidTrees" false) rfl) | 10, _ => He.exm_ok (c.t.d.fact 206 (f := .exm "InvalidQuestion" "InvalidTrees" false) rfl) | 11, _ => He.exm_ok (c.t.d.fact 220 (f := .exm "InvalidClaim" "InvalidTrees" false) rfl) | 12, _ => He.exm_ok (c.t.d.fact 234 (f := .exm "Undefined" "InvalidTrees" false) rfl) | 13, _ => He.exm_ok (c.t.d.fact 248 (f := .exm "NothingToUndo" "InvalidTrees" false) rfl) | _ + 14, h0 => absurd h0 (by show ¬ _ < 14; omega),
    x_InvalidText := fun {Y} e1 e2 e3 e4 e5 hr => by
      subst e1 e2 e3 e4 e5
      obtain ⟨fd, F⟩ := c.t.d.def_ 20 rfl
      exact ⟨by show 6 < 14; decide, oexB_ok o_InvalidText, _, in_InvalidText, ty_InvalidText, 1, fd, ["self", "value"], err_ok F ⟨rfl, rfl, rfl, by decide +kernel, rfl, by decide +kernel, by decide +kernel⟩ rfl (oexB_ok o_InvalidText) no_InvalidText (.inl rfl) (.inl rfl), hr.mono (by omega), FunD.bindsN F fun _ _ _ _ _ _ us hl => match us, hl with | [_, _], _ => rfl⟩,
    y_InvalidText := fun c0 h0 => match c0, h0 with | 0, _ => He.exm_ok (c.t.d.fact 67 (f := .exm "GraftError" "InvalidText" false) rfl) | 1, _ => He.exm_ok (c.t.d.fact 81 (f := .exm "InvalidNumber" "InvalidText" false) rfl) | 2, _ => He.exm_ok (c.t.d.fact 95 (f := .exm "InvalidRules" "InvalidText" false) rfl) | 3, _ => He.exm_ok (c.t.d.fact 109 (f := .exm "Endless" "InvalidText" false) rfl) | 4, _ => He.exm_ok (c.t.d.fact 123 (f := .exm "InvalidRule" "InvalidText" false) rfl) | 5, _ => He.exm_ok (c.t.d.fact 137 (f := .exm "InvalidTrees" "InvalidText" false) rfl) | 6, _ => He.exm_ok (c.t.d.fact 151 (f := .exm "InvalidText" "InvalidText" true) rfl) | 7, _ => He.exm_ok (c.t.d.fact 165 (f := .exm "InvalidReading" "InvalidText" false) rfl) | 8, _ => He.exm_ok (c.t.d.fact 179 (f := .exm "InvalidRun" "InvalidText" false) rfl) | 9, _ => He.exm_ok (c.t.d.fact 193 (f := .exm "InvalidPlaces" "InvalidText" false) rfl) | 10, _ => He.exm_ok (c.t.d.fact 207 (f := .exm "InvalidQuestion" "InvalidText" false) rfl) | 11, _ => He.exm_ok (c.t.d.fact 221 (f := .exm "InvalidClaim" "InvalidText" false) rfl) | 12, _ => He.exm_ok (c.t.d.fact 235 (f := .exm "Undefined" "InvalidText" false) rfl) | 13, _ => He.exm_ok (c.t.d.fact 249 (f := .exm "NothingToUndo" "InvalidText" false) rfl) | _ + 14, h0 => absurd h0 (by show ¬ _ < 14; omega),
    x_InvalidReading := fun {Y} e1 e2 e3 e4 e5 hr => by
      subst e1 e2 e3 e4 e5
      obtain ⟨fd, F⟩ := c.t.d.def_ 21 rfl
      exact ⟨by show 7 < 14; decide, oexB_ok o_InvalidReading, _, in_InvalidReading, ty_InvalidReading, 1, fd, ["self", "value"], err_ok F ⟨rfl, rfl, rfl, by decide +kernel, rfl, by decide +kernel, by decide +kernel⟩ rfl (oexB_ok o_InvalidReading) no_InvalidReading (.inl rfl) (.inl rfl), hr.mono (by omega), FunD.bindsN F fun _ _ _ _ _ _ us hl => match us, hl with | [_, _], _ => rfl⟩,
    y_InvalidReading := fun c0 h0 => match c0, h0 with | 0, _ => He.exm_ok (c.t.d.fact 68 (f := .exm "GraftError" "InvalidReading" false) rfl) | 1, _ => He.exm_ok (c.t.d.fact 82 (f := .exm "InvalidNumber" "InvalidReading" false) rfl) | 2, _ => He.exm_ok (c.t.d.fact 96 (f := .exm "InvalidRules" "InvalidReading" false) rfl) | 3, _ => He.exm_ok (c.t.d.fact 110 (f := .exm "Endless" "InvalidReading" false) rfl) | 4, _ => He.exm_ok (c.t.d.fact 124 (f := .exm "InvalidRule" "InvalidReading" false) rfl) | 5, _ => He.exm_ok (c.t.d.fact 138 (f := .exm "InvalidTrees" "InvalidReading" false) rfl) | 6, _ => He.exm_ok (c.t.d.fact 152 (f := .exm "InvalidText" "InvalidReading" false) rfl) | 7, _ => He.exm_ok (c.t.d.fact 166 (f := .exm "InvalidReading" "InvalidReading" true) rfl) | 8, _ => He.exm_ok (c.t.d.fact 180 (f := .exm "InvalidRun" "InvalidReading" false) rfl) | 9, _ => He.exm_ok (c.t.d.fact 194 (f := .exm "InvalidPlaces" "InvalidReading" false) rfl) | 10, _ => He.exm_ok (c.t.d.fact 208 (f := .exm "InvalidQuestion" "InvalidReading" false) rfl) | 11, _ => He.exm_ok (c.t.d.fact 222 (f := .exm "InvalidClaim" "InvalidReading" false) rfl) | 12, _ => He.exm_ok (c.t.d.fact 236 (f := .exm "Undefined" "InvalidReading" false) rfl) | 13, _ => He.exm_ok (c.t.d.fact 250 (f := .exm "NothingToUndo" "InvalidReading" false) rfl) | _ + 14, h0 => absurd h0 (by show ¬ _ < 14; omega),
    x_InvalidRun := fun {Y} e1 e2 e3 e4 e5 hr => by
      subst e1 e2 e3 e4 e5
      obtain ⟨fd, F⟩ := c.t.d.def_ 22 rfl
      exact ⟨by show 8 < 14; decide, oexB_ok o_InvalidRun, _, in_InvalidRun, ty_InvalidRun, 1, fd, ["self", "value"], err_ok F ⟨rfl, rfl, rfl, by decide +kernel, rfl, by decide +kernel, by decide +kernel⟩ rfl (oexB_ok o_InvalidRun) no_InvalidRun (.inl rfl) (.inl rfl), hr.mono (by omega), FunD.bindsN F fun _ _ _ _ _ _ us hl => match us, hl with | [_, _], _ => rfl⟩,
    y_InvalidRun := fun c0 h0 => match c0, h0 with | 0, _ => He.exm_ok (c.t.d.fact 69 (f := .exm "GraftError" "InvalidRun" false) rfl) | 1, _ => He.exm_ok (c.t.d.fact 83 (f := .exm "InvalidNumber" "InvalidRun" false) rfl) | 2, _ => He.exm_ok (c.t.d.fact 97 (f := .exm "InvalidRules" "InvalidRun" false) rfl) | 3, _ => He.exm_ok (c.t.d.fact 111 (f := .exm "Endless" "InvalidRun" false) rfl) | 4, _ => He.exm_ok (c.t.d.fact 125 (f := .exm "InvalidRule" "InvalidRun" false) rfl) | 5, _ => He.exm_ok (c.t.d.fact 139 (f := .exm "InvalidTrees" "InvalidRun" false) rfl) | 6, _ => He.exm_ok (c.t.d.fact 153 (f := .exm "InvalidText" "InvalidRun" false) rfl) | 7, _ => He.exm_ok (c.t.d.fact 167 (f := .exm "InvalidReading" "InvalidRun" false) rfl) | 8, _ => He.exm_ok (c.t.d.fact 181 (f := .exm "InvalidRun" "InvalidRun" true) rfl) | 9, _ => He.exm_ok (c.t.d.fact 195 (f := .exm "InvalidPlaces" "InvalidRun" false) rfl) | 10, _ => He.exm_ok (c.t.d.fact 209 (f := .exm "InvalidQuestion" "InvalidRun" false) rfl) | 11, _ => He.exm_ok (c.t.d.fact 223 (f := .exm "InvalidClaim" "InvalidRun" false) rfl) | 12, _ => He.exm_ok (c.t.d.fact 237 (f := .exm "Undefined" "InvalidRun" false) rfl) | 13, _ => He.exm_ok (c.t.d.fact 251 (f := .exm "NothingToUndo" "InvalidRun" false) rfl) | _ + 14, h0 => absurd h0 (by show ¬ _ < 14; omega),
    x_InvalidPlaces := fun {Y} e1 e2 e3 e4 e5 hr => by
      subst e1 e2 e3 e4 e5
      obtain ⟨fd, F⟩ := c.t.d.def_ 23 rfl
      exact ⟨by show 9 < 14; decide, oexB_ok o_InvalidPlaces, _, in_InvalidPlaces, ty_InvalidPlaces, 1, fd, ["self", "value"], err_ok F ⟨rfl, rfl, rfl, by decide +kernel, rfl, by decide +kernel, by decide +kernel⟩ rfl (oexB_ok o_InvalidPlaces) no_InvalidPlaces (.inl rfl) (.inl rfl), hr.mono (by omega), FunD.bindsN F fun _ _ _ _ _ _ us hl => match us, hl with | [_, _], _ => rfl⟩,
    y_InvalidPlaces := fun c0 h0 => match c0, h0 with | 0, _ => He.exm_ok (c.t.d.fact 70 (f := .exm "GraftError" "InvalidPlaces" false) rfl) | 1, _ => He.exm_ok (c.t.d.fact 84 (f := .exm "InvalidNumber" "InvalidPlaces" false) rfl) | 2, _ => He.exm_ok (c.t.d.fact 98 (f := .exm "InvalidRules" "InvalidPlaces" false) rfl) | 3, _ => He.exm_ok (c.t.d.fact 112 (f := .exm "Endless" "InvalidPlaces" false) rfl) | 4, _ => He.exm_ok (c.t.d.fact 126 (f := .exm "InvalidRule" "InvalidPlaces" false) rfl) | 5, _ => He.exm_ok (c.t.d.fact 140 (f := .exm "InvalidTrees" "InvalidPlaces" false) rfl) | 6, _ => He.exm_ok (c.t.d.fact 154 (f := .exm "InvalidText" "InvalidPlaces" false) rfl) | 7, _ => He.exm_ok (c.t.d.fact 168 (f := .exm "InvalidReading" "InvalidPlaces" false) rfl) | 8, _ => He.exm_ok (c.t.d.fact 182 (f := .exm "InvalidRun" "InvalidPlaces" false) rfl) | 9, _ => He.exm_ok (c.t.d.fact 196 (f := .exm "InvalidPlaces" "InvalidPlaces" true) rfl) | 10, _ => He.exm_ok (c.t.d.fact 210 (f := .exm "InvalidQuestion" "InvalidPlaces" false) rfl) | 11, _ => He.exm_ok (c.t.d.fact 224 (f := .exm "InvalidClaim" "InvalidPlaces" false) rfl) | 12, _ => He.exm_ok (c.t.d.fact 238 (f := .exm "Undefined" "InvalidPlaces" false) rfl) | 13, _ => He.exm_ok (c.t.d.fact 252 (f := .exm "NothingToUndo" "InvalidPlaces" false) rfl) | _ + 14, h0 => absurd h0 (by show ¬ _ < 14; omega),
    x_InvalidQuestion := fun {Y} e1 e2 e3 e4 e5 hr => by
      subst e1 e2 e3 e4 e5
      obtain ⟨fd, F⟩ := c.t.d.def_ 24 rfl
      exact ⟨by show 10 < 14; decide, oexB_ok o_InvalidQuestion, _, in_InvalidQuestion, ty_InvalidQuestion, 1, fd, ["self", "value"], err_ok F ⟨rfl, rfl, rfl, by decide +kernel, rfl, by decide +kernel, by decide +kernel⟩ rfl (oexB_ok o_InvalidQuestion) no_InvalidQuestion (.inl rfl) (.inl rfl), hr.mono (by omega), FunD.bindsN F fun _ _ _ _ _ _ us hl => match us, hl with | [_, _], _ => rfl⟩,
    y_InvalidQuestion := fun c0 h0 => match c0, h0 with | 0, _ => He.exm_ok (c.t.d.fact 71 (f := .exm "GraftError" "InvalidQuestion" false) rfl) | 1, _ => He.exm_ok (c.t.d.fact 85 (f := .exm "InvalidNumber" "InvalidQuestion" false) rfl) | 2, _ => He.exm_ok (c.t.d.fact 99 (f := .exm "InvalidRules" "InvalidQuestion" false) rfl) | 3, _ => He.exm_ok (c.t.d.fact 113 (f := .exm "Endless" "InvalidQuestion" false) rfl) | 4, _ => He.exm_ok (c.t.d.fact 127 (f := .exm "InvalidRule" "InvalidQuestion" false) rfl) | 5, _ => He.exm_ok (c.t.d.fact 141 (f := .exm "InvalidTrees" "InvalidQuestion" false) rfl) | 6, _ => He.exm_ok (c.t.d.fact 155 (f := .exm "InvalidText" "InvalidQuestion" false) rfl) | 7, _ => He.exm_ok (c.t.d.fact 169 (f := .exm "InvalidReading" "InvalidQuestion" false) rfl) | 8, _ => He.exm_ok (c.t.d.fact 183 (f := .exm "InvalidRun" "InvalidQuestion" false) rfl) | 9, _ => He.exm_ok (c.t.d.fact 197 (f := .exm "InvalidPlaces" "InvalidQuestion" false) rfl) | 10, _ => He.exm_ok (c.t.d.fact 211 (f := .exm "InvalidQuestion" "InvalidQuestion" true) rfl) | 11, _ => He.exm_ok (c.t.d.fact 225 (f := .exm "InvalidClaim" "InvalidQuestion" false) rfl) | 12, _ => He.exm_ok (c.t.d.fact 239 (f := .exm "Undefined" "InvalidQuestion" false) rfl) | 13, _ => He.exm_ok (c.t.d.fact 253 (f := .exm "NothingToUndo" "InvalidQuestion" false) rfl) | _ + 14, h0 => absurd h0 (by show ¬ _ < 14; omega),
    x_InvalidClaim := fun {Y} e1 e2 e3 e4 e5 hr => by
      subst e1 e2 e3 e4 e5
      obtain ⟨fd, F⟩ := c.t.d.def_ 25 rfl
      exact ⟨by show 11 < 14; decide, oexB_ok o_InvalidClaim, _, in_InvalidClaim, ty_InvalidClaim, 1, fd, ["self", "value"], err_ok F ⟨rfl, rfl, rfl, by decide +kernel, rfl, by decide +kernel, by decide +kernel⟩ rfl (oexB_ok o_InvalidClaim) no_InvalidClaim (.inl rfl) (.inl rfl), hr.mono (by omega), FunD.bindsN F fun _ _ _ _ _ _ us hl => match us, hl with | [_, _], _ => rfl⟩,
    y_InvalidClaim := fun c0 h0 => match c0, h0 with | 0, _ => He.exm_ok (c.t.d.fact 72 (f := .exm "GraftError" "InvalidClaim" false) rfl) | 1, _ => He.exm_ok (c.t.d.fact 86 (f := .exm "InvalidNumber" "InvalidClaim" false) rfl) | 2, _ => He.exm_ok (c.t.d.fact 100 (f := .exm "InvalidRules" "InvalidClaim" false) rfl) | 3, _ => He.exm_ok (c.t.d.fact 114 (f := .exm "Endless" "InvalidClaim" false) rfl) | 4, _ => He.exm_ok (c.t.d.fact 128 (f := .exm "InvalidRule" "InvalidClaim" false) rfl) | 5, _ => He.exm_ok (c.t.d.fact 142 (f := .exm "InvalidTrees" "InvalidClaim" false) rfl) | 6, _ => He.exm_ok (c.t.d.fact 156 (f := .exm "InvalidText" "InvalidClaim" false) rfl) | 7, _ => He.exm_ok (c.t.d.fact 170 (f := .exm "InvalidReading" "InvalidClaim" false) rfl) | 8, _ => He.exm_ok (c.t.d.fact 184 (f := .exm "InvalidRun" "InvalidClaim" false) rfl) | 9, _ => He.exm_ok (c.t.d.fact 198 (f := .exm "InvalidPlaces" "InvalidClaim" false) rfl) | 10, _ => He.exm_ok (c.t.d.fact 212 (f := .exm "InvalidQuestion" "InvalidClaim" false) rfl) | 11, _ => He.exm_ok (c.t.d.fact 226 (f := .exm "InvalidClaim" "InvalidClaim" true) rfl) | 12, _ => He.exm_ok (c.t.d.fact 240 (f := .exm "Undefined" "InvalidClaim" false) rfl) | 13, _ => He.exm_ok (c.t.d.fact 254 (f := .exm "NothingToUndo" "InvalidClaim" false) rfl) | _ + 14, h0 => absurd h0 (by show ¬ _ < 14; omega),
    x_Undefined := fun {Y} e1 e2 e3 e4 e5 hr => by
      subst e1 e2 e3 e4 e5
      obtain ⟨fd, F⟩ := c.t.d.def_ 26 rfl
      exact ⟨by show 12 < 14; decide, oexB_ok o_Undefined, _, in_Undefined, ty_Undefined, 1, fd, ["self", "what"], err_ok F ⟨rfl, rfl, rfl, by decide +kernel, rfl, by decide +kernel, by decide +kernel⟩ rfl (oexB_ok o_Undefined) no_Undefined (.inl rfl) (.inl rfl), hr.mono (by omega), FunD.bindsN F fun _ _ _ _ _ _ us hl => match us, hl with | [_, _], _ => rfl⟩,
    y_Undefined := fun c0 h0 => match c0, h0 with | 0, _ => He.exm_ok (c.t.d.fact 73 (f := .exm "GraftError" "Undefined" false) rfl) | 1, _ => He.exm_ok (c.t.d.fact 87 (f := .exm "InvalidNumber" "Undefined" false) rfl) | 2, _ => He.exm_ok (c.t.d.fact 101 (f := .exm "InvalidRules" "Undefined" false) rfl) | 3, _ => He.exm_ok (c.t.d.fact 115 (f := .exm "Endless" "Undefined" false) rfl) | 4, _ => He.exm_ok (c.t.d.fact 129 (f := .exm "InvalidRule" "Undefined" false) rfl) | 5, _ => He.exm_ok (c.t.d.fact 143 (f := .exm "InvalidTrees" "Undefined" false) rfl) | 6, _ => He.exm_ok (c.t.d.fact 157 (f := .exm "InvalidText" "Undefined" false) rfl) | 7, _ => He.exm_ok (c.t.d.fact 171 (f := .exm "InvalidReading" "Undefined" false) rfl) | 8, _ => He.exm_ok (c.t.d.fact 185 (f := .exm "InvalidRun" "Undefined" false) rfl) | 9, _ => He.exm_ok (c.t.d.fact 199 (f := .exm "InvalidPlaces" "Undefined" false) rfl) | 10, _ => He.exm_ok (c.t.d.fact 213 (f := .exm "InvalidQuestion" "Undefined" false) rfl) | 11, _ => He.exm_ok (c.t.d.fact 227 (f := .exm "InvalidClaim" "Undefined" false) rfl) | 12, _ => He.exm_ok (c.t.d.fact 241 (f := .exm "Undefined" "Undefined" true) rfl) | 13, _ => He.exm_ok (c.t.d.fact 255 (f := .exm "NothingToUndo" "Undefined" false) rfl) | _ + 14, h0 => absurd h0 (by show ¬ _ < 14; omega),
    x_NothingToUndo := fun {Y} e1 e2 e3 e4 e5 hr => by
      subst e1 e2 e3 e4 e5
      obtain ⟨fd, F⟩ := c.t.d.def_ 27 rfl
      exact ⟨by show 13 < 14; decide, oexB_ok o_NothingToUndo, _, in_NothingToUndo, ty_NothingToUndo, 1, fd, ["self", "word"], err_ok F ⟨rfl, rfl, rfl, by decide +kernel, rfl, by decide +kernel, by decide +kernel⟩ rfl (oexB_ok o_NothingToUndo) no_NothingToUndo (.inl rfl) (.inl rfl), hr.mono (by omega), FunD.bindsN F fun _ _ _ _ _ _ us hl => match us, hl with | [_, _], _ => rfl⟩,
    y_NothingToUndo := fun c0 h0 => match c0, h0 with | 0, _ => He.exm_ok (c.t.d.fact 74 (f := .exm "GraftError" "NothingToUndo" false) rfl) | 1, _ => He.exm_ok (c.t.d.fact 88 (f := .exm "InvalidNumber" "NothingToUndo" false) rfl) | 2, _ => He.exm_ok (c.t.d.fact 102 (f := .exm "InvalidRules" "NothingToUndo" false) rfl) | 3, _ => He.exm_ok (c.t.d.fact 116 (f := .exm "Endless" "NothingToUndo" false) rfl) | 4, _ => He.exm_ok (c.t.d.fact 130 (f := .exm "InvalidRule" "NothingToUndo" false) rfl) | 5, _ => He.exm_ok (c.t.d.fact 144 (f := .exm "InvalidTrees" "NothingToUndo" false) rfl) | 6, _ => He.exm_ok (c.t.d.fact 158 (f := .exm "InvalidText" "NothingToUndo" false) rfl) | 7, _ => He.exm_ok (c.t.d.fact 172 (f := .exm "InvalidReading" "NothingToUndo" false) rfl) | 8, _ => He.exm_ok (c.t.d.fact 186 (f := .exm "InvalidRun" "NothingToUndo" false) rfl) | 9, _ => He.exm_ok (c.t.d.fact 200 (f := .exm "InvalidPlaces" "NothingToUndo" false) rfl) | 10, _ => He.exm_ok (c.t.d.fact 214 (f := .exm "InvalidQuestion" "NothingToUndo" false) rfl) | 11, _ => He.exm_ok (c.t.d.fact 228 (f := .exm "InvalidClaim" "NothingToUndo" false) rfl) | 12, _ => He.exm_ok (c.t.d.fact 242 (f := .exm "Undefined" "NothingToUndo" false) rfl) | 13, _ => He.exm_ok (c.t.d.fact 256 (f := .exm "NothingToUndo" "NothingToUndo" true) rfl) | _ + 14, h0 => absurd h0 (by show ¬ _ < 14; omega),
    ki_Endless := fun c0 h0 => ⟨excAllB_ok z16 c0 h0, kiB_ok z17 c0 h0⟩,
    ki_GraftError := fun c0 h0 => ⟨excAllB_ok z16 c0 h0, kiB_ok z18 c0 h0⟩,
    ki_InvalidClaim := fun c0 h0 => ⟨excAllB_ok z16 c0 h0, kiB_ok z19 c0 h0⟩,
    ki_InvalidNumber := fun c0 h0 => ⟨excAllB_ok z16 c0 h0, kiB_ok z20 c0 h0⟩,
    ki_InvalidPlaces := fun c0 h0 => ⟨excAllB_ok z16 c0 h0, kiB_ok z21 c0 h0⟩,
    ki_InvalidQuestion := fun c0 h0 => ⟨excAllB_ok z16 c0 h0, kiB_ok z22 c0 h0⟩,
    ki_InvalidReading := fun c0 h0 => ⟨excAllB_ok z16 c0 h0, kiB_ok z23 c0 h0⟩,
    ki_InvalidRule := fun c0 h0 => ⟨excAllB_ok z16 c0 h0, kiB_ok z24 c0 h0⟩,
    ki_InvalidRules := fun c0 h0 => ⟨excAllB_ok z16 c0 h0, kiB_ok z25 c0 h0⟩,
    ki_InvalidRun := fun c0 h0 => ⟨excAllB_ok z16 c0 h0, kiB_ok z26 c0 h0⟩,
    ki_InvalidText := fun c0 h0 => ⟨excAllB_ok z16 c0 h0, kiB_ok z27 c0 h0⟩,
    ki_InvalidTrees := fun c0 h0 => ⟨excAllB_ok z16 c0 h0, kiB_ok z28 c0 h0⟩,
    ki_NothingToUndo := fun c0 h0 => ⟨excAllB_ok z16 c0 h0, kiB_ok z29 c0 h0⟩,
    ki_Undefined := fun c0 h0 => ⟨excAllB_ok z16 c0 h0, kiB_ok z30 c0 h0⟩,
    ki_ValueError := fun c0 h0 => ⟨excAllB_ok z16 c0 h0, kiB_ok z31 c0 h0⟩,
    xf_kind := fun c0 h0 => match c0, h0 with | 0, _ => fun hc => absurd hc (by decide) | 1, _ => fun hc => absurd hc (by decide) | 2, _ => fun hc => absurd hc (by decide) | 3, _ => fun _ => ⟨rfl, xfB_ok xf_Endless, no_Endless⟩ | 4, _ => fun hc => absurd hc (by decide) | 5, _ => fun hc => absurd hc (by decide) | 6, _ => fun hc => absurd hc (by decide) | 7, _ => fun hc => absurd hc (by decide) | 8, _ => fun hc => absurd hc (by decide) | 9, _ => fun hc => absurd hc (by decide) | 10, _ => fun hc => absurd hc (by decide) | 11, _ => fun hc => absurd hc (by decide) | 12, _ => fun hc => absurd hc (by decide) | 13, _ => fun hc => absurd hc (by decide) | _ + 14, h0 => absurd h0 (by show ¬ _ < 14; omega),
    xf_value := fun c0 h0 => match c0, h0 with | 0, _ => fun hc => absurd hc (by decide) | 1, _ => fun _ => ⟨rfl, xfB_ok xf_InvalidNumber, no_InvalidNumber⟩ | 2, _ => fun _ => ⟨rfl, xfB_ok xf_InvalidRules, no_InvalidRules⟩ | 3, _ => fun hc => absurd hc (by decide) | 4, _ => fun _ => ⟨rfl, xfB_ok xf_InvalidRule, no_InvalidRule⟩ | 5, _ => fun _ => ⟨rfl, xfB_ok xf_InvalidTrees, no_InvalidTrees⟩ | 6, _ => fun _ => ⟨rfl, xfB_ok xf_InvalidText, no_InvalidText⟩ | 7, _ => fun _ => ⟨rfl, xfB_ok xf_InvalidReading, no_InvalidReading⟩ | 8, _ => fun _ => ⟨rfl, xfB_ok xf_InvalidRun, no_InvalidRun⟩ | 9, _ => fun _ => ⟨rfl, xfB_ok xf_InvalidPlaces, no_InvalidPlaces⟩ | 10, _ => fun _ => ⟨rfl, xfB_ok xf_InvalidQuestion, no_InvalidQuestion⟩ | 11, _ => fun _ => ⟨rfl, xfB_ok xf_InvalidClaim, no_InvalidClaim⟩ | 12, _ => fun hc => absurd hc (by decide) | 13, _ => fun hc => absurd hc (by decide) | _ + 14, h0 => absurd h0 (by show ¬ _ < 14; omega),
    xf_what := fun c0 h0 => match c0, h0 with | 0, _ => fun hc => absurd hc (by decide) | 1, _ => fun hc => absurd hc (by decide) | 2, _ => fun hc => absurd hc (by decide) | 3, _ => fun hc => absurd hc (by decide) | 4, _ => fun hc => absurd hc (by decide) | 5, _ => fun hc => absurd hc (by decide) | 6, _ => fun hc => absurd hc (by decide) | 7, _ => fun hc => absurd hc (by decide) | 8, _ => fun hc => absurd hc (by decide) | 9, _ => fun hc => absurd hc (by decide) | 10, _ => fun hc => absurd hc (by decide) | 11, _ => fun hc => absurd hc (by decide) | 12, _ => fun _ => ⟨rfl, xfB_ok xf_Undefined, no_Undefined⟩ | 13, _ => fun hc => absurd hc (by decide) | _ + 14, h0 => absurd h0 (by show ¬ _ < 14; omega),
    xf_word := fun c0 h0 => match c0, h0 with | 0, _ => fun hc => absurd hc (by decide) | 1, _ => fun hc => absurd hc (by decide) | 2, _ => fun hc => absurd hc (by decide) | 3, _ => fun hc => absurd hc (by decide) | 4, _ => fun hc => absurd hc (by decide) | 5, _ => fun hc => absurd hc (by decide) | 6, _ => fun hc => absurd hc (by decide) | 7, _ => fun hc => absurd hc (by decide) | 8, _ => fun hc => absurd hc (by decide) | 9, _ => fun hc => absurd hc (by decide) | 10, _ => fun hc => absurd hc (by decide) | 11, _ => fun hc => absurd hc (by decide) | 12, _ => fun hc => absurd hc (by decide) | 13, _ => fun _ => ⟨rfl, xfB_ok xf_NothingToUndo, no_NothingToUndo⟩ | _ + 14, h0 => absurd h0 (by show ¬ _ < 14; omega) }
theorem ih_of (X : K.In h) (G : h.Ns mainGlobals mg) (c : He.SaysX faL fnL tsL [] exB w h K) : ∀ k, Ih prog w K mg base k
  | 0 => by
    obtain ⟨fd0, F0⟩ := c.t.d.def_ 0 rfl
    obtain ⟨fd1, F1⟩ := c.t.d.def_ 1 rfl
    obtain ⟨fd2, F2⟩ := c.t.d.def_ 2 rfl
    obtain ⟨fd3, F3⟩ := c.t.d.def_ 3 rfl
    obtain ⟨fd4, F4⟩ := c.t.d.def_ 4 rfl
    obtain ⟨fd5, F5⟩ := c.t.d.def_ 5 rfl
    obtain ⟨fd6, F6⟩ := c.t.d.def_ 6 rfl
    obtain ⟨fd7, F7⟩ := c.t.d.def_ 7 rfl
    obtain ⟨fd8, F8⟩ := c.t.d.def_ 8 rfl
    obtain ⟨fd9, F9⟩ := c.t.d.def_ 9 rfl
    obtain ⟨fd10, F10⟩ := c.t.d.def_ 10 rfl
    obtain ⟨fd11, F11⟩ := c.t.d.def_ 11 rfl
    obtain ⟨fd12, F12⟩ := c.t.d.def_ 12 rfl
    obtain ⟨fd13, F13⟩ := c.t.d.def_ 13 rfl
    obtain ⟨fd14, F14⟩ := c.t.d.def_ 14 rfl
    exact {
      h_is_integer := ⟨fd0, ["value"], fn_ok0, FunD.bindsN F0 fun _ _ _ _ _ _ us hl => match us, hl with | [_], _ => rfl⟩,
      h_is_integer_in := ⟨fd1, ["value", "least", "most"], fn_ok0, FunD.bindsN F1 fun _ _ _ _ _ _ us hl => match us, hl with | [_, _, _], _ => rfl⟩,
      h_is_word := ⟨fd2, ["value"], fn_ok0, FunD.bindsN F2 fun _ _ _ _ _ _ us hl => match us, hl with | [_], _ => rfl⟩,
      h_reached := ⟨fd3, ["leads", "start"], fn_ok0, FunD.bindsN F3 fun _ _ _ _ _ _ us hl => match us, hl with | [_, _], _ => rfl⟩,
      h_least_back := ⟨fd4, ["leads"], fn_ok0, FunD.bindsN F4 fun _ _ _ _ _ _ us hl => match us, hl with | [_], _ => rfl⟩,
      h_is_rule := ⟨fd5, ["value", "kinds"], fn_ok0, FunD.bindsN F5 fun _ _ _ _ _ _ us hl => match us, hl with | [_, _], _ => rfl⟩,
      h_single_steps := ⟨fd6, ["kinds", "rules"], fn_ok0, FunD.bindsN F6 fun _ _ _ _ _ _ us hl => match us, hl with | [_, _], _ => rfl⟩,
      h_Pairsx_initx := ⟨fd7, ["self", "kinds", "rules"], fn_ok0, FunD.bindsN F7 fun _ _ _ _ _ _ us hl => match us, hl with | [_, _, _], _ => rfl⟩,
      h_Pairsx_eqx := ⟨fd8, ["self", "other"], fn_ok0, FunD.bindsN F8 fun _ _ _ _ _ _ us hl => match us, hl with | [_, _], _ => rfl⟩,
      h__law_box := ⟨fd9, ["script", "k"], fn_ok0, FunD.bindsN F9 fun _ _ _ _ _ _ us hl => match us, hl with | [_, _], _ => rfl⟩,
      h__law_take := ⟨fd10, ["box", "many"], fn_ok0, FunD.bindsN F10 fun _ _ _ _ _ _ us hl => match us, hl with | [_, _], _ => rfl⟩,
      h__law_pick := ⟨fd11, ["box", "some"], fn_ok0, FunD.bindsN F11 fun _ _ _ _ _ _ us hl => match us, hl with | [_, _], _ => rfl⟩,
      h_law := ⟨fd12, ["script"], fn_ok0, FunD.bindsN F12 fun _ _ _ _ _ _ us hl => match us, hl with | [_], _ => rfl⟩,
      h__law_ones := ⟨fd13, ["v"], fn_ok0, FunD.bindsN F13 fun _ _ _ _ _ _ us hl => match us, hl with | [_], _ => rfl⟩,
      h__law_kinds := ⟨fd14, ["e"], fn_ok0, FunD.bindsN F14 fun _ _ _ _ _ _ us hl => match us, hl with | [_], _ => rfl⟩ }
  | k + 1 => by
    have F := fx_of (prog := prog) (base := base) X G c (ih_of X G c k)
    obtain ⟨fd0, F0⟩ := c.t.d.def_ 0 rfl
    obtain ⟨fd1, F1⟩ := c.t.d.def_ 1 rfl
    obtain ⟨fd2, F2⟩ := c.t.d.def_ 2 rfl
    obtain ⟨fd3, F3⟩ := c.t.d.def_ 3 rfl
    obtain ⟨fd4, F4⟩ := c.t.d.def_ 4 rfl
    obtain ⟨fd5, F5⟩ := c.t.d.def_ 5 rfl
    obtain ⟨fd6, F6⟩ := c.t.d.def_ 6 rfl
    obtain ⟨fd7, F7⟩ := c.t.d.def_ 7 rfl
    obtain ⟨fd8, F8⟩ := c.t.d.def_ 8 rfl
    obtain ⟨fd9, F9⟩ := c.t.d.def_ 9 rfl
    obtain ⟨fd10, F10⟩ := c.t.d.def_ 10 rfl
    obtain ⟨fd11, F11⟩ := c.t.d.def_ 11 rfl
    obtain ⟨fd12, F12⟩ := c.t.d.def_ 12 rfl
    obtain ⟨fd13, F13⟩ := c.t.d.def_ 13 rfl
    obtain ⟨fd14, F14⟩ := c.t.d.def_ 14 rfl
    exact {
      h_is_integer := ⟨fd0, ["value"], fn_ok (P := prg) (f := 0) rfl F0 sc_is_integer rfl rfl k (2 * k + 2) (fun cdv A outer s H E n0 hr => walk_is_integer F hr), FunD.bindsN F0 fun _ _ _ _ _ _ us hl => match us, hl with | [_], _ => rfl⟩,
      h_is_integer_in := ⟨fd1, ["value", "least", "most"], fn_ok (P := prg) (f := 1) rfl F1 sc_is_integer_in rfl rfl k (2 * k + 2) (fun cdv A outer s H E n0 hr => walk_is_integer_in F hr), FunD.bindsN F1 fun _ _ _ _ _ _ us hl => match us, hl with | [_, _, _], _ => rfl⟩,
      h_is_word := ⟨fd2, ["value"], fn_ok (P := prg) (f := 2) rfl F2 sc_is_word rfl rfl k (2 * k + 2) (fun cdv A outer s H E n0 hr => walk_is_word F hr), FunD.bindsN F2 fun _ _ _ _ _ _ us hl => match us, hl with | [_], _ => rfl⟩,
      h_reached := ⟨fd3, ["leads", "start"], fn_ok (P := prg) (f := 3) rfl F3 sc_reached rfl rfl k (2 * k + 2) (fun cdv A outer s H E n0 hr => walk_reached F hr), FunD.bindsN F3 fun _ _ _ _ _ _ us hl => match us, hl with | [_, _], _ => rfl⟩,
      h_least_back := ⟨fd4, ["leads"], fn_ok (P := prg) (f := 4) rfl F4 sc_least_back rfl rfl k (2 * k + 2) (fun cdv A outer s H E n0 hr => walk_least_back F hr), FunD.bindsN F4 fun _ _ _ _ _ _ us hl => match us, hl with | [_], _ => rfl⟩,
      h_is_rule := ⟨fd5, ["value", "kinds"], fn_ok (P := prg) (f := 5) rfl F5 sc_is_rule rfl rfl k (2 * k + 2) (fun cdv A outer s H E n0 hr => walk_is_rule F hr), FunD.bindsN F5 fun _ _ _ _ _ _ us hl => match us, hl with | [_, _], _ => rfl⟩,
      h_single_steps := ⟨fd6, ["kinds", "rules"], fn_ok (P := prg) (f := 6) rfl F6 sc_single_steps rfl rfl k (2 * k + 2) (fun cdv A outer s H E n0 hr => walk_single_steps F hr), FunD.bindsN F6 fun _ _ _ _ _ _ us hl => match us, hl with | [_, _], _ => rfl⟩,
      h_Pairsx_initx := ⟨fd7, ["self", "kinds", "rules"], fn_ok (P := prg) (f := 7) rfl F7 sc_Pairsx_initx rfl rfl k (2 * k + 2) (fun cdv A outer s H E n0 hr => walk_Pairsx_initx F hr), FunD.bindsN F7 fun _ _ _ _ _ _ us hl => match us, hl with | [_, _, _], _ => rfl⟩,
      h_Pairsx_eqx := ⟨fd8, ["self", "other"], fn_ok (P := prg) (f := 8) rfl F8 sc_Pairsx_eqx rfl rfl k (2 * k + 2) (fun cdv A outer s H E n0 hr => walk_Pairsx_eqx F hr), FunD.bindsN F8 fun _ _ _ _ _ _ us hl => match us, hl with | [_, _], _ => rfl⟩,
      h__law_box := ⟨fd9, ["script", "k"], fn_ok (P := prg) (f := 9) rfl F9 sc__law_box rfl rfl k (2 * k + 2) (fun cdv A outer s H E n0 hr => walk__law_box F hr), FunD.bindsN F9 fun _ _ _ _ _ _ us hl => match us, hl with | [_, _], _ => rfl⟩,
      h__law_take := ⟨fd10, ["box", "many"], fn_ok (P := prg) (f := 10) rfl F10 sc__law_take rfl rfl k (2 * k + 2) (fun cdv A outer s H E n0 hr => walk__law_take F hr), FunD.bindsN F10 fun _ _ _ _ _ _ us hl => match us, hl with | [_, _], _ => rfl⟩,
      h__law_pick := ⟨fd11, ["box", "some"], fn_ok (P := prg) (f := 11) rfl F11 sc__law_pick rfl rfl k (2 * k + 2) (fun cdv A outer s H E n0 hr => walk__law_pick F hr), FunD.bindsN F11 fun _ _ _ _ _ _ us hl => match us, hl with | [_, _], _ => rfl⟩,
      h_law := ⟨fd12, ["script"], fn_ok (P := prg) (f := 25) rfl F12 sc_law rfl rfl k (2 * k + 2) (fun cdv A outer s H E n0 hr => walk_law F hr), FunD.bindsN F12 fun _ _ _ _ _ _ us hl => match us, hl with | [_], _ => rfl⟩,
      h__law_ones := ⟨fd13, ["v"], fn_ok (P := prg) (f := 26) rfl F13 sc__law_ones rfl rfl k (2 * k + 2) (fun cdv A outer s H E n0 hr => walk__law_ones F hr), FunD.bindsN F13 fun _ _ _ _ _ _ us hl => match us, hl with | [_], _ => rfl⟩,
      h__law_kinds := ⟨fd14, ["e"], fn_ok (P := prg) (f := 27) rfl F14 sc__law_kinds rfl rfl k (2 * k + 2) (fun cdv A outer s H E n0 hr => walk__law_kinds F hr), FunD.bindsN F14 fun _ _ _ _ _ _ us hl => match us, hl with | [_], _ => rfl⟩ }
theorem law_fd (c : He.SaysX faL fnL tsL [] exB w h K) : ∃ fd, FunD K "law" "law" (defArgs (top 36)) (defBody (top 36)) (defScope (top 36)) [] [] (He.ga K "law") fd ∧ ∀ (s : Shared) (u : Value), BindsTo s fd ⟨[u], []⟩ [("script", u)] := by
  obtain ⟨fd, F⟩ := c.t.d.def_ 12 rfl
  have F2 : FunD K "law" "law" (defArgs (top 36)) (defBody (top 36)) (defScope (top 36)) [] [] (He.ga K "law") fd := F
  exact ⟨fd, F2, fun s u => FunD.bindsA (ps := ["script"]) F2 (fun _ _ _ _ _ _ us hl => match us, hl with | [_], _ => rfl) s [u] rfl⟩
theorem law_at (X : K.In h) (G : h.Ns mainGlobals mg) (c : He.SaysX faL fnL tsL [] exB w h K) {fd : FuncData} (FL : FunD K "law" "law" (defArgs (top 36)) (defBody (top 36)) (defScope (top 36)) [] [] (He.ga K "law") fd) :
    ∀ k, FnOk prog w K mg base (L2.CX prog w) (2 * k + 1) (He.ga K "law") fd ["script"] (spR (Dw K) (runFn prg k 25))
  | 0 => fn_ok0
  | k + 1 => fn_ok (P := prg) (f := 25) rfl FL sc_law rfl rfl k (2 * k + 2) (fun cdv A outer s H E n0 hr => walk_law (fx_of (prog := prog) (base := base) X G c (ih_of X G c k)) hr)
end
abbrev lw : PySem.W.OpenLaw := PySem.Challenge.rw_treestacks_k01_errors
abbrev rw_ : PySem.W.OpenRow := PySem.W.OpenLaw.row lw
abbrev hk : PySem.W.Hook := He.hookX 4 faL fnL tsL [] exB
def ob (s : PySem.W.SharedT) : He.AlX := He.obsX 4 faL fnL tsL [] exB (HandSHeadRun.getT s)
theorem ob_eq (s : PySem.W.SharedT) : ob s = hk.obs s.abs := He.obsX_eq (HandSHeadRun.getT_eq s)
def loose : List Str := (["GraftError", "InvalidNumber", "InvalidRules", "InvalidRule", "InvalidTrees", "InvalidText", "InvalidReading", "InvalidRun", "InvalidPlaces", "InvalidQuestion", "InvalidClaim", "Endless", "Undefined", "NothingToUndo", "LETTERS"] : List Str) ++ (["MOST_LETTERS", "is_integer", "is_integer_in", "is_word", "reached", "least_back", "MOST_KINDS", "MOST_RULES", "PARTS", "is_rule", "single_steps", "Pairs", "_law_box", "_law_take", "_law_pick"] : List Str) ++ (["_law_ones", "_law_kinds"] : List Str)
end LW
end
section
set_option maxRecDepth 100000
set_option maxHeartbeats 0
namespace LW
open PySem PySem.Spec PyProof.Rows L2 PS PySem.W PySem.Calls
theorem run_false (w : World) : HandSHeadRun.RunEq rw_ (PySem.W.view rw_.prog [36]) hk ob 40000 loose (w.withFollow "special-get-raises" false) := by
  intro os
  kernel_rfl
theorem run_true (w : World) : HandSHeadRun.RunEq rw_ (PySem.W.view rw_.prog [36]) hk ob 40000 loose (w.withFollow "special-get-raises" true) := by
  intro os
  kernel_rfl
theorem run (w : World) : HandSHeadRun.RunEq rw_ (PySem.W.view rw_.prog [36]) hk ob 40000 loose w := PySem.W.byRow2 "special-get-raises" (P := fun w => HandSHeadRun.RunEq rw_ (PySem.W.view rw_.prog [36]) hk ob 40000 loose w) run_false run_true w
abbrev vw : Program := PySem.W.view rw_.prog [36]
abbrev td : DefRec := HandSHeadRun.topDef rw_.prog 36
theorem a1 : opening rw_.prog = PySem.W.plainProg rw_.prog.main.scope.names := by kernel_rfl
theorem a2 (s : Shared) : fenceModules? rw_.prog s = some s := by kernel_rfl
theorem a3 : PySem.W.defOf vw rw_.name = some (td, []) := by kernel_rfl
theorem a4 : rw_.prog.theDef rw_.name = some (td.params, td.body, td.scope) := by kernel_rfl
theorem a5 : PySem.W.kwWritten? td.params.kwonlyargs td.params.kw_defaults = some [] := by kernel_rfl
theorem a6 : td.params.defaults = [] := by kernel_rfl
theorem a7 : td.name = ("law" : PySem.Str) := by kernel_rfl
theorem a8 : (PySem.W.chainsOk vw && PySem.W.opensWell rw_.prog && (PySem.W.frees rw_.toRowW && rw_.within.isEmpty)) = true := by decide +kernel
theorem walk_ {k : Nat} (hr : Room (2 * k + 1) callerA) (pure_ : ∀ ns : List Int, ns.length ≤ 63 → ∃ h', runFn prg k 25 [.lst (ns.map T.int)] [] = .ok (.bl true) h') :
    PySem.W.WalkO vw loose (PySem.W.XL vw []) hk.says rw_.toRowW td [] (fun f vs => PySem.call f vs) := by
  refine L2.walk_ofE (l := lw) (n := 63) (k := 2 * k + 1) (x := "script") (CX := L2.CX0) rfl (by decide) a6 hr ?F (fun _ _ _ _ z => z)
  intro w mg fa h Y G hmg0
  obtain ⟨K, KX, c⟩ := Y
  have hmg : mg ("law" : PySem.Str) = some (.ref fa) := by
    rw [← a7]
    exact hmg0
  obtain ⟨fdL, FL, bL⟩ := law_fd c
  have ga : fa = He.ga K "law" := by
    have g := He.glo_ok KX G (c.t.d.fact 20 (f := .glo "law") rfl)
    rw [hmg] at g
    injection g with g
    injection g
  subst ga
  refine ⟨K, fdL, fun vs H Q _ => spR (Dw K) (runFn prg k 25) vs H Q fun _ _ _ => False, KX, bL, fun H a ns hl hO hS => law_sp (exB_ok c.more).1 hO hS (pure_ ns hl), fun base hK hG => ?_⟩
  exact fn_cx0 (law_at (prog := lw.prog) (base := base) KX G c FL k)
theorem holds_of {k : Nat} (hr : Room (2 * k + 1) callerA) (pure_ : ∀ ns : List Int, ns.length ≤ 63 → ∃ h', runFn prg k 25 [.lst (ns.map T.int)] [] = .ok (.bl true) h') : PySem.Challenge.rw_treestacks_k01_errors.Holds := by
  w_on; o_law
  refine HandSHeadRun.head_any (r := rw_) (q := vw) (H := hk) (ob := ob) (M := 40000) (loose := loose) (d := td) (kwd := []) ob_eq
    a1 a2 run a3 a4 a5 (by rfl) (by first | assumption | decide +kernel) a8 ⟨rfl, rfl, rfl, rfl, rfl, by decide +kernel⟩ ?hw (walk_ hr pure_)
  case hw => w_witness2
end LW
end
section
set_option maxRecDepth 100000
set_option maxHeartbeats 1000000
namespace LW
open PySem PS
def isI : T → Bool
  | .int _ => true
  | _ => false
theorem p_is_integer (k : Nat) (h : AH) (t : T) (hp : t.pl = true) : runFn prg (k + 1) 0 [t] h = .ok (.bl (isI t)) h := by
  rw [run_eq (fn := ⟨1, 1, true, ir_is_integer⟩) rfl rfl]
  have e : evSs ⟨runFn prg k, h.length, prg.sub, prg.xi⟩ ir_is_integer ([t].map some ++ List.replicate (1 - 1) none) h = .ret none (.bl (isI t)) h := by
    simp [ir_is_integer, evSs, evS, evE, isTy_pl _ hp]
    cases t <;> simp [isTyP, isI]
  rw [e]
  exact end_ret0 (.inl rfl) rfl
def inI (t : T) (a b : Int) : Bool := match t with
  | .int i => decide (a ≤ i) && decide (i ≤ b)
  | _ => false
theorem p_is_integer_in (k : Nat) (h : AH) (t : T) (a b : Int) (hp : t.pl = true) : runFn prg (k + 2) 1 [t, .int a, .int b] h = .ok (.bl (inI t a b)) h := by
  rw [run_eq (fn := ⟨3, 3, true, ir_is_integer_in⟩) rfl rfl]
  have e : evSs ⟨runFn prg (k + 1), h.length, prg.sub, prg.xi⟩ ir_is_integer_in ([t, .int a, .int b].map some ++ List.replicate (3 - 3) none) h = .ret none (.bl (inI t a b)) h := by
    simp [ir_is_integer_in, evSs, evS, evE, evL, p_is_integer k h t hp]
    cases t <;> simp [isI, inI]
    rename_i i
    by_cases c : a ≤ i <;> simp [c]
  rw [e]
  exact end_ret0 (.inl rfl) rfl
def Box (h : AH) (n : Nat) : Prop := ∃ g s : Int, 0 ≤ g ∧ 0 ≤ s ∧ h[n]? = some (.lst [.int g, .int s])
def BoxOnly (n : Nat) (h h' : AH) : Prop := ∃ g s : Int, 0 ≤ g ∧ 0 ≤ s ∧ h' = h.set n (.lst [.int g, .int s])
theorem p_take (k : Nat) (h : AH) (n : Nat) (many : Int) (hb : Box h n) (h1 : 0 < many) (h2 : many < 1073741824) :
    ∃ r h', runFn prg (k + 1) 10 [.ref n, .int many] h = .ok (.int r) h' ∧ 0 ≤ r ∧ r < many ∧ BoxOnly n h h' := by
  obtain ⟨g, s, hg, hs, hb⟩ := hb
  rw [run_eq (fn := ⟨2, 3, true, ir__law_take⟩) rfl rfl]
  have hn : n < h.length := (List.getElem?_eq_some_iff.mp hb).1
  by_cases c : 0 < g
  · have e : evSs ⟨runFn prg k, h.length, prg.sub, prg.xi⟩ ir__law_take ([.ref n, .int many].map some ++ List.replicate (3 - 2) none) h = .ret none (.int (g % many)) (h.set n (.lst [.int (g / many), .int s])) := by
      simp [ir__law_take, evSs, evS, evE, evL, evB, idx_cell hb, set_cell hb, L2.atI, L2.ixN, c, h1, h2, TG.asg]
    rw [e, end_set (.inl rfl) rfl rfl]
    exact ⟨_, _, rfl, Int.emod_nonneg _ (by omega), Int.emod_lt_of_pos _ h1, _, _, Int.ediv_nonneg hg (by omega), hs, rfl⟩
  · have e : evSs ⟨runFn prg k, h.length, prg.sub, prg.xi⟩ ir__law_take ([.ref n, .int many].map some ++ List.replicate (3 - 2) none) h = .ret none (.int (((s * 39373 + 69621) % 2147483647) / 8191 % many)) (h.set n (.lst [.int g, .int ((s * 39373 + 69621) % 2147483647)])) := by
      simp [ir__law_take, evSs, evS, evE, evL, evB, idx_cell hb, set_cell hb, L2.atI, L2.ixN, c, h1, h2, TG.asg, idx_cell, hn]
    rw [e, end_set (.inl rfl) rfl rfl]
    exact ⟨_, _, rfl, Int.emod_nonneg _ (by omega), Int.emod_lt_of_pos _ h1, _, _, hg, Int.emod_nonneg _ (by omega), rfl⟩
theorem foldl_id {α β γ : Type} (l : List α) (b : β × γ) : List.foldl (fun (b : β × γ) (_ : α) => (b.fst, b.snd)) b l = b := by
  induction l with
  | nil => rfl
  | cons a l ih => exact ih
theorem occ_nil {s sub : Str} {lo hi lim : Nat} (H : ∀ i, Builtin.Str.subAt s sub i = false) : Builtin.Str.occurrences s sub lo hi lim = [] := by
  simp [Builtin.Str.occurrences, H]
  rw [foldl_id]
theorem letters_lo : ∀ c : Nat, c < 130 → subStr ⟨#[c]⟩ "abcdefghijklmnopqrstuvwxyz" = decide (97 ≤ c ∧ c ≤ 122) := by decide +kernel
theorem letters (c : Nat) : subStr ⟨#[c]⟩ "abcdefghijklmnopqrstuvwxyz" = decide (97 ≤ c ∧ c ≤ 122) := by
  by_cases h : c < 130
  · exact letters_lo c h
  · have e : decide (97 ≤ c ∧ c ≤ 122) = false := by simp; omega
    rw [e]
    unfold subStr
    rw [occ_nil]
    · rfl
    · intro i
      unfold Builtin.Str.subAt
      cases hq : (("abcdefghijklmnopqrstuvwxyz" : Str).cps.extract i (i + (⟨#[c]⟩ : Str).length) == (⟨#[c]⟩ : Str).cps) with
      | false => rfl
      | true =>
        exfalso
        have hq := eq_of_beq hq
        have hm : c ∈ ("abcdefghijklmnopqrstuvwxyz" : Str).cps.extract i (i + (⟨#[c]⟩ : Str).length) := by rw [hq]; simp
        have hm2 : c ∈ ("abcdefghijklmnopqrstuvwxyz" : Str).cps.toList := by
          rw [Array.mem_toList_iff]
          obtain ⟨q, hq1, hq2⟩ := Array.mem_extract_iff_getElem.mp hm
          rw [← hq2]; simp
        have all : ∀ x ∈ ("abcdefghijklmnopqrstuvwxyz" : Str).cps.toList, x < 130 := by decide +kernel
        exact h (all c hm2)
theorem undL_get {n : Nat} : ∀ {xs : List T} {i : Nat} {x : T}, T.undL n xs = true → xs[i]? = some x → x.und n = true
  | [], _, _, _, e => by simp at e
  | y :: ys, 0, _, h, e => by
    simp only [T.undL, Bool.and_eq_true] at h
    simp at e; subst e; exact h.1
  | y :: ys, i + 1, _, h, e => by
    simp only [T.undL, Bool.and_eq_true] at h
    exact undL_get h.2 (by simpa using e)
theorem p_pick (k : Nat) (h : AH) (n : Nat) (xs : List T) (tup : Bool) (hb : Box h n) (h1 : xs ≠ []) (h2 : xs.length < 1073741824) (hx : T.undL h.length xs = true) :
    ∃ r x h', runFn prg (k + 2) 11 [.ref n, if tup then .tup xs else .lst xs] h = .ok x h' ∧ xs[(r : Nat)]? = some (x : T) ∧ BoxOnly n h h' := by
  have hl : 0 < xs.length := List.length_pos_iff.mpr h1
  obtain ⟨r, h', e1, e2, e3, e4⟩ := p_take k h n xs.length hb (by omega) (by omega)
  rw [run_eq (fn := ⟨2, 2, true, ir__law_pick⟩) rfl rfl]
  have hr : r.toNat < xs.length := by omega
  have at1 : L2.atI xs r = some xs[r.toNat] := by
    have := L2.atI_nat (List.getElem?_eq_getElem hr)
    rwa [Int.toNat_of_nonneg e2] at this
  have e : evSs ⟨runFn prg (k + 1), h.length, prg.sub, prg.xi⟩ ir__law_pick ([.ref n, if tup then .tup xs else .lst xs].map some ++ List.replicate (2 - 2) none) h = .ret none xs[r.toNat] h' := by
    cases tup <;> simp [ir__law_pick, evSs, evS, evE, evL, evB, e1, idx_lst, idx_tup, at1]
  rw [e]
  obtain ⟨g, s, hg, hs, rfl⟩ := e4
  rw [end_set (.inl rfl) (undL_get hx (List.getElem?_eq_getElem hr)) rfl]
  exact ⟨r.toNat, _, _, rfl, List.getElem?_eq_getElem hr, g, s, hg, hs, rfl⟩
def isW : T → Bool
  | .str x => decide (1 ≤ x.length) && decide (x.length ≤ 3) && x.cps.toList.all fun c => decide (97 ≤ c ∧ c ≤ 122)
  | _ => false
theorem thou_line {n : Nat} (h : n ≤ 1000) : n ≤ sizeLine := Nat.le_trans h (by rw [sizeLine_eq]; decide)
theorem chars_in (x : Str) (f : T → Bool) (g : Nat → Bool) (hf : ∀ c, f (.str ⟨#[c]⟩) = g c) : (chars x).map f = x.cps.toList.map g := by
  unfold chars
  rw [List.map_map]
  exact List.map_congr_left fun c _ => hf c
theorem chars_len (x : Str) : (chars x).length = x.length := by
  unfold chars
  rw [List.length_map, Array.length_toList]
  rfl
theorem blsT_map (l : List Bool) : blsT (l.map T.bl) = some l := by
  induction l with
  | nil => rfl
  | cons b l ih => show (blsT (l.map T.bl)).map (b :: ·) = _; rw [ih]; rfl
theorem all_id {α : Type} (l : List α) (g : α → Bool) : (l.map g).all id = l.all g := by
  induction l with
  | nil => rfl
  | cons a l ih => simp [ih]
theorem bf_all_bls {m : Bool} {h : AH} (l : List Bool) : bfT m .all [.lst (l.map T.bl)] h = .ok (.bl (l.all id)) h := by
  show (match isList h (.lst (l.map T.bl)) with
    | some ys => match blsT ys with
      | some bs => R.ok (T.bl (bs.all id)) h
      | none => .stuck
    | none => .stuck) = _
  rw [isList_lst]
  dsimp only
  rw [blsT_map]
theorem p_is_word (k : Nat) (h : AH) (t : T) (hp : t.pl = true) : runFn prg (k + 1) 2 [t] h = .ok (.bl (isW t)) h := by
  rw [run_eq (fn := ⟨1, 2, true, ir_is_word⟩) rfl rfl]
  have e : evSs ⟨runFn prg k, h.length, prg.sub, prg.xi⟩ ir_is_word ([t].map some ++ List.replicate (2 - 1) none) h = .ret none (.bl (isW t)) h := by
    cases t with
    | str x =>
      have hx : x.length ≤ sizeLine := thou_line (by simpa [T.pl] using hp)
      simp [ir_is_word, evSs, evS, evE, evL, evB, evI, isTy_pl _ hp, isTyP, hx]
      have ew : isW (.str x) = (decide ((1 : Int) ≤ x.length) && decide ((x.length : Int) ≤ 3) && x.cps.toList.all fun c => decide (97 ≤ c ∧ c ≤ 122)) := by
        have a : decide ((1 : Int) ≤ x.length) = decide (1 ≤ x.length) := by simp; omega
        have b : decide ((x.length : Int) ≤ 3) = decide (x.length ≤ 3) := by simp; omega
        rw [a, b]; rfl
      rw [ew]
      by_cases c1 : (1 : Int) ≤ x.length
      · by_cases c2 : (x.length : Int) ≤ 3
        · have cl := compL_pure (g := TG.nm 1) (cond := fun _ h => .ok true h) (elt := fun env h => (evE ⟨runFn prg k, h.length, prg.sub, prg.xi⟩ (.cmp .isin (.var 1) (.glb 0 (.str "abcdefghijklmnopqrstuvwxyz"))) env h).nox) (chk := (⟨chars x, none⟩ : Items).chk) (c := fun _ => true) (f := fun t => match t with | .str a => .bl (subStr a "abcdefghijklmnopqrstuvwxyz") | _ => .non) (env := wipeE [some (.str x), none] [1]) (h := h) trivial (xs := chars x) (fun y hy => by
            unfold chars at hy
            obtain ⟨c, hc, rfl⟩ := List.mem_map.mp hy
            exact ⟨_, rfl, rfl, fun _ => rfl⟩)
          have ec : (chars x).map (fun t => match t with | .str a => .bl (subStr a "abcdefghijklmnopqrstuvwxyz") | _ => .non) = (x.cps.toList.map fun c => decide (97 ≤ c ∧ c ≤ 122)).map T.bl := by
            unfold chars
            rw [List.map_map, List.map_map]
            refine List.map_congr_left fun c _ => ?_
            show T.bl (subStr ⟨#[c]⟩ _) = T.bl _
            rw [letters]
          rw [show (chars x).filter (fun _ => true) = chars x from by simp, ec] at cl
          have hz : ((x.cps.toList.map fun c => decide (97 ≤ c ∧ c ≤ 122)).map T.bl).length ≤ sizeLine := by
            rw [List.length_map, List.length_map, Array.length_toList]; exact hx
          simp [c1, c2, evE] at cl ⊢
          rw [cl]
          simp only [R.nox_ok, R.bind_ok]
          rw [show ∀ (l : List T) (h : AH), l.length ≤ sizeLine → PS.fresh false l h = .ok (.lst l) h from fun l h hl => fresh_f hl]
          · simp only [R.bind_ok]
            rw [← List.map_map, bf_all_bls, all_id]
            simp
          · rw [List.length_map, Array.length_toList]; exact hx
        · simp [c1, c2]
      · simp [c1]
    | _ => simp [ir_is_word, evSs, evS, evE, evL, evB, isTy_pl _ hp, isTyP, isW]
  rw [e]
  exact end_ret0 (.inl rfl) rfl
theorem find_int (i : Int) : ∀ F : List Int, (findK (.num i) (F.map T.int)).isSome = F.contains i
  | [] => rfl
  | x :: F => by
    have ih := find_int i F
    rw [List.map_cons, List.contains_cons]
    unfold findK
    by_cases e : x = i
    · subst e
      rw [if_pos (by simp [T.key])]; simp
    · have h1 : ¬ (T.int x).key = some (.num i) := by simp [T.key, e]
      rw [if_neg h1]
      have h2 : (i == x) = false := by simp [Ne.symm e]
      rw [h2, Bool.false_or, ← ih]
      cases findK (.num i) (F.map T.int) <;> rfl
def two (h : AH) (F W : List Int) : AH := h ++ [.dct false (F.map T.int) (F.map fun _ => T.bl true), .lst (W.map T.int)]
theorem two0 (h : AH) (F W : List Int) : (two h F W)[h.length]? = some (.dct false (F.map T.int) (F.map fun _ => T.bl true)) := by simp [two]
theorem two1 (h : AH) (F W : List Int) : (two h F W)[h.length + 1]? = some (.lst (W.map T.int)) := by simp [two]
theorem two_set1 (h : AH) (F W V : List Int) : (two h F W).set (h.length + 1) (.lst (V.map T.int)) = two h F V := by simp [two, List.set_append]
theorem two_set0 (h : AH) (F W G : List Int) : (two h F W).set h.length (.dct false (G.map T.int) (G.map fun _ => T.bl true)) = two h G W := by simp [two, List.set_append]
abbrev rE (ls : List (List Int)) (s : Int) (n : Nat) (c : Option T) : PS.Env := [some (.lst (ls.map fun l => .lst (l.map T.int))), some (.int s), some (.ref n), some (.ref (n + 1)), c]
theorem reached_turn (k : Nat) (n0 : Nat) (h : AH) (ls : List (List Int)) (s x : Int) (F W : List Int) (c : Option T) (Lx : List Int) (hx : L2.atI ls x = some Lx) (hF : F.length < sizeLine) (hW : x ∉ F → W.length + Lx.length ≤ sizeLine) :
    evSs ⟨runFn prg k, n0, prg.sub, prg.xi⟩ (.cons (.asg (.nm 4) (.bm false .pop (.var 3) .nil)) (.cons (.ife (.cmp .notin (.var 4) (.var 2)) (.cons (.seti (.var 2) (.var 4) (.cst (.bl true))) (.cons (.ex (.bm false .extend (.var 3) (.cons (.idx (.var 0) (.var 4)) .nil))) .nil)) .nil) .nil)) (rE ls s h.length c) (two h F (W ++ [x])) =
      if x ∈ F then .next (rE ls s h.length (some (.int x))) (two h F W) else .next (rE ls s h.length (some (.int x))) (two h (F ++ [x]) (W ++ Lx)) := by
  have g1 := two1 h F (W ++ [x])
  have l1 : isList (two h F (W ++ [x])) (.ref (h.length + 1)) = some ((W ++ [x]).map T.int) := by
    unfold isList; rw [snap_cell g1]
  have pop1 : bmT false .pop (.ref (h.length + 1)) [] (two h F (W ++ [x])) = .ok (.int x) (two h F W) := by
    rw [pop_cell (xs := W.map T.int) (t := .int x) (by rw [g1]; simp), two_set1]
  have in1 : cmpT .notin (two h F W) (.int x) (.ref h.length) = some (!F.contains x) := by
    show (inT (two h F W) (.int x) (.ref h.length)).map (!·) = _
    have : inT (two h F W) (.int x) (.ref h.length) = some (F.contains x) := by
      unfold inT
      rw [snap_ref, two0]
      dsimp only [keyOk]
      rw [find_int]
    rw [this]; rfl
  simp [evSs, evS, evE, evL, evB, bmOk, l1, pop1, TG.asg, in1]
  by_cases hc : x ∈ F
  · simp [hc]
  · simp [hc]
    have ix : idxT (two h (F ++ [x]) W) (.lst (ls.map fun l => .lst (l.map T.int))) (.int x) = some (.lst (Lx.map T.int)) := by
      rw [idx_lst, atI_map, hx]; rfl
    have nf : findK (.num x) (F.map T.int) = none := by
      have := find_int x F
      cases hf : findK (.num x) (F.map T.int) with
      | none => rfl
      | some j => rw [hf] at this; simp [hc] at this
    have st : setT (.ref h.length) (.int x) (.bl true) (two h F W) = .ok () (two h (F ++ [x]) W) := by
      rw [set_dct (two0 h F W) nf (by simpa using hF), ← two_set0 h F W (F ++ [x])]
      simp
    have l2 : isList (two h (F ++ [x]) W) (.ref (h.length + 1)) = some (W.map T.int) := by
      unfold isList; rw [snap_cell (two1 h (F ++ [x]) W)]
    have ex : bmT false .extend (.ref (h.length + 1)) [.lst (Lx.map T.int)] (two h (F ++ [x]) W) = .ok .non (two h (F ++ [x]) (W ++ Lx)) := by
      rw [ext_cell (two1 h (F ++ [x]) W) (by simpa using hW hc), ← two_set1 h (F ++ [x]) W (W ++ Lx)]
      simp
    simp [st, l2, ix, ex]
def wsum (ls : List (List Int)) (F : List Int) : Nat → Nat
  | 0 => 0
  | n + 1 => wsum ls F n + if (n : Int) ∈ F then 0 else ((ls[n]?).getD []).length
theorem wsum_same {ls : List (List Int)} {F : List Int} {x : Int} : ∀ n : Nat, (n : Int) ≤ x → wsum ls (F ++ [x]) n = wsum ls F n
  | 0, _ => rfl
  | n + 1, h => by
    unfold wsum
    rw [wsum_same n (by omega)]
    have e : ((n : Int) ∈ F ++ [x]) ↔ ((n : Int) ∈ F) := by
      simp; intro z; omega
    simp only [e]
theorem wsum_new {ls : List (List Int)} {F : List Int} {x : Int} (h0 : 0 ≤ x) (hx : x ∉ F) : ∀ n : Nat, x < (n : Int) → wsum ls (F ++ [x]) n + ((ls[x.toNat]?).getD []).length = wsum ls F n
  | 0, h => by omega
  | n + 1, h => by
    unfold wsum
    by_cases e : x = n
    · subst e
      rw [wsum_same n (Int.le_refl _), if_pos (by simp), if_neg hx]
      simp
    · have ih := wsum_new (ls := ls) h0 hx n (by omega)
      have e2 : ((n : Int) ∈ F ++ [x]) ↔ ((n : Int) ∈ F) := by
        simp; intro z; exact absurd z.symm e
      simp only [e2]
      omega
abbrev rBody : ISs := .cons (.asg (.nm 4) (.bm false .pop (.var 3) .nil)) (.cons (.ife (.cmp .notin (.var 4) (.var 2)) (.cons (.seti (.var 2) (.var 4) (.cst (.bl true))) (.cons (.ex (.bm false .extend (.var 3) (.cons (.idx (.var 0) (.var 4)) .nil))) .nil)) .nil) .nil)
abbrev Lof (ls : List (List Int)) (x : Int) : List Int := (ls[x.toNat]?).getD []
theorem atI_of {ls : List (List Int)} {x : Int} (h0 : 0 ≤ x) (h1 : x < ls.length) : L2.atI ls x = some (Lof ls x) := by
  have hr : x.toNat < ls.length := by omega
  have e : ls[x.toNat]? = some ls[x.toNat] := List.getElem?_eq_getElem hr
  have := L2.atI_nat e
  rw [Int.toNat_of_nonneg h0] at this
  rw [this]; simp [Lof, e]
theorem reached_loop (k n0 : Nat) (h : AH) (ls : List (List Int)) (s : Int) (B : Nat) (hB : B < sizeLine) (Good : Int → Prop) (hv : ∀ x : Int, 0 ≤ x → x < ls.length → ∀ y ∈ Lof ls x, 0 ≤ y ∧ y < (ls.length : Int)) (hg : ∀ x, Good x → ∀ y ∈ Lof ls x, Good y) :
    ∀ (fuel : Nat) (F W : List Int) (c : Option T), W.length + wsum ls F ls.length < fuel → F.length + (W.length + wsum ls F ls.length) ≤ B → (∀ x ∈ W, 0 ≤ x ∧ x < (ls.length : Int)) → KG.Inv (Lof ls) s F W → (∀ x ∈ F, Good x) → (∀ x ∈ W, Good x) →
    ∃ F' c', whlL (fun env h => evB ⟨runFn prg k, n0, prg.sub, prg.xi⟩ (.var 3) env h) (fun env h => evSs ⟨runFn prg k, n0, prg.sub, prg.xi⟩ rBody env h) fuel (rE ls s h.length c) (two h F W) = .next (rE ls s h.length c') (two h F' []) ∧ KG.Inv (Lof ls) s F' [] ∧ (∀ x ∈ F', Good x) ∧ F'.length ≤ B
  | 0, _, _, _, hf, _, _, _, _, _ => by omega
  | fuel + 1, F, W, c, hf, hb, hw, hi, g1, g2 => by
    have ec : evB ⟨runFn prg k, n0, prg.sub, prg.xi⟩ (.var 3) (rE ls s h.length c) (two h F W) = .ok (!W.isEmpty) (two h F W) := by
      show R.isB (.ok (.ref (h.length + 1)) (two h F W)) = _
      show R.of (truT (two h F W) (.ref (h.length + 1))) (two h F W) = _
      have : truT (two h F W) (.ref (h.length + 1)) = some (!W.isEmpty) := by
        unfold truT; rw [snap_cell (two1 h F W)]; cases W <;> rfl
      rw [this]; rfl
    unfold whlL
    rw [ec]
    rcases List.eq_nil_or_concat W with rfl | ⟨W0, x, rfl⟩
    · exact ⟨F, c, rfl, hi, g1, by omega⟩
    · simp only [List.concat_eq_append] at *
      have hne : (!(W0 ++ [x]).isEmpty) = true := by simp
      rw [hne]
      dsimp only
      obtain ⟨x0, x1⟩ := hw x (by simp)
      simp only [List.length_append, List.length_singleton] at hf hb
      have it := KG.inv_turn hi
      by_cases hx : x ∈ F
      · rw [reached_turn k n0 h ls s x F W0 c (Lof ls x) (atI_of x0 x1) (by omega) (fun z => absurd hx z), if_pos hx]
        exact reached_loop k n0 h ls s B hB Good hv hg fuel F W0 _ (by omega) (by omega) (fun y hy => hw y (by simp [hy])) (it.1 hx) g1 (fun y hy => g2 y (by simp [hy]))
      · have ws := wsum_new (ls := ls) x0 hx ls.length x1
        rw [reached_turn k n0 h ls s x F W0 c (Lof ls x) (atI_of x0 x1) (by omega) (fun _ => by show W0.length + ((ls[x.toNat]?).getD []).length ≤ _; omega), if_neg hx]
        refine reached_loop k n0 h ls s B hB Good hv hg fuel (F ++ [x]) (W0 ++ Lof ls x) _ ?_ ?_ ?_ (it.2 hx) ?_ ?_
        · rw [List.length_append]; show W0.length + ((ls[x.toNat]?).getD []).length + _ < _; omega
        · rw [List.length_append, List.length_append]; show _ + 1 + (W0.length + ((ls[x.toNat]?).getD []).length + _) ≤ _; omega
        · intro y hy
          rw [List.mem_append] at hy
          rcases hy with hy | hy
          · exact hw y (by simp [hy])
          · exact hv x x0 x1 y hy
        · intro y hy
          rw [List.mem_append] at hy
          rcases hy with hy | hy
          · exact g1 y hy
          · simp at hy; subst hy; exact g2 y (by simp)
        · intro y hy
          rw [List.mem_append] at hy
          rcases hy with hy | hy
          · exact g2 y (by simp [hy])
          · exact hg x (g2 x (by simp)) y hy
theorem ss_next {C : PS.Ctx} {s : IS} {r : ISs} {env e1 : PS.Env} {h h1 : AH} (e : evS C s env h = .next e1 h1) : evSs C (.cons s r) env h = evSs C r e1 h1 := by
  show (match evS C s env h with
    | .next e1 h1 => evSs C r e1 h1
    | q => q) = _
  rw [e]
theorem ss_ret {C : PS.Ctx} {s : IS} {r : ISs} {env : PS.Env} {h h1 : AH} {m : Option Nat} {t : T} (e : evS C s env h = .ret m t h1) : evSs C (.cons s r) env h = .ret m t h1 := by
  show (match evS C s env h with
    | .next e1 h1 => evSs C r e1 h1
    | q => q) = _
  rw [e]
inductive RL (ls : List (List Int)) (s : Int) : Int → Prop
  | one {y : Int} : y ∈ Lof ls s → RL ls s y
  | more {x y : Int} : RL ls s x → y ∈ Lof ls x → RL ls s y
theorem undL_ints (n : Nat) : ∀ F : List Int, T.undL n (F.map T.int) = true
  | [] => rfl
  | x :: F => by simp only [List.map_cons, T.undL, T.und, Bool.true_and]; exact undL_ints n F
theorem undL_bls (n : Nat) : ∀ F : List Int, T.undL n (F.map fun _ => T.bl true) = true
  | [] => rfl
  | x :: F => by simp only [List.map_cons, T.undL, T.und, Bool.true_and]; exact undL_bls n F
theorem frz_bls (n0 : Nat) (h : AH) (d : Nat) : ∀ F : List Int, (F.map fun _ => T.bl true).mapM (frzV n0 h (d + 1)) = some (F.map fun _ => T.bl true)
  | [] => rfl
  | x :: F => by
    rw [List.map_cons, List.mapM_cons, frz_bls n0 h d F]
    rfl
abbrev LL (ls : List (List Int)) : T := .lst (ls.map fun l => .lst (l.map T.int))
theorem p_reached (k : Nat) (h : AH) (ls : List (List Int)) (s : Int) (h0 : 0 ≤ s) (h1 : s < ls.length) (hv : ∀ x : Int, 0 ≤ x → x < ls.length → ∀ y ∈ Lof ls x, 0 ≤ y ∧ y < (ls.length : Int)) (hz : (Lof ls s).length + wsum ls [] ls.length < 1000000) :
    ∃ F : List Int, runFn prg (k + 1) 3 [LL ls, .int s] h = .ok (.dct false (F.map T.int) (F.map fun _ => T.bl true)) h ∧ ∀ x, x ∈ F ↔ RL ls s x := by
  rw [run_eq (fn := ⟨2, 5, true, ir_reached⟩) rfl rfl]
  obtain ⟨F, c', e, iv, g, lF⟩ := reached_loop k h.length h ls s 1000000 (by rw [sizeLine_eq]; decide) (RL ls s) hv (fun x r y hy => .more r hy) whlFuel [] (Lof ls s) none hz (by simp; omega) (fun x hx => hv s h0 h1 x hx) ⟨fun y hy => .inr hy, fun x hx => by simp at hx⟩ (by simp) (fun x hx => .one hx)
  refine ⟨F, ?_, fun x => ⟨g x, fun r => ?_⟩⟩
  · have ix : idxT (h ++ [.dct false [] []]) (LL ls) (.int s) = some (.lst ((Lof ls s).map T.int)) := by
      rw [idx_lst, atI_map, atI_of h0 h1]; rfl
    have hz2 : ((Lof ls s).map T.int).length ≤ sizeLine := by
      rw [List.length_map, sizeLine_eq]; omega
    have fr : bfT true .list [.lst ((Lof ls s).map T.int)] (h ++ [.dct false [] []]) = .ok (.ref (h.length + 1)) (two h [] (Lof ls s)) := by
      show PS.fresh true ((Lof ls s).map T.int) (h ++ [.dct false [] []]) = _
      unfold PS.fresh
      rw [if_pos hz2, if_pos rfl]
      simp [two]
    have ff : frzV h.length (two h F []) 4 (.ref h.length) = some (.dct false (F.map T.int) (F.map fun _ => T.bl true)) := by
      show (if h.length < h.length then some (T.ref h.length) else match (two h F [])[h.length]? with
        | some (.lst xs) => (xs.mapM (frzV h.length (two h F []) 3)).map .lst
        | some (.dct tk ks vs) => if T.undL h.length ks = true then (vs.mapM (frzV h.length (two h F []) 3)).map (.dct tk ks) else none
        | _ => none) = _
      rw [if_neg (Nat.lt_irrefl _), two0]
      dsimp only
      rw [if_pos (undL_ints _ _), frz_bls]
      rfl
    have es : evSs ⟨runFn prg k, h.length, prg.sub, prg.xi⟩ ir_reached ([LL ls, .int s].map some ++ List.replicate (5 - 2) none) h = .ret (some h.length) (.dct false (F.map T.int) (F.map fun _ => T.bl true)) (two h F []) := by
      have e2 : evS ⟨runFn prg k, h.length, prg.sub, prg.xi⟩ (.whl (.var 3) rBody) (rE ls s h.length none) (two h [] (Lof ls s)) = .next (rE ls s h.length c') (two h F []) := e
      have s1 : evS ⟨runFn prg k, h.length, prg.sub, prg.xi⟩ (.asg (.nm 2) (.dic true false)) [some (LL ls), some (.int s), none, none, none] h = .next [some (LL ls), some (.int s), some (.ref h.length), none, none] (h ++ [.dct false [] []]) := rfl
      have s2 : evS ⟨runFn prg k, h.length, prg.sub, prg.xi⟩ (.asg (.nm 3) (.bf true .list (.cons (.idx (.var 0) (.var 1)) .nil))) [some (LL ls), some (.int s), some (.ref h.length), none, none] (h ++ [.dct false [] []]) = .next (rE ls s h.length none) (two h [] (Lof ls s)) := by
        simp [evS, evE, evL, ix, fr, TG.asg]
      have s4 : evS ⟨runFn prg k, h.length, prg.sub, prg.xi⟩ (.ret true (.var 2)) (rE ls s h.length c') (two h F []) = .ret (some h.length) (.dct false (F.map T.int) (F.map fun _ => T.bl true)) (two h F []) := by
        show (match frzV h.length (two h F []) 4 (.ref h.length) with
          | some t' => RS.ret (some h.length) t' (two h F [])
          | none => .stuck) = _
        rw [ff]
      exact (ss_next s1).trans ((ss_next s2).trans ((ss_next e2).trans (ss_ret s4)))
    rw [es]
    refine end_ret (.inr rfl) ?_
    simp only [T.und, undL_ints, undL_bls, Bool.and_self]
  · have cl : ∀ y, RL ls s y → y ∈ F := by
      intro y r
      induction r with
      | one hy => rcases iv.st _ hy with q | q; exact q; simp at q
      | more r hy ih => rcases iv.cl _ ih _ hy with q | q; exact q; simp at q
    exact cl x r
end LW
end
section
set_option maxRecDepth 100000
set_option maxHeartbeats 1000000
namespace PS
open PySem
mutual
theorem dat_plain2 : ∀ (t : T) (d : PyData), t.dat = some d → d.plain = true
  | .non, d, h => by cases h; rfl
  | .bl _, d, h => by cases h; rfl
  | .int _, d, h => by cases h; rfl
  | .str _, d, h => by cases h; rfl
  | .tup xs, d, h => by
    rw [T.dat] at h
    cases e : T.datL xs with
    | none => rw [e] at h; cases h
    | some ds => rw [e] at h; cases h; exact datL_plain2 xs ds e
  | .lst xs, d, h => by
    rw [T.dat] at h
    cases e : T.datL xs with
    | none => rw [e] at h; cases h
    | some ds => rw [e] at h; cases h; exact datL_plain2 xs ds e
  | .dct _ _ _, d, h => by cases h
  | .ref _, d, h => by cases h
  | .clo _ _, d, h => by cases h
  | .exn _ _, d, h => by cases h
theorem datL_plain2 : ∀ (ts : List T) (ds : List PyData), T.datL ts = some ds → PyData.plainAll ds = true
  | [], ds, h => by cases h; rfl
  | x :: xs, ds, h => by
    rw [T.datL] at h
    cases e1 : T.dat x with
    | none => rw [e1] at h; cases h
    | some a =>
      cases e2 : T.datL xs with
      | none => rw [e1, e2] at h; cases h
      | some b =>
        rw [e1, e2] at h
        cases h
        rw [PyData.plainAll, dat_plain2 x a e1, datL_plain2 xs b e2]; rfl
end
inductive Gd (m : Nat) : Nat → T → Prop
  | non (n : Nat) : Gd m n .non
  | bl (n : Nat) (b : Bool) : Gd m n (.bl b)
  | int (n : Nat) (i : Int) : -(100000000 * (m : Int)) ≤ i → i ≤ 100000000 * (m : Int) → Gd m n (.int i)
  | str (n : Nat) (x : Str) : x.length ≤ m → Gd m n (.str x)
  | tup (n : Nat) (xs : List T) : xs.length ≤ m → (∀ x ∈ xs, Gd m n x) → Gd m (n + 1) (.tup xs)
  | lst (n : Nat) (xs : List T) : xs.length ≤ m → (∀ x ∈ xs, Gd m n x) → Gd m (n + 1) (.lst xs)
theorem plL_of : ∀ {xs : List T}, (∀ x ∈ xs, x.pl = true) → T.plL xs = true
  | [], _ => rfl
  | x :: xs, h => by
    simp only [T.plL, Bool.and_eq_true]
    exact ⟨h x (by simp), plL_of fun y hy => h y (by simp [hy])⟩
theorem gd_pl {m n : Nat} {t : T} (hm : m ≤ 1000) (h : Gd m n t) : t.pl = true := by
  induction h with
  | non n => rfl
  | bl n b => rfl
  | int n i _ _ => rfl
  | str n x hx => simp [T.pl]; omega
  | tup n xs hl _ ih => simp [T.pl, plL_of ih]; omega
  | lst n xs hl _ ih => simp [T.pl, plL_of ih]; omega
def DD (n : Nat) (t : T) : Prop := ∃ d, t.dat = some d ∧ d.depth ≤ n
theorem ddL {n : Nat} : ∀ {xs : List T}, (∀ x ∈ xs, DD n x) → ∃ ds, T.datL xs = some ds ∧ PyData.depthAll ds ≤ n
  | [], _ => ⟨[], rfl, Nat.zero_le _⟩
  | x :: xs, h => by
    obtain ⟨d, e, hd⟩ := h x (by simp)
    obtain ⟨ds, e2, hd2⟩ := ddL (n := n) (xs := xs) fun y hy => h y (by simp [hy])
    refine ⟨d :: ds, by rw [T.datL, e, e2], ?_⟩
    rw [PyData.depthAll]; omega
theorem dd_tup {n : Nat} {xs : List T} (h : ∀ x ∈ xs, DD n x) : DD (n + 1) (.tup xs) := by
  obtain ⟨ds, e, hd⟩ := ddL h
  exact ⟨.tuple ds, by rw [T.dat, e]; rfl, by rw [PyData.depth]; omega⟩
theorem dd_lst {n : Nat} {xs : List T} (h : ∀ x ∈ xs, DD n x) : DD (n + 1) (.lst xs) := by
  obtain ⟨ds, e, hd⟩ := ddL h
  exact ⟨.list ds, by rw [T.dat, e]; rfl, by rw [PyData.depth]; omega⟩
theorem gd_dd {m n : Nat} {t : T} (h : Gd m n t) : DD n t := by
  induction h with
  | non n => exact ⟨_, rfl, Nat.zero_le _⟩
  | bl n b => exact ⟨_, rfl, Nat.zero_le _⟩
  | int n i _ _ => exact ⟨_, rfl, Nat.zero_le _⟩
  | str n x hx => exact ⟨_, rfl, Nat.zero_le _⟩
  | tup n xs hl _ ih => exact dd_tup ih
  | lst n xs hl _ ih => exact dd_lst ih
theorem gd_mono {m m' n n' : Nat} {t : T} (h : Gd m n t) (hm : m ≤ m') (hn : n ≤ n') : Gd m' n' t := by
  induction h generalizing n' with
  | non n => exact .non _
  | bl n b => exact .bl _ _
  | int n i a b => exact .int _ _ (by omega) (by omega)
  | str n x hx => exact .str _ _ (by omega)
  | tup n xs hl _ ih =>
    obtain ⟨k, rfl⟩ : ∃ k, n' = k + 1 := ⟨n' - 1, by omega⟩
    exact .tup _ _ (by omega) fun x hx => ih x hx (by omega)
  | lst n xs hl _ ih =>
    obtain ⟨k, rfl⟩ : ∃ k, n' = k + 1 := ⟨n' - 1, by omega⟩
    exact .lst _ _ (by omega) fun x hx => ih x hx (by omega)
def eqB (a b : T) : Bool := match a.dat, b.dat with
  | some d, some e => PyData.eqv d e
  | _, _ => false
theorem eqT_B {n m : Nat} {a b : T} (ha : DD n a) (hb : DD m b) (hn : n ≤ 180 ∨ m ≤ 180) : eqT a b = some (eqB a b) := by
  obtain ⟨d, e1, h1⟩ := ha
  obtain ⟨c, e2, h2⟩ := hb
  unfold eqT eqB
  rw [e1, e2]
  show eqD d c = _
  unfold eqD
  rw [if_pos (by unfold deepest; omega)]
theorem eqB_comm (a b : T) : eqB a b = eqB b a := by
  unfold eqB
  cases a.dat with
  | none => cases b.dat <;> rfl
  | some d => cases b.dat with
    | none => rfl
    | some e => exact PySem.W.eqv_comm d e
theorem eqB_self {n : Nat} {a : T} (ha : DD n a) : eqB a a = true := by
  obtain ⟨d, e, _⟩ := ha
  unfold eqB
  rw [e]
  exact PySem.SeqAt.eqv_refl_plain d (dat_plain2 _ _ e)
theorem eqB_pair {n : Nat} {a b c d : T} (ha : DD n a) (hb : DD n b) (hc : DD n c) (hd : DD n d) : eqB (.tup [a, b]) (.tup [c, d]) = (eqB a c && eqB b d) := by
  obtain ⟨a', ea, _⟩ := ha
  obtain ⟨b', eb, _⟩ := hb
  obtain ⟨c', ec, _⟩ := hc
  obtain ⟨d', ed, _⟩ := hd
  simp [eqB, T.dat, T.datL, ea, eb, ec, ed, PyData.eqv, PyData.eqvAll]
open Classical
theorem gcok_both {h cs : AH} {n : Nat} {c : Cell} (hc : c.und h.length = true) : GcOk h (h.set n c ++ cs) := ⟨by simp, fun i hi => by
  rw [List.getElem?_append_left (by simpa using hi)]
  by_cases e : n = i
  · subst e; exact .inr ⟨c, by simp [hi], hc⟩
  · exact .inl (by rw [List.getElem?_set_ne e])⟩
theorem end_both {h cs : AH} {n : Nat} {c : Cell} {mm : Option Nat} {t : T} (hm : mm = none ∨ mm = some h.length) (hu : t.und h.length = true) (hc : c.und h.length = true) : endR true h (endS true h.length (.ret mm t (h.set n c ++ cs))) = .ok t (h.set n c) := by
  show endR true h (if mm = none ∨ (true = true ∧ mm = some h.length) then .ok t (h.set n c ++ cs) else .stuck) = _
  rw [if_pos (by rcases hm with e | e; exact .inl e; exact .inr ⟨rfl, e⟩)]
  show (if true = true then (if t.und h.length = true ∧ GcOk h (h.set n c ++ cs) then R.ok t ((h.set n c ++ cs).take h.length) else .stuck) else .ok t (h.set n c ++ cs)) = _
  rw [if_pos rfl, if_pos ⟨hu, gcok_both hc⟩]
  have : h.length = (h.set n c).length := by simp
  rw [this, List.take_left']
  simp
theorem end_exc {h : AH} {c : Nat} {v : T} {e1 : Env} (hu : v.pl = true) : endR true h (endS true h.length (.exc c v e1 h)) = .exc c v h := by
  show (if true = true then (if v.und h.length = true ∧ GcOk h h then R.exc c v (h.take h.length) else .stuck) else .exc c v h) = _
  rw [if_pos rfl, if_pos ⟨pl_und _ _ hu, gcok_rfl h⟩, List.take_of_length_le (Nat.le_refl _)]
end PS
end
section
set_option maxRecDepth 100000
set_option maxHeartbeats 1000000
namespace LW
open PySem PS
theorem cutL_from (xs : List T) (n : Nat) (hn : n ≤ xs.length) : cutL xs (some (n : Int)) none = xs.drop n := by
  unfold cutL
  rw [HT.sIx_none, HT.sIx_nat, Nat.min_eq_left hn]
  exact List.take_of_length_le (by simp)
theorem cutL_two (a b : T) (r : List T) : cutL (a :: b :: r) (some 2) none = r := cutL_from (a :: b :: r) 2 (by simp)
theorem plL_mem : ∀ {xs : List T}, T.plL xs = true → ∀ x ∈ xs, x.pl = true
  | [], _, x, hx => by simp at hx
  | y :: xs, h, x, hx => by
    simp only [T.plL, Bool.and_eq_true] at h
    rcases List.mem_cons.mp hx with rfl | hx
    · exact h.1
    · exact plL_mem h.2 x hx
def IsBack (P : Nat → Prop) (n : Nat) : T → Prop
  | .int i => ∃ q : Nat, i = q ∧ q < n ∧ P q ∧ ∀ j, j < q → ¬ P j
  | .non => ∀ j, j < n → ¬ P j
  | _ => False
theorem back_uni {P Q : Nat → Prop} {n : Nat} (hPQ : ∀ j, j < n → (P j ↔ Q j)) {t u : T} (a : IsBack P n t) (b : IsBack Q n u) : t = u := by
  cases t with
  | non => cases u with
    | non => rfl
    | int i =>
      obtain ⟨q, rfl, h1, h2, h3⟩ := b
      exact absurd ((hPQ q h1).mpr h2) (a q h1)
    | _ => exact absurd b id
  | int i =>
    obtain ⟨q, rfl, h1, h2, h3⟩ := a
    cases u with
    | non => exact absurd ((hPQ q h1).mp h2) (b q h1)
    | int i' =>
      obtain ⟨q', rfl, g1, g2, g3⟩ := b
      rcases Nat.lt_trichotomy q q' with l | l | l
      · exact absurd ((hPQ q h1).mp h2) (g3 q l)
      · subst l; rfl
      · exact absurd ((hPQ q' g1).mpr g2) (h3 q' l)
    | _ => exact absurd b id
  | _ => exact absurd a id
theorem back_or {P : Nat → Prop} {n : Nat} {t : T} (a : IsBack P n t) : t = .non ∨ ∃ q : Nat, t = .int q ∧ q < n := by
  cases t with
  | non => exact .inl rfl
  | int i =>
    obtain ⟨q, rfl, h1, h2, h3⟩ := a
    exact .inr ⟨q, rfl, h1⟩
  | _ => exact absurd a id
theorem isin_ints {h : AH} {F vs : List T} {L : List Int} (e : F = L.map T.int) (x : Int) : cmpT .isin h (.int x) (.dct false F vs) = some (L.contains x) := by
  subst e
  show some (findK (.num x) (L.map T.int)).isSome = _
  rw [find_int]
theorem range_succ (i : Int) (m : Nat) : rangeT i (m + 1) = .int i :: rangeT (i + 1) m := by
  unfold rangeT
  rw [List.range_succ_eq_map, List.map_cons, List.map_map]
  congr 1
  · simp
  · refine List.map_congr_left fun k _ => ?_
    simp only [Function.comp_apply]
    congr 1
    omega
theorem forL_ret {g : TG} {body : PS.Env → AH → RS} {chk : AH → Prop} {x t : T} {xs : List T} {env e1 : PS.Env} {h h2 : AH} {m : Option Nat} (a : g.asg x env = some e1) (b : body e1 h = .ret m t h2) : forL g body chk (x :: xs) env h = .ret m t h2 := by
  unfold forL
  rw [a]
  dsimp only
  rw [b]
theorem forL_next {g : TG} {body : PS.Env → AH → RS} {chk : AH → Prop} {x : T} {xs : List T} {env e1 e2 : PS.Env} {h h2 : AH} (a : g.asg x env = some e1) (b : body e1 h = .next e2 h2) (c : chk h2) : forL g body chk (x :: xs) env h = forL g body chk xs e2 h2 := by
  show (match g.asg x env with
    | none => _
    | some e1 => _) = _
  rw [a]
  dsimp only
  rw [b]
  dsimp only
  rw [if_pos c]
theorem lb_loop (k n0 : Nat) (h : AH) (ls : List (List Int)) (hv : ∀ x : Int, 0 ≤ x → x < ls.length → ∀ y ∈ Lof ls x, 0 ≤ y ∧ y < (ls.length : Int)) (hz : ∀ s : Int, 0 ≤ s → s < ls.length → (Lof ls s).length + wsum ls [] ls.length < 1000000) :
    ∀ (m i : Nat) (c : Option T), i + m = ls.length → (∀ j : Nat, j < i → ¬ RL ls j j) →
    (∃ q : Nat, IsBack (fun j => RL ls j j) ls.length (.int q) ∧ forL (.nm 1) (fun env h => evSs ⟨runFn prg (k + 1), n0, prg.sub, prg.xi⟩ (.cons (.ife (.cmp .isin (.var 1) (.call 3 (.cons (.var 0) (.cons (.var 1) .nil)))) (.cons (.ret false (.var 1)) .nil) .nil) .nil) env h) (⟨rangeT 0 ls.length, none⟩ : Items).chk (rangeT i m) [some (LL ls), c] h = .ret none (.int q) h) ∨
    (IsBack (fun j => RL ls j j) ls.length .non ∧ ∃ c', forL (.nm 1) (fun env h => evSs ⟨runFn prg (k + 1), n0, prg.sub, prg.xi⟩ (.cons (.ife (.cmp .isin (.var 1) (.call 3 (.cons (.var 0) (.cons (.var 1) .nil)))) (.cons (.ret false (.var 1)) .nil) .nil) .nil) env h) (⟨rangeT 0 ls.length, none⟩ : Items).chk (rangeT i m) [some (LL ls), c] h = .next [some (LL ls), c'] h)
  | 0, i, c, hi, hn => .inr ⟨fun j hj => hn j (by omega), c, rfl⟩
  | m + 1, i, c, hi, hn => by
    have i0 : (0 : Int) ≤ i := by omega
    have i1 : (i : Int) < ls.length := by omega
    obtain ⟨F, e, hF⟩ := p_reached k h ls i i0 i1 hv (hz i i0 i1)
    have ei : (F.map T.int) = F.map T.int := rfl
    by_cases hR : RL ls i i
    · have hm : (i : Int) ∈ F := (hF i).mpr hR
      refine .inl ⟨i, ⟨i, rfl, by omega, hR, hn⟩, ?_⟩
      have : evSs ⟨runFn prg (k + 1), n0, prg.sub, prg.xi⟩ (.cons (.ife (.cmp .isin (.var 1) (.call 3 (.cons (.var 0) (.cons (.var 1) .nil)))) (.cons (.ret false (.var 1)) .nil) .nil) .nil) [some (LL ls), some (.int i)] h = .ret none (.int i) h := by
        simp [evSs, evS, evE, evL, evB, e, isin_ints rfl, hm]
      rw [range_succ]
      exact forL_ret rfl this
    · have hm : ¬ (i : Int) ∈ F := fun z => hR ((hF i).mp z)
      have : evSs ⟨runFn prg (k + 1), n0, prg.sub, prg.xi⟩ (.cons (.ife (.cmp .isin (.var 1) (.call 3 (.cons (.var 0) (.cons (.var 1) .nil)))) (.cons (.ret false (.var 1)) .nil) .nil) .nil) [some (LL ls), some (.int i)] h = .next [some (LL ls), some (.int i)] h := by
        simp [evSs, evS, evE, evL, evB, e, isin_ints rfl, hm]
      have ih := lb_loop k n0 h ls hv hz m (i + 1) (some (.int i)) (by omega) (fun j hj => by
        rcases Nat.lt_succ_iff_lt_or_eq.mp hj with l | l
        · exact hn j l
        · subst l; exact hR)
      have st : forL (.nm 1) (fun env h => evSs ⟨runFn prg (k + 1), n0, prg.sub, prg.xi⟩ (.cons (.ife (.cmp .isin (.var 1) (.call 3 (.cons (.var 0) (.cons (.var 1) .nil)))) (.cons (.ret false (.var 1)) .nil) .nil) .nil) env h) (⟨rangeT 0 ls.length, none⟩ : Items).chk (rangeT i (m + 1)) [some (LL ls), c] h = forL (.nm 1) (fun env h => evSs ⟨runFn prg (k + 1), n0, prg.sub, prg.xi⟩ (.cons (.ife (.cmp .isin (.var 1) (.call 3 (.cons (.var 0) (.cons (.var 1) .nil)))) (.cons (.ret false (.var 1)) .nil) .nil) .nil) env h) (⟨rangeT 0 ls.length, none⟩ : Items).chk (rangeT ((i + 1 : Nat) : Int) m) [some (LL ls), some (.int i)] h := by
        rw [range_succ]
        exact forL_next rfl this trivial
      rw [st]
      exact ih
theorem small_nat {n : Nat} (h : n < 1000000) : small62 (n : Int) := ⟨by omega, by omega⟩
theorem rng_items {C : PS.Ctx} {a : IE} {env : PS.Env} {h h1 : AH} {n : Nat} (e : evE C a env h = .ok (.int (n : Int)) h1) (sm : small62 (n : Int)) : evI C (.rng a) env h = .ok ⟨rangeT 0 n, none⟩ h1 := by
  unfold evI
  rw [e, R.bind_ok]
  dsimp only
  rw [if_pos sm, Int.toNat_natCast]
theorem lb_items (k n0 : Nat) (h : AH) (ls : List (List Int)) (hl : ls.length < 1000) : evI ⟨runFn prg (k + 1), n0, prg.sub, prg.xi⟩ (.rng (.bf false .len (.cons (.var 0) .nil))) [some (LL ls), none] h = .ok ⟨rangeT 0 ls.length, none⟩ h := by
  have sm : small62 (ls.length : Int) := small_nat (by omega)
  have e0 : evE ⟨runFn prg (k + 1), n0, prg.sub, prg.xi⟩ (.bf false .len (.cons (.var 0) .nil)) [some (LL ls), none] h = .ok (.int (ls.length : Int)) h := by
    simp [evE, evL]
  exact rng_items e0 sm
theorem p_least_back (k : Nat) (h : AH) (ls : List (List Int)) (hl : ls.length < 1000) (hv : ∀ x : Int, 0 ≤ x → x < ls.length → ∀ y ∈ Lof ls x, 0 ≤ y ∧ y < (ls.length : Int)) (hz : ∀ s : Int, 0 ≤ s → s < ls.length → (Lof ls s).length + wsum ls [] ls.length < 1000000) :
    ∃ t, runFn prg (k + 2) 4 [LL ls] h = .ok t h ∧ IsBack (fun j => RL ls j j) ls.length t := by
  rw [run_eq (fn := ⟨1, 2, true, ir_least_back⟩) rfl rfl]
  have ei := lb_items k h.length h ls hl
  rcases lb_loop k h.length h ls hv hz ls.length 0 none (by omega) (fun j hj => absurd hj (Nat.not_lt_zero _)) with ⟨q, b, e⟩ | ⟨b, c', e⟩
  · refine ⟨.int q, ?_, b⟩
    have : evSs ⟨runFn prg (k + 1), h.length, prg.sub, prg.xi⟩ ir_least_back ([LL ls].map some ++ List.replicate (2 - 1) none) h = .ret none (.int q) h := by
      refine ss_ret ?_
      unfold evS
      show (evI ⟨runFn prg (k + 1), h.length, prg.sub, prg.xi⟩ (.rng (.bf false .len (.cons (.var 0) .nil))) [some (LL ls), none] h).toS _ _ _ = _
      rw [ei]
      exact e
    rw [this]
    exact end_ret0 (.inl rfl) rfl
  · refine ⟨.non, ?_, b⟩
    have : evSs ⟨runFn prg (k + 1), h.length, prg.sub, prg.xi⟩ ir_least_back ([LL ls].map some ++ List.replicate (2 - 1) none) h = .ret none .non h := by
      refine (ss_next (e1 := [some (LL ls), c']) (h1 := h) ?_).trans rfl
      unfold evS
      show (evI ⟨runFn prg (k + 1), h.length, prg.sub, prg.xi⟩ (.rng (.bf false .len (.cons (.var 0) .nil))) [some (LL ls), none] h).toS _ _ _ = _
      rw [ei]
      exact e
    rw [this]
    exact end_ret0 (.inl rfl) rfl

theorem compL_elt {g : TG} {cond : PS.Env → AH → R Bool} {elt : PS.Env → AH → R T} {chk : AH → Prop} {x t : T} {xs : List T} {env e1 : PS.Env} {h h1 h2 : AH} (a : g.asg x env = some e1) (b : cond e1 h = .ok true h1) (c : elt e1 h1 = .ok t h2) (d : chk h2) : compL g cond elt chk (x :: xs) env h = (compL g cond elt chk xs env h2).bind fun ts h3 => .ok (t :: ts) h3 := by
  rw [compL]
  rw [a]
  dsimp only
  rw [b]
  simp only [R.bind_ok, c, if_pos d]
theorem mapM_all {α : Type} (g : T → Option T) (f g' : α → T) : ∀ L : List α, (∀ x ∈ L, g (f x) = some (g' x)) → (L.map f).mapM g = some (L.map g')
  | [], _ => rfl
  | x :: L, H => by
    rw [List.map_cons, List.mapM_cons, H x (by simp), mapM_all g f g' L fun y hy => H y (by simp [hy])]
    rfl
mutual
theorem pl_dat : ∀ t : T, t.pl = true → ∃ d, t.dat = some d
  | .non, _ => ⟨_, rfl⟩
  | .bl _, _ => ⟨_, rfl⟩
  | .int _, _ => ⟨_, rfl⟩
  | .str _, _ => ⟨_, rfl⟩
  | .tup xs, h => by
    obtain ⟨d, e⟩ := pl_datL xs (by simp only [T.pl, Bool.and_eq_true] at h; exact h.2)
    exact ⟨.tuple d, by rw [T.dat, e]; rfl⟩
  | .lst xs, h => by
    obtain ⟨d, e⟩ := pl_datL xs (by simp only [T.pl, Bool.and_eq_true] at h; exact h.2)
    exact ⟨.list d, by rw [T.dat, e]; rfl⟩
  | .dct _ _ _, h => by simp [T.pl] at h
  | .ref _, h => by simp [T.pl] at h
  | .clo _ _, h => by simp [T.pl] at h
  | .exn _ _, h => by simp [T.pl] at h
theorem pl_datL : ∀ ts : List T, T.plL ts = true → ∃ d, T.datL ts = some d
  | [], _ => ⟨_, rfl⟩
  | x :: xs, h => by
    simp only [T.plL, Bool.and_eq_true] at h
    obtain ⟨a, ea⟩ := pl_dat x h.1
    obtain ⟨b, eb⟩ := pl_datL xs h.2
    exact ⟨a :: b, by rw [T.datL, ea, eb]⟩
end
theorem box_fin (k n0 : Nat) (h : AH) (sc : T) (i cell g : Int) (h0 : 0 ≤ i) (h1 : i < 1000) (hc : 0 ≤ cell) (hg : 0 ≤ g) :
    ∃ s : Int, 0 ≤ s ∧ evS ⟨runFn prg k, n0, prg.sub, prg.xi⟩ (.ret false (.lst true (.cons (.var 3) (.cons (.bin false .add (.bin false .mod (.bf false .int (.cons (.bin false .add (.bin false .mul (.bin false .mod (.bf false .int (.cons (.var 2) .nil)) (.cst (.int 1000000007))) (.cst (.int 48271))) (.bin false .mul (.cst (.int 613)) (.var 1))) .nil)) (.cst (.int 2147483647))) (.cst (.int 1))) .nil)))) [some sc, some (.int i), some (.int cell), some (.int g)] h = .ret none (.ref h.length) (h ++ [.lst [.int g, .int s]]) := by
  refine ⟨(cell % 1000000007 * 48271 + 613 * i) % 2147483647 + 1, by omega, ?_⟩
  have m1 : -(2 ^ 64 : Int) < cell % 1000000007 ∧ cell % 1000000007 < (2 ^ 64 : Int) := by omega
  have fr : PS.fresh true [T.int g, T.int ((cell % 1000000007 * 48271 + 613 * i) % 2147483647 + 1)] h = .ok (.ref h.length) (h ++ [.lst [.int g, .int ((cell % 1000000007 * 48271 + 613 * i) % 2147483647 + 1)]]) := by
    unfold PS.fresh
    rw [if_pos (by rw [sizeLine_eq]; simp), if_pos rfl]
  simp [evS, evE, evL, fr]
theorem box_great (k n0 : Nat) (h : AH) (sc : T) (i cell : Int) (hc : 0 ≤ cell) :
    ∃ g : Int, 0 ≤ g ∧ evS ⟨runFn prg k, n0, prg.sub, prg.xi⟩ (.asg (.nm 3) (.idx (.lst false (.cons (.cst (.int 0)) (.cons (.var 2) .nil))) (.bf false .int (.cons (.cmp .ge (.var 2) (.bin false .pow (.cst (.int 10)) (.cst (.int 18)))) .nil)))) [some sc, some (.int i), some (.int cell), none] h = .next [some sc, some (.int i), some (.int cell), some (.int g)] h := by
  have fr : PS.fresh false [T.int 0, T.int cell] h = .ok (.lst [T.int 0, T.int cell]) h := fresh_f (by rw [sizeLine_eq]; simp)
  have j0 : idxT h (.lst [T.int 0, T.int cell]) (.int 0) = some (.int 0) := L2.atI_nat (j := 0) rfl
  have j1 : idxT h (.lst [T.int 0, T.int cell]) (.int 1) = some (.int cell) := L2.atI_nat (j := 1) rfl
  by_cases c : (1000000000000000000 : Int) ≤ cell
  · refine ⟨cell, hc, ?_⟩
    simp [evS, evE, evL, fr, TG.asg, c, j1]
  · refine ⟨0, by omega, ?_⟩
    simp [evS, evE, evL, fr, TG.asg, c, j0]
abbrev boxIf : IS := .ife (.cmp .lt (.var 1) (.bf false .len (.cons (.var 0) .nil))) (.cons (.asg (.nm 2) (.bf false .abs (.cons (.idx (.var 0) (.var 1)) .nil))) .nil) (.cons (.ife (.cmp .gt (.bf false .len (.cons (.var 0) .nil)) (.cst (.int 0))) (.cons (.asg (.nm 2) (.bin false .add (.bin false .mul (.bin false .mod (.bf false .int (.cons (.bf false .abs (.cons (.idx (.var 0) (.bin false .mod (.bf false .int (.cons (.var 1) .nil)) (.bf false .len (.cons (.var 0) .nil)))) .nil)) .nil)) (.cst (.int 1000000007))) (.cst (.int 31))) (.bin false .mul (.cst (.int 7919)) (.var 1)))) .nil) .nil) .nil)
theorem ints_at {h : AH} (ns : List Int) {i : Int} (h0 : 0 ≤ i) (h1 : i < ns.length) : ∃ x : Int, idxT h (.lst (ns.map T.int)) (.int i) = some (.int x) := by
  obtain ⟨n, rfl⟩ := Int.eq_ofNat_of_zero_le h0
  have hn : n < ns.length := by omega
  exact ⟨ns[n], L2.atI_nat (by simp [hn])⟩
theorem box_cell (k n0 : Nat) (h : AH) (ns : List Int) (i c0 : Int) (h0 : 0 ≤ i) (h1 : i < 1000) (hc : 0 ≤ c0) :
    ∃ cell : Int, 0 ≤ cell ∧ evS ⟨runFn prg k, n0, prg.sub, prg.xi⟩ boxIf [some (.lst (ns.map T.int)), some (.int i), some (.int c0), none] h = .next [some (.lst (ns.map T.int)), some (.int i), some (.int cell), none] h := by
  by_cases c : i < (ns.length : Int)
  · obtain ⟨x, e⟩ := ints_at (h := h) ns h0 c
    refine ⟨if x < 0 then -x else x, by split <;> omega, ?_⟩
    simp [evSs, evS, evE, evL, evB, TG.asg, c, e]
  · by_cases d : 0 < (ns.length : Int)
    · obtain ⟨x, e⟩ := ints_at (h := h) ns (i := i % ns.length) (Int.emod_nonneg _ (by omega)) (Int.emod_lt_of_pos _ d)
      have ha : 0 ≤ (if x < 0 then -x else x) := by split <;> omega
      refine ⟨(if x < 0 then -x else x) % 1000000007 * 31 + 7919 * i, by omega, ?_⟩
      have d2 : 0 < ns.length := by omega
      simp [evSs, evS, evE, evL, evB, TG.asg, c, d2, e]
    · refine ⟨c0, hc, ?_⟩
      have d2 : ¬ 0 < ns.length := by omega
      simp [evSs, evS, evE, evL, evB, TG.asg, c, d2]
theorem p_box (k : Nat) (h : AH) (ns : List Int) (i : Int) (h0 : 0 ≤ i) (h1 : i < 1000) :
    ∃ g s : Int, 0 ≤ g ∧ 0 ≤ s ∧ runFn prg (k + 1) 9 [.lst (ns.map T.int), .int i] h = .ok (.ref h.length) (h ++ [.lst [.int g, .int s]]) := by
  obtain ⟨cell, hc, e2⟩ := box_cell k h.length h ns i (7919 * i + 101) h0 h1 (by omega)
  obtain ⟨g, hg, e3⟩ := box_great k h.length h (.lst (ns.map T.int)) i cell hc
  obtain ⟨s, hs, e4⟩ := box_fin k h.length h (.lst (ns.map T.int)) i cell g h0 h1 hc hg
  refine ⟨g, s, hg, hs, ?_⟩
  rw [run_eq (fn := ⟨2, 4, false, ir__law_box⟩) rfl rfl]
  have e1 : evS ⟨runFn prg k, h.length, prg.sub, prg.xi⟩ (.asg (.nm 2) (.bin false .add (.bin false .mul (.cst (.int 7919)) (.var 1)) (.cst (.int 101)))) [some (.lst (ns.map T.int)), some (.int i), none, none] h = .next [some (.lst (ns.map T.int)), some (.int i), some (.int (7919 * i + 101)), none] h := by
    simp [evS, evE, TG.asg]
  have es : evSs ⟨runFn prg k, h.length, prg.sub, prg.xi⟩ ir__law_box ([.lst (ns.map T.int), .int i].map some ++ List.replicate (4 - 2) none) h = .ret none (.ref h.length) (h ++ [.lst [.int g, .int s]]) := (ss_next e1).trans ((ss_next e2).trans ((ss_next e3).trans (ss_ret e4)))
  rw [es]
  rfl
theorem frz_pl {n0 : Nat} {h : AH} : ∀ (d : Nat) (t : T), t.pl = true → frzV n0 h d t = some t := by
  intro d
  induction d with
  | zero =>
    intro t hp
    show (if t.und n0 = true then some t else none) = _
    rw [if_pos (pl_und n0 t hp)]
  | succ d ih =>
    intro t hp
    cases t with
    | tup xs =>
      have hl : T.plL xs = true := by simp [T.pl] at hp; exact hp.2
      show (xs.mapM (frzV n0 h d)).map T.tup = _
      have : xs.mapM (frzV n0 h d) = some xs := by
        have := mapM_all (frzV n0 h d) (fun x : T => x) (fun x : T => x) xs (fun x hx => ih x (plL_mem hl x hx))
        simpa using this
      rw [this]; rfl
    | lst xs =>
      show (if (T.lst xs).und n0 = true then some (T.lst xs) else none) = _
      rw [if_pos (pl_und n0 _ hp)]
    | ref _ => simp [T.pl] at hp
    | _ => first
      | rfl
      | (exfalso; simp [T.pl] at hp; done)
theorem pl_tag {w : Str} (hw : w.length ≤ 1000) {t : T} (hp : t.pl = true) : (T.tup [.str w, t]).pl = true := by
  simp [T.pl, T.plL, hp, hw]
theorem tr_exc {C : PS.Ctx} {b : ISs} {hs : IHs} {env e1 : PS.Env} {h h1 : AH} {c : Nat} {v : T} (e : evSs C b env h = .exc c v e1 h1) : evS C (.tr b hs) env h = evHs C hs c v e1 h1 := by
  rw [evS, e]
theorem tr_next {C : PS.Ctx} {b : ISs} {hs : IHs} {env e1 : PS.Env} {h h1 : AH} (e : evSs C b env h = .next e1 h1) : evS C (.tr b hs) env h = .next e1 h1 := by
  rw [evS, e]
theorem hs_ret {C : PS.Ctx} {k i c : Nat} {b : ISs} {r : IHs} {v t : T} {env : PS.Env} {h h1 : AH} {m : Option Nat} (s : C.sub c k = true) (e : evSs C b (env.set i (some (.exn c v))) h = .ret m t h1) : evHs C (.cons k i b r) c v env h = .ret m t h1 := by
  rw [evHs, if_pos s, e]
theorem hs_skip {C : PS.Ctx} {k i c : Nat} {b : ISs} {r : IHs} {v : T} {env : PS.Env} {h : AH} (s : C.sub c k = false) : evHs C (.cons k i b r) c v env h = evHs C r c v env h := by
  rw [evHs, if_neg (by rw [s]; decide)]
theorem app_at (h : AH) (c : Cell) : (h ++ [c])[h.length]? = some c := by simp
theorem fld_cell {h : AH} {n c f : Nat} {fs : List (Nat × T)} (hb : h[n]? = some (.obj c fs)) : fldT h (.ref n) c f = fs.lookup f := by
  show (match h[n]? with
    | some (.obj c' fs) => if c' = c then fs.lookup f else none
    | _ => none) = _
  rw [hb]
  dsimp only
  rw [if_pos rfl]
theorem app_set (h : AH) (c d : Cell) : (h ++ [c]).set h.length d = h ++ [d] := by simp [List.set_append]
theorem box_lt {h : AH} {n : Nat} (b : Box h n) : n < h.length := by
  obtain ⟨g, s, _, _, e⟩ := b
  exact (List.getElem?_eq_some_iff.mp e).1
theorem bo_len {h h' : AH} {n : Nat} (b : BoxOnly n h h') : h'.length = h.length := by
  obtain ⟨g, s, _, _, rfl⟩ := b
  simp
theorem bo_box {h h' : AH} {n : Nat} (a : Box h n) (b : BoxOnly n h h') : Box h' n := by
  have := box_lt a
  obtain ⟨g, s, h1, h2, rfl⟩ := b
  exact ⟨g, s, h1, h2, by simp [this]⟩
theorem bo_ne {h h' : AH} {n m : Nat} (b : BoxOnly n h h') (hm : m ≠ n) : h'[m]? = h[m]? := by
  obtain ⟨g, s, _, _, rfl⟩ := b
  rw [List.getElem?_set_ne (Ne.symm hm)]
theorem bo_trans {h h1 h2 : AH} {n : Nat} (a : BoxOnly n h h1) (b : BoxOnly n h1 h2) : BoxOnly n h h2 := by
  obtain ⟨g, s, _, _, rfl⟩ := a
  obtain ⟨g', s', x, y, rfl⟩ := b
  exact ⟨g', s', x, y, by simp⟩
theorem bo_refl {h : AH} {n : Nat} (a : Box h n) : BoxOnly n h h := by
  obtain ⟨g, s, x, y, e⟩ := a
  refine ⟨g, s, x, y, ?_⟩
  refine List.ext_getElem? fun i => ?_
  by_cases c : n = i
  · subst c
    rw [e, List.getElem?_set_self (List.getElem?_eq_some_iff.mp e).1]
  · rw [List.getElem?_set_ne c]
theorem bo_app {h h' cs : AH} {n : Nat} (hn : n < h.length) (b : BoxOnly n (h ++ cs) h') : ∃ h2, h' = h2 ++ cs ∧ BoxOnly n h h2 := by
  obtain ⟨g, s, x, y, rfl⟩ := b
  exact ⟨h.set n (.lst [.int g, .int s]), by rw [List.set_append_left _ _ hn], g, s, x, y, rfl⟩
theorem box_app {h cs : AH} {n : Nat} (b : Box h n) : Box (h ++ cs) n := by
  have := box_lt b
  obtain ⟨g, s, x, y, e⟩ := b
  exact ⟨g, s, x, y, by rw [List.getElem?_append_left this, e]⟩
theorem end_box {h h' cs : AH} {n : Nat} {mm : Option Nat} {t : T} (b : BoxOnly n h h') (hm : mm = none ∨ mm = some h.length) (hu : t.und h.length = true) : endR true h (endS true h.length (.ret mm t (h' ++ cs))) = .ok t h' := by
  obtain ⟨g, s, _, _, rfl⟩ := b
  exact end_both hm hu rfl
theorem end_box0 {h h' : AH} {n : Nat} {mm : Option Nat} {t : T} (b : BoxOnly n h h') (hm : mm = none ∨ mm = some h.length) (hu : t.und h.length = true) : endR true h (endS true h.length (.ret mm t h')) = .ok t h' := by
  have := end_box (cs := []) b hm hu
  rwa [List.append_nil] at this
theorem pick_mem {k : Nat} {h : AH} {n : Nat} {xs : List T} (hb : Box h n) (h1 : xs ≠ []) (h2 : xs.length ≤ 1000) (hx : T.plL xs = true) :
    ∃ x h', runFn prg (k + 2) 11 [.ref n, .lst xs] h = .ok x h' ∧ x ∈ xs ∧ BoxOnly n h h' := by
  obtain ⟨r, x, h', e, m, b⟩ := p_pick k h n xs false hb h1 (by omega) (pl_undL _ _ hx)
  exact ⟨x, h', e, List.mem_of_getElem? m, b⟩
theorem ne_nil {h : AH} (xs : List T) (hp : T.plL xs = true) : cmpT .ne h (.tup xs) (.tup []) = some (!xs.isEmpty) := by
  obtain ⟨d, e⟩ := pl_datL xs hp
  show (eqT (.tup xs) (.tup [])).map (!·) = _
  have : eqT (.tup xs) (.tup []) = some xs.isEmpty := by
    unfold eqT
    have e1 : (T.tup xs).dat = some (.tuple d) := by
      rw [T.dat, e]; rfl
    rw [e1]
    show eqD (.tuple d) (.tuple []) = _
    unfold eqD
    rw [if_pos (by simp [PyData.depth, PyData.depthAll, deepest])]
    cases xs with
    | nil =>
      cases e
      simp [PyData.eqv, PyData.eqvAll]
    | cons x xs =>
      have : d ≠ [] := by
        rintro rfl
        rw [T.datL] at e
        split at e <;> simp at e
      cases d with
      | nil => exact absurd rfl this
      | cons a d => simp [PyData.eqv, PyData.eqvAll]
  rw [this]; rfl
theorem cutL_len (xs : List T) (lo hi : Option Int) : (cutL xs lo hi).length ≤ xs.length := by
  unfold cutL
  simp
  omega
theorem cutL_mem {xs : List T} {lo hi : Option Int} {x : T} (h : x ∈ cutL xs lo hi) : x ∈ xs := by
  unfold cutL at h
  exact List.mem_of_mem_drop (List.mem_of_mem_take h)
theorem thou3 {a b : Nat} (h1 : a ≤ 1000) (h2 : b ≤ 1000) : a + b ≤ sizeLine := by rw [sizeLine_eq]; omega
theorem add_tup {m : Bool} {xs ys : List T} {h : AH} (h1 : xs.length ≤ 1000) (h2 : ys.length ≤ 1000) : binT m .add (.tup xs) (.tup ys) h = .ok (.tup (xs ++ ys)) h := by
  rw [bin_tup, if_pos (thou3 h1 h2)]
theorem range_len (i : Int) (m : Nat) : (rangeT i m).length = m := by simp [rangeT]
theorem mem_range {x : T} {m : Nat} (h : x ∈ rangeT 0 m) : ∃ i : Nat, x = .int i ∧ i < m := by
  simp [rangeT] at h
  obtain ⟨i, hi, rfl⟩ := h
  exact ⟨i, rfl, hi⟩
theorem mk_exc {k n0 c : Nat} {es : IL} {env : PS.Env} {h h1 h2 : AH} {v : T} {xs : List T} (e : evL ⟨runFn prg k, n0, prg.sub, prg.xi⟩ es env h = .ok xs h1) (e2 : runFn prg k 7 (.ref h1.length :: xs) (h1 ++ [.obj 0 []]) = .exc c v h2) :
    evE ⟨runFn prg k, n0, prg.sub, prg.xi⟩ (.mk 0 7 es) env h = .exc c v h2 := by
  rw [evE, e, R.bind_ok]
  dsimp only
  rw [e2, R.bind_exc]
def okK (t : T) : Bool := inI t 1 40
theorem init_num (k : Nat) (h : AH) (n : Nat) (kt rt : T) (hk : kt.pl = true) (hb : okK kt = false) : runFn prg (k + 3) 7 [.ref n, kt, rt] h = .exc 1 kt h := by
  rw [run_eq (fn := ⟨3, 5, false, ir_Pairsx_initx⟩) rfl rfl]
  have c := p_is_integer_in k h kt 1 40 hk
  rw [show inI kt 1 40 = false from hb] at c
  have e : evSs ⟨runFn prg (k + 2), h.length, prg.sub, prg.xi⟩ ir_Pairsx_initx ([.ref n, kt, rt].map some ++ List.replicate (5 - 3) none) h = .exc 1 kt [some (.ref n), some kt, some rt, none, none] h := by
    simp [ir_Pairsx_initx, evSs, evS, evE, evL, evB, c]
  rw [e]
  rfl
def Bx (A : Cell) : Prop := ∃ g s : Int, 0 ≤ g ∧ 0 ≤ s ∧ A = .lst [.int g, .int s]
theorem bx_box {A : Cell} {cs : AH} (h : Bx A) : Box (A :: cs) 0 := by
  obtain ⟨g, s, a, b, rfl⟩ := h
  exact ⟨g, s, a, b, rfl⟩
theorem bx_only {A : Cell} {cs H : AH} (b : BoxOnly 0 (A :: cs) H) : ∃ A', Bx A' ∧ H = A' :: cs := by
  obtain ⟨g, s, a, b, rfl⟩ := b
  exact ⟨_, ⟨g, s, a, b, rfl⟩, rfl⟩
theorem take0 (k : Nat) {A : Cell} (cs : AH) (many : Int) (h : Bx A) (h1 : 0 < many) (h2 : many < 1073741824) :
    ∃ r A', runFn prg (k + 1) 10 [.ref 0, .int many] (A :: cs) = .ok (.int r) (A' :: cs) ∧ 0 ≤ r ∧ r < many ∧ Bx A' := by
  obtain ⟨r, H, e, r0, r1, b⟩ := p_take k (A :: cs) 0 many (bx_box h) h1 h2
  obtain ⟨A', x, rfl⟩ := bx_only b
  exact ⟨r, A', e, r0, r1, x⟩
theorem pick0 (k : Nat) {A : Cell} (cs : AH) (xs : List T) (h : Bx A) (h1 : xs ≠ []) (h2 : xs.length ≤ 1000) (hx : T.plL xs = true) :
    ∃ x A', runFn prg (k + 2) 11 [.ref 0, .lst xs] (A :: cs) = .ok x (A' :: cs) ∧ x ∈ xs ∧ Bx A' := by
  obtain ⟨x, H, e, m, b⟩ := pick_mem (k := k) (bx_box (cs := cs) h) h1 h2 hx
  obtain ⟨A', y, rfl⟩ := bx_only b
  exact ⟨x, A', e, m, y⟩
theorem snap_pl {h : AH} {t : T} (hp : t.pl = true) : snap h t = t := by
  cases t <;> first
    | rfl
    | (simp [T.pl] at hp; done)
theorem at0 {h : AH} {a : T} {r : List T} : idxT h (.tup (a :: r)) (.int 0) = some a := L2.atI_nat (j := 0) rfl
theorem at1 {h : AH} {a b : T} {r : List T} : idxT h (.tup (a :: b :: r)) (.int 1) = some b := L2.atI_nat (j := 1) rfl
theorem at2 {h : AH} {a b c : T} {r : List T} : idxT h (.tup (a :: b :: c :: r)) (.int 2) = some c := L2.atI_nat (j := 2) rfl
theorem ret_of {C : PS.Ctx} {e : IE} {env : PS.Env} {h h1 : AH} {t : T} (q : evE C e env h = .ok t h1) : evS C (.ret false e) env h = .ret none t h1 := by
  unfold evS
  rw [q]
  rfl
theorem ife_t {C : PS.Ctx} {c : IE} {a b : ISs} {env : PS.Env} {h h1 : AH} (q : evB C c env h = .ok true h1) : evS C (.ife c a b) env h = evSs C a env h1 := by
  rw [evS, q]
  rfl
theorem ife_f {C : PS.Ctx} {c : IE} {a b : ISs} {env : PS.Env} {h h1 : AH} (q : evB C c env h = .ok false h1) : evS C (.ife c a b) env h = evSs C b env h1 := by
  rw [evS, q]
  rfl
theorem ife_ret {C : PS.Ctx} {c e : IE} {r : ISs} {env : PS.Env} {h h1 h2 : AH} {t : T} (q : evB C c env h = .ok true h1) (q2 : evE C e env h1 = .ok t h2) : evSs C (.cons (.ife c (.cons (.ret false e) .nil) .nil) r) env h = .ret none t h2 :=
  ss_ret ((ife_t q).trans (ss_ret (ret_of q2)))
theorem ife_no {C : PS.Ctx} {c : IE} {a r : ISs} {env : PS.Env} {h h1 : AH} (q : evB C c env h = .ok false h1) : evSs C (.cons (.ife c a .nil) r) env h = evSs C r env h1 :=
  ss_next ((ife_f q).trans rfl)
theorem and_t {C : PS.Ctx} {a b : IE} {env : PS.Env} {h h1 : AH} (q : evE C a env h = .ok (.bl true) h1) : evE C (.and a b) env h = evE C b env h1 := by
  rw [evE, q]; rfl
theorem and_f {C : PS.Ctx} {a b : IE} {env : PS.Env} {h h1 : AH} (q : evE C a env h = .ok (.bl false) h1) : evE C (.and a b) env h = .ok (.bl false) h1 := by
  rw [evE, q]; rfl
theorem band_t {C : PS.Ctx} {a b : IE} {env : PS.Env} {h h1 : AH} (q : evB C a env h = .ok true h1) : evB C (.and a b) env h = evB C b env h1 := by
  rw [evB, q]; rfl
theorem band_f {C : PS.Ctx} {a b : IE} {env : PS.Env} {h h1 : AH} (q : evB C a env h = .ok false h1) : evB C (.and a b) env h = .ok false h1 := by
  rw [evB, q]; rfl
theorem bor_t {C : PS.Ctx} {a b : IE} {env : PS.Env} {h h1 : AH} (q : evB C a env h = .ok true h1) : evB C (.or a b) env h = .ok true h1 := by
  rw [evB, q]; rfl
theorem bor_f {C : PS.Ctx} {a b : IE} {env : PS.Env} {h h1 : AH} (q : evB C a env h = .ok false h1) : evB C (.or a b) env h = evB C b env h1 := by
  rw [evB, q]; rfl
theorem bnot {C : PS.Ctx} {a : IE} {env : PS.Env} {h h1 : AH} {b : Bool} (q : evB C a env h = .ok b h1) : evB C (.not a) env h = .ok (!b) h1 := by
  rw [evB, q]; rfl
theorem bcall {C : PS.Ctx} {f : Nat} {es : IL} {env : PS.Env} {h h1 : AH} {b : Bool} (q : evE C (.call f es) env h = .ok (.bl b) h1) : evB C (.call f es) env h = .ok b h1 := by
  show R.isB (evE C (.call f es) env h) = _
  rw [q]; rfl
theorem bcmp {C : PS.Ctx} {o : Co} {x y : IE} {env : PS.Env} {h h1 : AH} {b : Bool} (q : evE C (.cmp o x y) env h = .ok (.bl b) h1) : evB C (.cmp o x y) env h = .ok b h1 := by
  show R.isB (evE C (.cmp o x y) env h) = _
  rw [q]; rfl
theorem ecall {k n0 f : Nat} {es : IL} {env : PS.Env} {h h1 h2 : AH} {xs : List T} {t : T} (q : evL ⟨runFn prg k, n0, prg.sub, prg.xi⟩ es env h = .ok xs h1) (q2 : runFn prg k f xs h1 = .ok t h2) : evE ⟨runFn prg k, n0, prg.sub, prg.xi⟩ (.call f es) env h = .ok t h2 := by
  rw [evE, q, R.bind_ok]
  dsimp only
  exact q2
theorem ecmp {C : PS.Ctx} {o : Co} {x y : IE} {env : PS.Env} {h h1 h2 : AH} {a b : T} {k : Bool} (q : evE C x env h = .ok a h1) (q2 : evE C y env h1 = .ok b h2) (q3 : cmpT o h2 a b = some k) : evE C (.cmp o x y) env h = .ok (.bl k) h2 := by
  rw [evE, q, R.bind_ok, q2, R.bind_ok, q3]; rfl
theorem eidx {C : PS.Ctx} {x y : IE} {env : PS.Env} {h h1 h2 : AH} {a b t : T} (q : evE C x env h = .ok a h1) (q2 : evE C y env h1 = .ok b h2) (q3 : idxT h2 a b = some t) : evE C (.idx x y) env h = .ok t h2 := by
  rw [evE, q, R.bind_ok, q2, R.bind_ok, q3]; rfl
theorem asg_exc {C : PS.Ctx} {g : TG} {e : IE} {r : ISs} {env : PS.Env} {h h1 : AH} {t : T} {c : Nat} (q : evE C e env h = .exc c t h1) : evSs C (.cons (.asg g e) r) env h = .exc c t env h1 := by
  have s : evS C (.asg g e) env h = .exc c t env h1 := by
    rw [evS, q]; rfl
  rw [evSs, s]
theorem ex_exc {C : PS.Ctx} {e : IE} {r : ISs} {env : PS.Env} {h h1 : AH} {t : T} {c : Nat} (q : evE C e env h = .exc c t h1) : evSs C (.cons (.ex e) r) env h = .exc c t env h1 := by
  have s : evS C (.ex e) env h = .exc c t env h1 := by
    rw [evS, q]; rfl
  rw [evSs, s]
theorem xcall {k n0 f c : Nat} {es : IL} {env : PS.Env} {h h1 h2 : AH} {xs : List T} {t : T} (q : evL ⟨runFn prg k, n0, prg.sub, prg.xi⟩ es env h = .ok xs h1) (q2 : runFn prg k f xs h1 = .exc c t h2) : evE ⟨runFn prg k, n0, prg.sub, prg.xi⟩ (.call f es) env h = .exc c t h2 := by
  rw [evE, q, R.bind_ok]
  dsimp only
  exact q2
theorem sss_exc {C : PS.Ctx} {s : IS} {r : ISs} {env e1 : PS.Env} {h h1 : AH} {c : Nat} {v : T} (e : evS C s env h = .exc c v e1 h1) : evSs C (.cons s r) env h = .exc c v e1 h1 := by
  rw [evSs, e]
theorem add_lst {m : Bool} {xs ys : List T} {h : AH} : binT m .add (.lst xs) (.lst ys) h = PS.fresh m (xs ++ ys) h := rfl
theorem ite_of {C : PS.Ctx} {c a b : IE} {env : PS.Env} {h h1 : AH} {r : Bool} (q : evE C c env h = .ok (.bl r) h1) : evE C (.ite c a b) env h = if r = true then evE C a env h1 else evE C b env h1 := by
  rw [evE, q]
  cases r <;> rfl
theorem ne_self {h : AH} {n : Nat} {t : T} (hd : DD n t) (hn : n ≤ 180) (s : snap h t = t) : cmpT .ne h t t = some false := by
  show (eqT (snap h t) (snap h t)).map (!·) = _
  rw [s, eqT_B hd hd (.inl hn), eqB_self hd]
  rfl
theorem bvar {C : PS.Ctx} {i : Nat} {env : PS.Env} {h : AH} {b : Bool} (e : evE C (.var i) env h = .ok (.bl b) h) : evB C (.var i) env h = .ok b h := by
  show R.isB (evE C (.var i) env h) = _
  rw [e]; rfl
theorem or_t {C : PS.Ctx} {a b : IE} {env : PS.Env} {h h1 : AH} (q : evE C a env h = .ok (.bl true) h1) : evE C (.or a b) env h = .ok (.bl true) h1 := by
  rw [evE, q]; rfl
theorem or_f {C : PS.Ctx} {a b : IE} {env : PS.Env} {h h1 : AH} (q : evE C a env h = .ok (.bl false) h1) : evE C (.or a b) env h = evE C b env h1 := by
  rw [evE, q]; rfl
theorem etup0 {C : PS.Ctx} {env : PS.Env} {h : AH} : evE C (.tup .nil) env h = .ok (.tup []) h := by
  rw [evE, evL, R.bind_ok, if_pos (show ([] : List T).length ≤ sizeLine from Nat.zero_le _)]
theorem tup1_of {C : PS.Ctx} {e : IE} {env : PS.Env} {h h1 : AH} {t : T} (q : evE C e env h = .ok t h1) : evE C (.tup (.cons e .nil)) env h = .ok (.tup [t]) h1 := by
  rw [evE, evL, q, R.bind_ok, evL, R.bind_ok, R.bind_ok, if_pos (thou_line (by simp))]
theorem tup2_of {C : PS.Ctx} {w : Str} {e : IE} {env : PS.Env} {h h1 : AH} {t : T} (q : evE C e env h = .ok t h1) : evE C (.tup (.cons (.cst (.str w)) (.cons e .nil))) env h = .ok (.tup [.str w, t]) h1 := by
  rw [evE, evL, show evE C (.cst (.str w)) env h = .ok (.str w) h from rfl, R.bind_ok, evL, q, R.bind_ok, evL, R.bind_ok, R.bind_ok, R.bind_ok, if_pos (thou_line (by simp))]
theorem tup3_of {C : PS.Ctx} {w : Str} {e f : IE} {env : PS.Env} {h h1 h2 : AH} {t u : T} (q : evE C e env h = .ok t h1) (q2 : evE C f env h1 = .ok u h2) : evE C (.tup (.cons (.cst (.str w)) (.cons e (.cons f .nil)))) env h = .ok (.tup [.str w, t, u]) h2 := by
  rw [evE, evL, show evE C (.cst (.str w)) env h = .ok (.str w) h from rfl, R.bind_ok, evL, q, R.bind_ok, evL, q2, R.bind_ok, evL, R.bind_ok, R.bind_ok, R.bind_ok, R.bind_ok, if_pos (thou_line (by simp))]
theorem tup2v {C : PS.Ctx} {e f : IE} {env : PS.Env} {h h1 h2 : AH} {t u : T} (q : evE C e env h = .ok t h1) (q2 : evE C f env h1 = .ok u h2) : evE C (.tup (.cons e (.cons f .nil))) env h = .ok (.tup [t, u]) h2 := by
  rw [evE, evL, q, R.bind_ok, evL, q2, R.bind_ok, evL, R.bind_ok, R.bind_ok, R.bind_ok, if_pos (thou_line (by simp))]
theorem evL_nil {C : PS.Ctx} {env : PS.Env} {h : AH} : evL C .nil env h = .ok [] h := by rw [evL]
theorem evL_cons {C : PS.Ctx} {e : IE} {r : IL} {env : PS.Env} {h h1 h2 : AH} {x : T} {xs : List T} (q : evE C e env h = .ok x h1) (q2 : evL C r env h1 = .ok xs h2) : evL C (.cons e r) env h = .ok (x :: xs) h2 := by
  rw [evL, q, R.bind_ok, q2, R.bind_ok]
theorem elst_of {C : PS.Ctx} {es : IL} {env : PS.Env} {h h1 : AH} {xs : List T} (q : evL C es env h = .ok xs h1) (hz : xs.length ≤ 1000) : evE C (.lst false es) env h = .ok (.lst xs) h1 := by
  rw [evE, q, R.bind_ok, fresh_f (thou_line hz)]
theorem evI_lst {C : PS.Ctx} {e : IE} {env : PS.Env} {h h1 : AH} {xs : List T} (q : evE C e env h = .ok (.lst xs) h1) : evI C (.e e) env h = .ok ⟨xs, none⟩ h1 := by
  rw [evI, q, R.bind_ok, items_lst, R.of_some]
theorem asg_of {C : PS.Ctx} {g : TG} {e : IE} {env e1 : PS.Env} {h h1 : AH} {t : T} (q : evE C e env h = .ok t h1) (q2 : g.asg t env = some e1) : evS C (.asg g e) env h = .next e1 h1 := by
  unfold evS
  rw [q, R.toS_ok, q2]
theorem etup_of {C : PS.Ctx} {es : IL} {env : PS.Env} {h h1 : AH} {xs : List T} (q : evL C es env h = .ok xs h1) (hz : xs.length ≤ 1000) : evE C (.tup es) env h = .ok (.tup xs) h1 := by
  rw [evE, q, R.bind_ok, if_pos (thou_line hz)]
end LW
end
section
set_option maxRecDepth 100000
set_option maxHeartbeats 1000000
namespace LW
open PySem PS
def refs : Nat → Nat → List T
  | _, 0 => []
  | n, m + 1 => .ref n :: refs (n + 1) m
def xmkL : List Nat → IL
  | [] => .nil
  | c :: cs => .cons (.xmk c (.var 0)) (xmkL cs)
theorem refs_len : ∀ (m n : Nat), (refs n m).length = m
  | 0, _ => rfl
  | m + 1, n => by rw [refs, List.length_cons, refs_len m]
theorem refs_app : ∀ (a n b : Nat), refs n a ++ refs (n + a) b = refs n (a + b)
  | 0, n, b => by rw [refs, List.nil_append, Nat.add_zero, Nat.zero_add]
  | a + 1, n, b => by
    rw [refs, List.cons_append, show n + (a + 1) = (n + 1) + a from by omega, refs_app a (n + 1) b, show a + 1 + b = (a + b) + 1 from by omega, refs]
theorem refs_get : ∀ (m n i : Nat), i < m → (refs n m)[i]? = some (.ref (n + i))
  | 0, _, _, h => absurd h (by omega)
  | m + 1, n, 0, _ => by rw [refs]; rfl
  | m + 1, n, i + 1, h => by
    rw [refs, List.getElem?_cons_succ, refs_get m (n + 1) i (by omega), show n + 1 + i = n + (i + 1) from by omega]
theorem refs_mem {n m : Nat} {x : T} (h : x ∈ refs n m) : ∃ i, i < m ∧ x = .ref (n + i) := by
  obtain ⟨i, hi, e⟩ := List.mem_iff_getElem.mp h
  rw [refs_len] at hi
  refine ⟨i, hi, ?_⟩
  have := refs_get m n i hi
  rw [List.getElem?_eq_getElem (by rw [refs_len]; exact hi), e] at this
  exact Option.some.inj this
theorem xmk_L (C : PS.Ctx) (env : PS.Env) (v : T) : ∀ (cs : List Nat) (h : AH), evE C (.var 0) env = (fun h => .ok v h) → evL C (xmkL cs) env h = .ok (refs h.length cs.length) (h ++ cs.map fun c => .exo c v)
  | [], h, e => by
    rw [xmkL, evL]
    simp [refs]
  | c :: cs, h, e => by
    have e1 : evE C (.xmk c (.var 0)) env h = .ok (.ref h.length) (h ++ [.exo c v]) := by
      rw [evE, e]; rfl
    rw [xmkL, evL, e1, R.bind_ok, xmk_L C env v cs (h ++ [Cell.exo c v]) e, R.bind_ok]
    rw [List.length_append, List.length_singleton, List.append_assoc]
    rfl
abbrev c1 : List Nat := [1, 2, 4, 5, 6, 7]
abbrev c2 : List Nat := [8, 9, 10, 11]
abbrev c10 : List Nat := c1 ++ c2
theorem p_ones (k : Nat) (h : AH) (v : T) : runFn prg (k + 1) 26 [v] h = .ok (.lst (refs h.length 10)) (h ++ c10.map fun c => .exo c v) := by
  rw [run_eq (fn := ⟨1, 2, false, ir__law_ones⟩) rfl rfl]
  have s1 : evS ⟨runFn prg k, h.length, prg.sub, prg.xi⟩ (.asg (.nm 1) (.lst false (xmkL c1))) [some v, none] h = .next [some v, some (.lst (refs h.length 6))] (h ++ c1.map fun c => .exo c v) :=
    asg_of (elst_of (xmk_L _ [some v, none] v c1 h rfl) (by rw [refs_len]; decide)) rfl
  have e2 : evE ⟨runFn prg k, h.length, prg.sub, prg.xi⟩ (.lst false (xmkL c2)) [some v, some (.lst (refs h.length 6))] (h ++ c1.map fun c => .exo c v) = .ok (.lst (refs (h.length + 6) 4)) (h ++ c10.map fun c => .exo c v) := by
    have := elst_of (C := ⟨runFn prg k, h.length, prg.sub, prg.xi⟩) (xmk_L _ [some v, some (.lst (refs h.length 6))] v c2 (h ++ c1.map fun c => .exo c v) rfl) (by rw [refs_len]; decide)
    rw [this]
    simp [c10]
  have e3 : evE ⟨runFn prg k, h.length, prg.sub, prg.xi⟩ (.bin false .add (.var 1) (.lst false (xmkL c2))) [some v, some (.lst (refs h.length 6))] (h ++ c1.map fun c => .exo c v) = .ok (.lst (refs h.length 10)) (h ++ c10.map fun c => .exo c v) := by
    rw [evE, show evE ⟨runFn prg k, h.length, prg.sub, prg.xi⟩ (.var 1) [some v, some (.lst (refs h.length 6))] (h ++ c1.map fun c => .exo c v) = .ok (.lst (refs h.length 6)) (h ++ c1.map fun c => .exo c v) from rfl, R.bind_ok, e2, R.bind_ok, add_lst, refs_app, fresh_f (thou_line (by rw [refs_len]; decide))]
  have es : evSs ⟨runFn prg k, h.length, prg.sub, prg.xi⟩ ir__law_ones ([v].map some ++ List.replicate (2 - 1) none) h = .ret none (.lst (refs h.length 10)) (h ++ c10.map fun c => .exo c v) := (ss_next s1).trans (ss_ret (ret_of e3))
  rw [es]
  rfl
def xioL : List (List Nat) → IL
  | [] => .nil
  | l :: ls => .cons (.xio (.var 0) l) (xioL ls)
theorem xio_L (C : PS.Ctx) (env : PS.Env) (n c : Nat) (v : T) (h : AH) (hn : h[n]? = some (.exo c v)) (e : evE C (.var 0) env h = .ok (.ref n) h) : ∀ ls : List (List Nat), evL C (xioL ls) env h = .ok (ls.map fun l => .bl (l.contains c)) h
  | [] => by rw [xioL, evL]; rfl
  | l :: ls => by
    have e1 : evE C (.xio (.var 0) l) env h = .ok (.bl (l.contains c)) h := by
      rw [evE, e, R.bind_ok]
      dsimp only
      rw [hn]
    rw [xioL, evL, e1, R.bind_ok, xio_L C env n c v h hn e ls, R.bind_ok]
    rfl
abbrev l1 : List (List Nat) := [[1], [2], [4], [5]]
abbrev l2 : List (List Nat) := [[6], [7], [8]]
abbrev l3 : List (List Nat) := [[9], [10], [11]]
abbrev l4 : List (List Nat) := [[3], [12], [13]]
abbrev l5 : List (List Nat) := [[0, 1, 2, 3, 4, 5, 6, 7, 8, 9, 10, 11, 12, 13], [0, 1, 2, 3, 4, 5, 6, 7, 8, 9, 10, 11, 12, 13]]
abbrev kb (c : Nat) (ls : List (List Nat)) : List T := ls.map fun l => T.bl (l.contains c)
theorem undL_kb (n c : Nat) : ∀ ls : List (List Nat), T.undL n (kb c ls) = true
  | [] => rfl
  | l :: ls => by
    show (T.und n (.bl _) && T.undL n (kb c ls)) = true
    rw [undL_kb n c ls]; rfl
theorem p_kinds (k : Nat) (h : AH) (n c : Nat) (v : T) (hn : h[n]? = some (.exo c v)) : runFn prg (k + 1) 27 [.ref n] h = .ok (.lst (kb c (l1 ++ l2 ++ l3 ++ l4 ++ l5))) h := by
  rw [run_eq (fn := ⟨1, 2, true, ir__law_kinds⟩) rfl rfl]
  have s1 : evS ⟨runFn prg k, h.length, prg.sub, prg.xi⟩ (.asg (.nm 1) (.lst false (xioL l1))) [some (.ref n), none] h = .next [some (.ref n), some (.lst (kb c l1))] h :=
    asg_of (elst_of (xio_L _ [some (.ref n), none] n c v h hn rfl l1) (by simp)) rfl
  have ad : ∀ (a b : List (List Nat)), a.length + b.length ≤ 100 → evE ⟨runFn prg k, h.length, prg.sub, prg.xi⟩ (.bin false .add (.var 1) (.lst false (xioL b))) [some (.ref n), some (.lst (kb c a))] h = .ok (.lst (kb c (a ++ b))) h := fun a b hl => by
    rw [evE, show evE ⟨runFn prg k, h.length, prg.sub, prg.xi⟩ (.var 1) [some (.ref n), some (.lst (kb c a))] h = .ok (.lst (kb c a)) h from rfl, R.bind_ok, elst_of (xio_L ⟨runFn prg k, h.length, prg.sub, prg.xi⟩ [some (.ref n), some (.lst (kb c a))] n c v h hn rfl b) (by rw [List.length_map]; omega), R.bind_ok, add_lst, ← List.map_append, fresh_f (thou_line (by rw [List.length_map, List.length_append]; omega))]
  have st : ∀ (a b : List (List Nat)), a.length + b.length ≤ 100 → evS ⟨runFn prg k, h.length, prg.sub, prg.xi⟩ (.asg (.nm 1) (.bin false .add (.var 1) (.lst false (xioL b)))) [some (.ref n), some (.lst (kb c a))] h = .next [some (.ref n), some (.lst (kb c (a ++ b)))] h := fun a b hl => asg_of (ad a b hl) rfl
  have es : evSs ⟨runFn prg k, h.length, prg.sub, prg.xi⟩ ir__law_kinds ([T.ref n].map some ++ List.replicate (2 - 1) none) h = .ret none (.lst (kb c (l1 ++ l2 ++ l3 ++ l4 ++ l5))) h :=
    (ss_next s1).trans ((ss_next (st l1 l2 (by decide))).trans ((ss_next (st (l1 ++ l2) l3 (by decide))).trans ((ss_next (st (l1 ++ l2 ++ l3) l4 (by decide))).trans (ss_ret (ret_of (ad (l1 ++ l2 ++ l3 ++ l4) l5 (by decide)))))))
  rw [es]
  refine end_ret0 (.inl rfl) ?_
  simp only [T.und]
  exact undL_kb _ _ _
end LW
end
section
set_option maxRecDepth 100000
set_option maxHeartbeats 1000000
namespace LW
open PySem PS
abbrev eE (sc : T) (x2 x3 x4 x5 x6 x7 x8 x9 : Option T) : PS.Env := [some sc, some (.ref 0), x2, x3, x4, x5, x6, x7, x8, x9, none, none]
theorem str_small : ∀ r : Nat, r < 99 → (Int.natAbs (r : Int)).log2 < 1920 ∧ (Str.ofString (toString (r : Int))).length ≤ 10 ∧ (("text " : Str) ++ Str.ofString (toString (r : Int))).length ≤ 100 := by decide +kernel
abbrev tkE (e : IE) : IE := .call 10 (.cons (.var 1) (.cons e .nil))
theorem tk_ev (k n0 : Nat) (sc : T) (x2 x3 : Option T) {A : Cell} (hA : Bx A) (many : Int) (e : IE) (h1 : 0 < many) (h2 : many < 1073741824) (ee : ∀ h, evE ⟨runFn prg (k + 3), n0, prg.sub, prg.xi⟩ e (eE sc x2 x3 none none none none none none) h = .ok (.int many) h) :
    ∃ r A', evE ⟨runFn prg (k + 3), n0, prg.sub, prg.xi⟩ (tkE e) (eE sc x2 x3 none none none none none none) [A] = .ok (.int r) [A'] ∧ 0 ≤ r ∧ r < many ∧ Bx A' := by
  obtain ⟨r, A', e1, r0, r1, b⟩ := take0 (k + 2) [] many hA h1 h2
  exact ⟨r, A', ecall (evL_cons (h1 := [A]) rfl (evL_cons (ee _) evL_nil)) e1, r0, r1, b⟩
abbrev oR2 : IS := .asg (.nm 2) (.lst false (.cons (.bin false .sub (.call 10 (.cons (.var 1) (.cons (.bin false .pow (.cst (.int 10)) (.cst (.int 6))) .nil))) (.cst (.int 500000))) (.cons (.bin false .add (.cst (.str "text ")) (.bf false .str (.cons (.call 10 (.cons (.var 1) (.cons (.cst (.int 99)) .nil))) .nil))) (.cons (.tup (.cons (.cst (.int 1)) (.cons (.call 10 (.cons (.var 1) (.cons (.cst (.int 9)) .nil))) .nil))) .nil))))
abbrev oR3 : IS := .asg (.nm 2) (.bin false .add (.var 2) (.lst false (.cons (.lst false (.cons (.call 10 (.cons (.var 1) (.cons (.cst (.int 9)) .nil))) .nil)) (.cons (.cst .non) (.cons (.cst (.bl true)) (.cons (.tup .nil) .nil))))))
def Small (xs : List T) : Prop := xs ≠ [] ∧ xs.length ≤ 10 ∧ ∀ x ∈ xs, Gd 100 2 x
theorem o_r23 (k n0 : Nat) (sc : T) {A : Cell} (hA : Bx A) (rest : ISs) :
    ∃ xs A', Bx A' ∧ Small xs ∧ evSs ⟨runFn prg (k + 3), n0, prg.sub, prg.xi⟩ (.cons oR2 (.cons oR3 rest)) (eE sc none none none none none none none none) [A] = evSs ⟨runFn prg (k + 3), n0, prg.sub, prg.xi⟩ rest (eE sc (some (.lst xs)) none none none none none none none) [A'] := by
  obtain ⟨r1, A1, e1, r10, r11, b1⟩ := tk_ev k n0 sc none none hA 1000000 (.bin false .pow (.cst (.int 10)) (.cst (.int 6))) (by omega) (by omega) (fun h => by
    rw [evE, evE, R.bind_ok, evE, R.bind_ok]
    show (if (0 : Int) ≤ 6 ∧ (6 : Int) ≤ 1000000 ∧ (10 : Int).natAbs < 2 ^ 64 then R.ok (T.int ((10 : Int) ^ (6 : Int).toNat)) h else .stuck) = _
    rw [if_pos ⟨by omega, by omega, by decide⟩]
    rfl)
  obtain ⟨r2, A2, e2, r20, r21, b2⟩ := tk_ev k n0 sc none none b1 99 (.cst (.int 99)) (by omega) (by omega) (fun h => rfl)
  obtain ⟨r3, A3, e3, r30, r31, b3⟩ := tk_ev k n0 sc none none b2 9 (.cst (.int 9)) (by omega) (by omega) (fun h => rfl)
  obtain ⟨m, rfl⟩ := Int.eq_ofNat_of_zero_le r20
  obtain ⟨q1, q2, q3⟩ := str_small m (by omega)
  have f1 : evE ⟨runFn prg (k + 3), n0, prg.sub, prg.xi⟩ (.bin false .sub (tkE (.bin false .pow (.cst (.int 10)) (.cst (.int 6)))) (.cst (.int 500000))) (eE sc none none none none none none none none) [A] = .ok (.int (r1 - 500000)) [A1] := by
    rw [evE, e1, R.bind_ok, evE, R.bind_ok, bin_sub]
  have f2 : evE ⟨runFn prg (k + 3), n0, prg.sub, prg.xi⟩ (.bin false .add (.cst (.str "text ")) (.bf false .str (.cons (tkE (.cst (.int 99))) .nil))) (eE sc none none none none none none none none) [A1] = .ok (.str (("text " : Str) ++ Str.ofString (toString (m : Int)))) [A2] := by
    have g : evE ⟨runFn prg (k + 3), n0, prg.sub, prg.xi⟩ (.bf false .str (.cons (tkE (.cst (.int 99))) .nil)) (eE sc none none none none none none none none) [A1] = .ok (.str (Str.ofString (toString (m : Int)))) [A2] := by
      rw [evE, evL, e2, R.bind_ok, evL, R.bind_ok, R.bind_ok]
      show (match strT (.int (m : Int)) with
        | some x => R.ok (T.str x) [A2]
        | none => .stuck) = _
      have hs : strT (.int (m : Int)) = some (Str.ofString (toString (m : Int))) := by
        show (if (m : Int).natAbs.log2 < 1920 then some (Str.ofString (toString (m : Int))) else none) = _
        rw [if_pos q1]
      rw [hs]
    rw [evE, evE, R.bind_ok, g, R.bind_ok]
    show (if ("text " : Str).length + (Str.ofString (toString (m : Int))).length ≤ sizeLine then R.ok (T.str (("text " : Str) ++ Str.ofString (toString (m : Int)))) [A2] else .stuck) = _
    rw [if_pos]
    have : ("text " : Str).length = 5 := by decide
    exact thou_line (by omega)
  have f3 : evE ⟨runFn prg (k + 3), n0, prg.sub, prg.xi⟩ (.tup (.cons (.cst (.int 1)) (.cons (tkE (.cst (.int 9))) .nil))) (eE sc none none none none none none none none) [A2] = .ok (.tup [.int 1, .int r3]) [A3] := tup2v (h1 := [A2]) rfl e3
  have s2 : evS ⟨runFn prg (k + 3), n0, prg.sub, prg.xi⟩ oR2 (eE sc none none none none none none none none) [A] = .next (eE sc (some (.lst [.int (r1 - 500000), .str (("text " : Str) ++ Str.ofString (toString (m : Int))), .tup [.int 1, .int r3]])) none none none none none none none) [A3] :=
    asg_of (elst_of (evL_cons f1 (evL_cons f2 (evL_cons f3 evL_nil))) (by simp)) rfl
  obtain ⟨r4, A4, e4, r40, r41, b4⟩ := tk_ev k n0 sc (some (.lst [.int (r1 - 500000), .str (("text " : Str) ++ Str.ofString (toString (m : Int))), .tup [.int 1, .int r3]])) none b3 9 (.cst (.int 9)) (by omega) (by omega) (fun h => rfl)
  have s3 : evS ⟨runFn prg (k + 3), n0, prg.sub, prg.xi⟩ oR3 (eE sc (some (.lst [.int (r1 - 500000), .str (("text " : Str) ++ Str.ofString (toString (m : Int))), .tup [.int 1, .int r3]])) none none none none none none none) [A3] = .next (eE sc (some (.lst [.int (r1 - 500000), .str (("text " : Str) ++ Str.ofString (toString (m : Int))), .tup [.int 1, .int r3], .lst [.int r4], .non, .bl true, .tup []])) none none none none none none none) [A4] := by
    have l4 := elst_of (evL_cons (elst_of (evL_cons e4 evL_nil) (by simp)) (evL_cons (h1 := [A4]) (x := .non) (e := .cst .non) rfl (evL_cons (h1 := [A4]) (x := .bl true) (e := .cst (.bl true)) rfl (evL_cons (etup0 (h := [A4])) evL_nil)))) (by simp)
    refine asg_of (t := .lst [.int (r1 - 500000), .str (("text " : Str) ++ Str.ofString (toString (m : Int))), .tup [.int 1, .int r3], .lst [.int r4], .non, .bl true, .tup []]) ?_ rfl
    rw [evE, show evE ⟨runFn prg (k + 3), n0, prg.sub, prg.xi⟩ (.var 2) (eE sc (some (.lst [.int (r1 - 500000), .str (("text " : Str) ++ Str.ofString (toString (m : Int))), .tup [.int 1, .int r3]])) none none none none none none none) [A3] = .ok (.lst [.int (r1 - 500000), .str (("text " : Str) ++ Str.ofString (toString (m : Int))), .tup [.int 1, .int r3]]) [A3] from rfl, R.bind_ok, l4, R.bind_ok, add_lst, fresh_f (thou_line (by simp))]
    rfl
  refine ⟨_, A4, b4, ⟨by simp, by simp, fun x hx => ?_⟩, (ss_next s2).trans (ss_next s3)⟩
  simp at hx
  rcases hx with rfl | rfl | rfl | rfl | rfl | rfl | rfl
  · exact .int _ _ (by omega) (by omega)
  · exact .str _ _ q3
  · exact .tup _ _ (by simp) fun y hy => by
      simp at hy
      rcases hy with rfl | rfl <;> exact .int _ _ (by omega) (by omega)
  · exact .lst _ _ (by simp) fun y hy => by
      simp at hy
      subst hy
      exact .int _ _ (by omega) (by omega)
  · exact .non _
  · exact .bl _ _
  · exact .tup _ _ (by simp) (by simp)
theorem xfl_e {C : PS.Ctx} {a : IE} {f n c : Nat} {v : T} {env : PS.Env} {h h1 : AH} (e : evE C a env h = .ok (.ref n) h1) (hn : h1[n]? = some (.exo c v)) (hf : C.xi c = f) : evE C (.xfl a f) env h = .ok v h1 := by
  rw [evE, e, R.bind_ok]
  dsimp only
  rw [hn]
  dsimp only
  rw [if_pos hf]
theorem xmk_e {C : PS.Ctx} {a : IE} {c : Nat} {v : T} {env : PS.Env} {h h1 : AH} (e : evE C a env h = .ok v h1) : evE C (.xmk c a) env h = .ok (.ref h1.length) (h1 ++ [.exo c v]) := by
  rw [evE, e]; rfl
abbrev Hc (A : Cell) (v : T) : AH := A :: c10.map fun c => Cell.exo c v
abbrev oB6 : ISs := .cons (.ife (.cmp .ne (.xfl (.var 5) 2) (.var 3)) (.cons (.ret false (.cst (.bl false))) .nil) .nil) .nil
theorem hc_at (A : Cell) (v : T) : ∀ i, i < 10 → ∃ c, (Hc A v)[1 + i]? = some (.exo c v) ∧ xiOf c = 2
  | 0, _ => ⟨1, rfl, rfl⟩
  | 1, _ => ⟨2, rfl, rfl⟩
  | 2, _ => ⟨4, rfl, rfl⟩
  | 3, _ => ⟨5, rfl, rfl⟩
  | 4, _ => ⟨6, rfl, rfl⟩
  | 5, _ => ⟨7, rfl, rfl⟩
  | 6, _ => ⟨8, rfl, rfl⟩
  | 7, _ => ⟨9, rfl, rfl⟩
  | 8, _ => ⟨10, rfl, rfl⟩
  | 9, _ => ⟨11, rfl, rfl⟩
  | n + 10, h => absurd h (by omega)
theorem ne_v {h : AH} {v : T} (g : Gd 100 2 v) : cmpT .ne h v v = some false := ne_self (gd_dd g) (by omega) (snap_pl (gd_pl (by omega) g))
theorem o_r6 (k n0 : Nat) (sc : T) (A : Cell) (v : T) (x2 : Option T) (g : Gd 100 2 v) :
    ∃ y5, evS ⟨runFn prg (k + 3), n0, prg.sub, prg.xi⟩ (.forr (.nm 5) (.e (.var 4)) oB6) (eE sc x2 (some v) (some (.lst (refs 1 10))) none none none none none) (Hc A v) = .next (eE sc x2 (some v) (some (.lst (refs 1 10))) y5 none none none none) (Hc A v) := by
  obtain ⟨e2, H2, el, q⟩ := forL_inv (g := TG.nm 5) (body := fun env h => evSs ⟨runFn prg (k + 3), n0, prg.sub, prg.xi⟩ oB6 env h) (chk := (⟨refs 1 10, none⟩ : Items).chk)
    (fun d e H => ∃ y5, e = eE sc x2 (some v) (some (.lst (refs 1 10))) y5 none none none none ∧ H = Hc A v)
    (done := []) (rest := refs 1 10) (env := eE sc x2 (some v) (some (.lst (refs 1 10))) none none none none none) (h := Hc A v)
    ⟨none, rfl, rfl⟩
    (fun d x r e H eq i => by
      obtain ⟨y5, rfl, rfl⟩ := i
      rw [List.nil_append] at eq
      obtain ⟨i, hi, rfl⟩ := refs_mem (show x ∈ refs 1 10 by rw [eq]; simp)
      obtain ⟨c, hc, hx⟩ := hc_at A v i hi
      have c1 := bcmp (ecmp (o := .ne) (xfl_e (C := ⟨runFn prg (k + 3), n0, prg.sub, prg.xi⟩) (a := .var 5) (env := eE sc x2 (some v) (some (.lst (refs 1 10))) (some (.ref (1 + i))) none none none none) (h := Hc A v) rfl hc hx) (y := .var 3) rfl (ne_v g))
      exact ⟨eE sc x2 (some v) (some (.lst (refs 1 10))) (some (.ref (1 + i))) none none none none, rfl, _, _, (ife_no c1).trans rfl, trivial, _, rfl, rfl⟩)
  obtain ⟨y5, rfl, rfl⟩ := q
  refine ⟨y5, ?_⟩
  unfold evS
  rw [evI_lst (xs := refs 1 10) (h1 := Hc A v) rfl, R.toS_ok]
  exact el
abbrev Hd (A : Cell) (v : T) : AH := Hc A v ++ [Cell.exo 3 v, .exo 12 v, .exo 13 v]
abbrev oR7 : IS := .asg (.tp (.cons (.nm 6) (.cons (.nm 7) (.cons (.nm 8) .nil)))) (.tup (.cons (.xmk 3 (.var 3)) (.cons (.xmk 12 (.var 3)) (.cons (.xmk 13 (.var 3)) .nil))))
theorem o_r7 (C : PS.Ctx) (sc : T) (A : Cell) (v : T) (x2 x4 x5 : Option T) :
    evS C oR7 (eE sc x2 (some v) x4 x5 none none none none) (Hc A v) = .next (eE sc x2 (some v) x4 x5 (some (.ref 11)) (some (.ref 12)) (some (.ref 13)) none) (Hd A v) := by
  refine asg_of (t := .tup [.ref 11, .ref 12, .ref 13]) (etup_of (evL_cons (xmk_e (h1 := Hc A v) rfl) (evL_cons (xmk_e (h1 := Hc A v ++ [Cell.exo 3 v]) rfl) (evL_cons (xmk_e (h1 := Hc A v ++ [Cell.exo 3 v] ++ [Cell.exo 12 v]) rfl) ?_))) (by simp)) rfl
  rw [evL]
  simp
abbrev oC8 : IE := .or (.cmp .ne (.xfl (.var 6) 3) (.var 3)) (.or (.cmp .ne (.xfl (.var 7) 4) (.var 3)) (.cmp .ne (.xfl (.var 8) 5) (.var 3)))
theorem o_c8 (k n0 : Nat) (sc : T) (A : Cell) (v : T) (x2 x4 x5 : Option T) (g : Gd 100 2 v) :
    evB ⟨runFn prg (k + 3), n0, prg.sub, prg.xi⟩ oC8 (eE sc x2 (some v) x4 x5 (some (.ref 11)) (some (.ref 12)) (some (.ref 13)) none) (Hd A v) = .ok false (Hd A v) := by
  have one : ∀ (i f n c : Nat), (Hd A v)[n]? = some (.exo c v) → xiOf c = f → evE ⟨runFn prg (k + 3), n0, prg.sub, prg.xi⟩ (.var i) (eE sc x2 (some v) x4 x5 (some (.ref 11)) (some (.ref 12)) (some (.ref 13)) none) (Hd A v) = .ok (.ref n) (Hd A v) → evB ⟨runFn prg (k + 3), n0, prg.sub, prg.xi⟩ (.cmp .ne (.xfl (.var i) f) (.var 3)) (eE sc x2 (some v) x4 x5 (some (.ref 11)) (some (.ref 12)) (some (.ref 13)) none) (Hd A v) = .ok false (Hd A v) := fun i f n c hn hf e =>
    bcmp (ecmp (o := .ne) (xfl_e e hn hf) (y := .var 3) rfl (ne_v g))
  exact (bor_f (one 6 3 11 3 rfl rfl rfl)).trans ((bor_f (one 7 4 12 12 rfl rfl rfl)).trans (one 8 5 13 13 rfl rfl rfl))
abbrev c13 : List Nat := c10 ++ [3, 12, 13]
abbrev kL : List (List Nat) := l1 ++ l2 ++ l3 ++ l4 ++ l5
def exB1 (i : Int) (x : T) : T := match x with
  | .int j => .bl (decide (j = i) || decide (13 ≤ j))
  | _ => .non
def exL (i : Int) : List T := (rangeT 0 15).map (exB1 i)
theorem hd_at (A : Cell) (v : T) : ∀ i : Nat, i < 13 → ∃ c, (Hd A v)[1 + i]? = some (.exo c v) ∧ kb c kL = exL i
  | 0, _ => ⟨1, rfl, rfl⟩
  | 1, _ => ⟨2, rfl, rfl⟩
  | 2, _ => ⟨4, rfl, rfl⟩
  | 3, _ => ⟨5, rfl, rfl⟩
  | 4, _ => ⟨6, rfl, rfl⟩
  | 5, _ => ⟨7, rfl, rfl⟩
  | 6, _ => ⟨8, rfl, rfl⟩
  | 7, _ => ⟨9, rfl, rfl⟩
  | 8, _ => ⟨10, rfl, rfl⟩
  | 9, _ => ⟨11, rfl, rfl⟩
  | 10, _ => ⟨3, rfl, rfl⟩
  | 11, _ => ⟨12, rfl, rfl⟩
  | 12, _ => ⟨13, rfl, rfl⟩
  | n + 13, h => absurd h (by omega)
end LW
end
section
set_option maxRecDepth 100000
set_option maxHeartbeats 1000000
namespace LW
open PySem PS
abbrev oLen : IE := .bf false .len (.cons (.var 4) .nil)
abbrev oOr : IE := .or (.cmp .eq (.var 11) (.var 9)) (.cmp .ge (.var 11) oLen)
abbrev oComp : IE := .comp false [11] (.nm 11) (.rng (.bin false .add oLen (.cst (.int 2)))) .none oOr
abbrev oB10 : ISs := .cons (.ife (.cmp .ne (.call 27 (.cons (.idx (.var 4) (.var 9)) .nil)) oComp) (.cons (.ret false (.cst (.bl false))) .nil) .nil) .nil
theorem o_comp (C : PS.Ctx) (sc : T) (h : AH) (x2 x3 x5 x6 x7 x8 : Option T) (i : Int) :
    evE C oComp (eE sc x2 x3 (some (.lst (refs 1 13))) x5 x6 x7 x8 (some (.int i))) h = .ok (.lst (exL i)) h := by
  have el : ∀ y h, evE C oLen ((wipeE (eE sc x2 x3 (some (.lst (refs 1 13))) x5 x6 x7 x8 (some (.int i))) [11]).set 11 y) h = .ok (.int 13) h := fun y h => by
    rw [evE, evL, show evE C (.var 4) ((wipeE (eE sc x2 x3 (some (.lst (refs 1 13))) x5 x6 x7 x8 (some (.int i))) [11]).set 11 y) h = .ok (.lst (refs 1 13)) h from rfl, R.bind_ok, evL, R.bind_ok, R.bind_ok]
    rfl
  have el0 : evE C (.bin false .add oLen (.cst (.int 2))) (eE sc x2 x3 (some (.lst (refs 1 13))) x5 x6 x7 x8 (some (.int i))) h = .ok (.int ((15 : Nat) : Int)) h := by
    rw [evE, show evE C oLen (eE sc x2 x3 (some (.lst (refs 1 13))) x5 x6 x7 x8 (some (.int i))) h = .ok (.int 13) h from el none h, R.bind_ok, evE, R.bind_ok, bin_add]
    rfl
  have ei := rng_items (n := 15) el0 (small_nat (by omega))
  have cl := compL_pure (g := TG.nm 11) (cond := fun _ h => .ok true h) (elt := fun env h => (evE C oOr env h).nox) (chk := (⟨rangeT 0 15, none⟩ : Items).chk) (c := fun _ => true) (f := exB1 i) (env := wipeE (eE sc x2 x3 (some (.lst (refs 1 13))) x5 x6 x7 x8 (some (.int i))) [11]) (h := h) trivial (xs := rangeT 0 15) (fun y hy => ⟨(wipeE (eE sc x2 x3 (some (.lst (refs 1 13))) x5 x6 x7 x8 (some (.int i))) [11]).set 11 (some y), rfl, rfl, fun _ => by
    obtain ⟨j, rfl, hj⟩ := mem_range hy
    have c1 := ecmp (C := C) (o := .eq) (x := .var 11) (env := (wipeE (eE sc x2 x3 (some (.lst (refs 1 13))) x5 x6 x7 x8 (some (.int i))) [11]).set 11 (some (.int j))) (h := h) (a := .int j) rfl (y := .var 9) (b := .int i) rfl (cmp_eq_int (i := (j : Int)) (j := i))
    have c2 := ecmp (C := C) (o := .ge) (x := .var 11) (env := (wipeE (eE sc x2 x3 (some (.lst (refs 1 13))) x5 x6 x7 x8 (some (.int i))) [11]).set 11 (some (.int j))) (h := h) (a := .int j) rfl (el (some (.int j)) h) (cmp_ge (i := (j : Int)) (j := 13))
    show R.nox (evE C oOr _ _) = _
    have e : evE C oOr ((wipeE (eE sc x2 x3 (some (.lst (refs 1 13))) x5 x6 x7 x8 (some (.int i))) [11]).set 11 (some (.int j))) h = .ok (exB1 i (.int j)) h := by
      show _ = R.ok (T.bl (decide ((j : Int) = i) || decide ((13 : Int) ≤ j))) h
      cases hd : decide ((j : Int) = i) with
      | true => rw [hd] at c1; exact or_t c1
      | false => rw [hd] at c1; exact (or_f c1).trans c2
    rw [e]; rfl⟩)
  rw [show (rangeT 0 15).filter (fun _ => true) = rangeT 0 15 from by simp] at cl
  rw [evE, ei, R.bind_ok]
  refine (congrArg (fun r : R (List T) => r.nox.bind fun ts h2 => PS.fresh false ts h2) cl).trans ?_
  rw [R.nox_ok, R.bind_ok, fresh_f (thou_line (by rw [List.length_map, range_len]; decide))]
  rfl
theorem o_r10 (k n0 : Nat) (sc : T) (A : Cell) (v : T) (x2 x3 x5 x6 x7 x8 : Option T) :
    ∃ y9, evS ⟨runFn prg (k + 3), n0, prg.sub, prg.xi⟩ (.forr (.nm 9) (.rng oLen) oB10) (eE sc x2 x3 (some (.lst (refs 1 13))) x5 x6 x7 x8 none) (Hd A v) = .next (eE sc x2 x3 (some (.lst (refs 1 13))) x5 x6 x7 x8 y9) (Hd A v) := by
  obtain ⟨e2, H2, el, q⟩ := forL_inv (g := TG.nm 9) (body := fun env h => evSs ⟨runFn prg (k + 3), n0, prg.sub, prg.xi⟩ oB10 env h) (chk := (⟨rangeT 0 13, none⟩ : Items).chk)
    (fun d e H => ∃ y9, e = eE sc x2 x3 (some (.lst (refs 1 13))) x5 x6 x7 x8 y9 ∧ H = Hd A v)
    (done := []) (rest := rangeT 0 13) (env := eE sc x2 x3 (some (.lst (refs 1 13))) x5 x6 x7 x8 none) (h := Hd A v)
    ⟨none, rfl, rfl⟩
    (fun d x r e H eq i => by
      obtain ⟨y9, rfl, rfl⟩ := i
      rw [List.nil_append] at eq
      obtain ⟨i, rfl, hi⟩ := mem_range (show x ∈ rangeT 0 13 by rw [eq]; simp)
      obtain ⟨c, hc, hx⟩ := hd_at A v i hi
      have e1 : evE ⟨runFn prg (k + 3), n0, prg.sub, prg.xi⟩ (.idx (.var 4) (.var 9)) (eE sc x2 x3 (some (.lst (refs 1 13))) x5 x6 x7 x8 (some (.int i))) (Hd A v) = .ok (.ref (1 + i)) (Hd A v) :=
        eidx (a := .lst (refs 1 13)) (h1 := Hd A v) rfl (y := .var 9) (b := .int i) (h2 := Hd A v) rfl (L2.atI_nat (refs_get 13 1 i hi))
      have e2 : evE ⟨runFn prg (k + 3), n0, prg.sub, prg.xi⟩ (.call 27 (.cons (.idx (.var 4) (.var 9)) .nil)) (eE sc x2 x3 (some (.lst (refs 1 13))) x5 x6 x7 x8 (some (.int i))) (Hd A v) = .ok (.lst (kb c kL)) (Hd A v) :=
        ecall (evL_cons e1 evL_nil) (p_kinds (k + 2) (Hd A v) (1 + i) c v hc)
      have hl : (exL (i : Int)).length = 15 := by rw [exL, List.length_map, range_len]
      have gx : Gd 100 2 (.lst (exL i)) := .lst _ _ (by rw [hl]; decide) fun y hy => by
        rw [exL, List.mem_map] at hy
        obtain ⟨z, hz, rfl⟩ := hy
        obtain ⟨j, rfl, _⟩ := mem_range hz
        exact .bl _ _
      have hq : cmpT .ne (Hd A v) (.lst (kb c kL)) (.lst (exL i)) = some false := by
        rw [hx]
        exact ne_v gx
      have e3 := o_comp ⟨runFn prg (k + 3), n0, prg.sub, prg.xi⟩ sc (Hd A v) x2 x3 x5 x6 x7 x8 i
      have c0 := ecmp (o := .ne) e2 e3 hq
      have c1 := bcmp c0
      exact ⟨eE sc x2 x3 (some (.lst (refs 1 13))) x5 x6 x7 x8 (some (.int i)), rfl, _, _, (ife_no c1).trans rfl, trivial, _, rfl, rfl⟩)
  obtain ⟨y9, rfl, rfl⟩ := q
  refine ⟨y9, ?_⟩
  have ei := rng_items (C := ⟨runFn prg (k + 3), n0, prg.sub, prg.xi⟩) (a := oLen) (env := eE sc x2 x3 (some (.lst (refs 1 13))) x5 x6 x7 x8 none) (h := Hd A v) (h1 := Hd A v) (n := 13) (by
    rw [evE, evL, show evE ⟨runFn prg (k + 3), n0, prg.sub, prg.xi⟩ (.var 4) (eE sc x2 x3 (some (.lst (refs 1 13))) x5 x6 x7 x8 none) (Hd A v) = .ok (.lst (refs 1 13)) (Hd A v) from rfl, R.bind_ok, evL, R.bind_ok, R.bind_ok]
    rfl) (small_nat (by omega))
  unfold evS
  rw [ei, R.toS_ok]
  exact el
abbrev oS11 : ISs := .cons (.ret true (.and (.xis (.var 10) [1]) (.cmpi .eq (.fle (.var 10) 2) 0))) .nil
abbrev oB11 : ISs := .cons (.ex (.mk 0 7 (.cons (.cst (.int 0)) (.cons (.tup .nil) .nil)))) (.cons (.ret false (.cst (.bl false))) .nil)
theorem o_r11 (k : Nat) (sc : T) (h : AH) (x2 x3 x4 x5 x6 x7 x8 x9 : Option T) :
    evS ⟨runFn prg (k + 3), 0, prg.sub, prg.xi⟩ (.tr oB11 (.cons 0 10 oS11 .nil)) (eE sc x2 x3 x4 x5 x6 x7 x8 x9) h = .ret (some 0) (.bl true) (h ++ [.obj 0 []]) := by
  have eb : evSs ⟨runFn prg (k + 3), 0, prg.sub, prg.xi⟩ oB11 (eE sc x2 x3 x4 x5 x6 x7 x8 x9) h = .exc 1 (.int 0) (eE sc x2 x3 x4 x5 x6 x7 x8 x9) (h ++ [.obj 0 []]) := by
    have e2 : runFn prg (k + 3) 7 [.ref h.length, .int 0, .tup []] (h ++ [.obj 0 []]) = .exc 1 (.int 0) (h ++ [.obj 0 []]) := init_num k _ _ _ _ rfl (by decide)
    have e1 : evL ⟨runFn prg (k + 3), 0, prg.sub, prg.xi⟩ (.cons (.cst (.int 0)) (.cons (.tup .nil) .nil)) (eE sc x2 x3 x4 x5 x6 x7 x8 x9) h = .ok [.int 0, .tup []] h := evL_cons (h1 := h) rfl (evL_cons etup0 evL_nil)
    have e3 := mk_exc e1 e2
    exact ex_exc e3
  refine (tr_exc eb).trans (hs_ret rfl (ss_ret ?_))
  have ex : ∀ H, evE ⟨runFn prg (k + 3), 0, prg.sub, prg.xi⟩ (.xis (.var 10) [1]) ((eE sc x2 x3 x4 x5 x6 x7 x8 x9).set 10 (some (.exn 1 (.int 0)))) H = .ok (.bl true) H := fun H => rfl
  have ef : ∀ H, evE ⟨runFn prg (k + 3), 0, prg.sub, prg.xi⟩ (.fle (.var 10) 2) ((eE sc x2 x3 x4 x5 x6 x7 x8 x9).set 10 (some (.exn 1 (.int 0)))) H = .ok (.int 0) H := fun H => by
    rw [evE, show evE ⟨runFn prg (k + 3), 0, prg.sub, prg.xi⟩ (.var 10) ((eE sc x2 x3 x4 x5 x6 x7 x8 x9).set 10 (some (.exn 1 (.int 0)))) H = .ok (.exn 1 (.int 0)) H from rfl, R.bind_ok]
    dsimp only
    rw [if_pos (show prg.xi 1 = 2 from rfl)]
  have ec : ∀ H, evE ⟨runFn prg (k + 3), 0, prg.sub, prg.xi⟩ (.cmpi .eq (.fle (.var 10) 2) 0) ((eE sc x2 x3 x4 x5 x6 x7 x8 x9).set 10 (some (.exn 1 (.int 0)))) H = .ok (.bl true) H := fun H => by
    rw [evE, ef, R.bind_ok]
    dsimp only
    rw [cmp_eq_int]
    rfl
  have ee := fun H => (and_t (ex H)).trans (ec H)
  unfold evS
  rw [ee, R.toS_ok]
  rfl
abbrev oI (sc : T) : PS.Env := [some sc, none, none, none, none, none, none, none, none, none, none, none]
theorem pure_law (k : Nat) (ns : List Int) : ∃ h', runFn prg (k + 4) 25 [.lst (ns.map T.int)] [] = .ok (.bl true) h' := by
  obtain ⟨g0, s0, hg, hs, eb⟩ := p_box (k + 2) [] ns 0 (by omega) (by omega)
  rw [List.nil_append] at eb
  have s1 : evS ⟨runFn prg (k + 3), 0, prg.sub, prg.xi⟩ (.asg (.nm 1) (.call 9 (.cons (.var 0) (.cons (.cst (.int 0)) .nil)))) (oI (.lst (ns.map T.int))) [] = .next (eE (.lst (ns.map T.int)) none none none none none none none none) [.lst [.int g0, .int s0]] :=
    asg_of (t := .ref 0) (ecall (xs := [.lst (ns.map T.int), .int 0]) (h1 := []) rfl eb) rfl
  obtain ⟨xs, A, hA, ⟨ne, hl, gs⟩, s23⟩ := o_r23 k 0 (.lst (ns.map T.int)) (A := .lst [.int g0, .int s0]) ⟨g0, s0, hg, hs, rfl⟩
    (.cons (.asg (.nm 3) (.call 11 (.cons (.var 1) (.cons (.var 2) .nil)))) (.cons (.asg (.nm 4) (.call 26 (.cons (.var 3) .nil))) (.cons (.forr (.nm 5) (.e (.var 4)) oB6) (.cons oR7 (.cons (.ife oC8 (.cons (.ret false (.cst (.bl false))) .nil) .nil) (.cons (.asg (.nm 4) (.bin false .add (.var 4) (.lst false (.cons (.var 6) (.cons (.var 7) (.cons (.var 8) .nil)))))) (.cons (.forr (.nm 9) (.rng oLen) oB10) (.cons (.tr oB11 (.cons 0 10 oS11 .nil)) .nil))))))))
  obtain ⟨v, A4, e4, hv, b4⟩ := pick0 (k + 1) [] xs hA ne (by omega) (plL_of fun x hx => gd_pl (by omega) (gs x hx))
  have gv := gs v hv
  have s4 : evS ⟨runFn prg (k + 3), 0, prg.sub, prg.xi⟩ (.asg (.nm 3) (.call 11 (.cons (.var 1) (.cons (.var 2) .nil)))) (eE (.lst (ns.map T.int)) (some (.lst xs)) none none none none none none none) [A] = .next (eE (.lst (ns.map T.int)) (some (.lst xs)) (some v) none none none none none none) [A4] :=
    asg_of (ecall (xs := [.ref 0, .lst xs]) (h1 := [A]) rfl e4) rfl
  have s5 : evS ⟨runFn prg (k + 3), 0, prg.sub, prg.xi⟩ (.asg (.nm 4) (.call 26 (.cons (.var 3) .nil))) (eE (.lst (ns.map T.int)) (some (.lst xs)) (some v) none none none none none none) [A4] = .next (eE (.lst (ns.map T.int)) (some (.lst xs)) (some v) (some (.lst (refs 1 10))) none none none none none) (Hc A4 v) :=
    asg_of (ecall (xs := [v]) (h1 := [A4]) rfl (p_ones (k + 2) [A4] v)) rfl
  obtain ⟨y5, s6⟩ := o_r6 k 0 (.lst (ns.map T.int)) A4 v (some (.lst xs)) gv
  have s7 := o_r7 ⟨runFn prg (k + 3), 0, prg.sub, prg.xi⟩ (.lst (ns.map T.int)) A4 v (some (.lst xs)) (some (.lst (refs 1 10))) y5
  have c8 := o_c8 k 0 (.lst (ns.map T.int)) A4 v (some (.lst xs)) (some (.lst (refs 1 10))) y5 gv
  have s9 : evS ⟨runFn prg (k + 3), 0, prg.sub, prg.xi⟩ (.asg (.nm 4) (.bin false .add (.var 4) (.lst false (.cons (.var 6) (.cons (.var 7) (.cons (.var 8) .nil)))))) (eE (.lst (ns.map T.int)) (some (.lst xs)) (some v) (some (.lst (refs 1 10))) y5 (some (.ref 11)) (some (.ref 12)) (some (.ref 13)) none) (Hd A4 v) = .next (eE (.lst (ns.map T.int)) (some (.lst xs)) (some v) (some (.lst (refs 1 13))) y5 (some (.ref 11)) (some (.ref 12)) (some (.ref 13)) none) (Hd A4 v) := by
    refine asg_of (t := .lst (refs 1 13)) ?_ rfl
    rw [evE, show evE ⟨runFn prg (k + 3), 0, prg.sub, prg.xi⟩ (.var 4) (eE (.lst (ns.map T.int)) (some (.lst xs)) (some v) (some (.lst (refs 1 10))) y5 (some (.ref 11)) (some (.ref 12)) (some (.ref 13)) none) (Hd A4 v) = .ok (.lst (refs 1 10)) (Hd A4 v) from rfl, R.bind_ok, elst_of (xs := [.ref 11, .ref 12, .ref 13]) (evL_cons (h1 := Hd A4 v) rfl (evL_cons (h1 := Hd A4 v) rfl (evL_cons (h1 := Hd A4 v) rfl evL_nil))) (by simp), R.bind_ok, add_lst, fresh_f (thou_line (by rw [List.length_append, refs_len]; decide))]
    rfl
  obtain ⟨y9, s10⟩ := o_r10 k 0 (.lst (ns.map T.int)) A4 v (some (.lst xs)) (some v) y5 (some (.ref 11)) (some (.ref 12)) (some (.ref 13))
  have s11 := o_r11 k (.lst (ns.map T.int)) (Hd A4 v) (some (.lst xs)) (some v) (some (.lst (refs 1 13))) y5 (some (.ref 11)) (some (.ref 12)) (some (.ref 13)) y9
  refine ⟨[], ?_⟩
  rw [run_eq (fn := ⟨1, 12, true, ir_law⟩) rfl rfl]
  have es : evSs ⟨runFn prg (k + 3), List.length ([] : AH), prg.sub, prg.xi⟩ ir_law ([T.lst (ns.map T.int)].map some ++ List.replicate (12 - 1) none) [] = .ret (some 0) (.bl true) (Hd A4 v ++ [.obj 0 []]) :=
    (ss_next s1).trans (s23.trans ((ss_next s4).trans ((ss_next s5).trans ((ss_next s6).trans ((ss_next s7).trans ((ife_no c8).trans ((ss_next s9).trans ((ss_next s10).trans (ss_ret s11)))))))))
  rw [es]
  have := end_ret (h := []) (cs := Hd A4 v ++ [.obj 0 []]) (m := some 0) (t := .bl true) (.inr rfl) rfl
  exact this
end LW
end
set_option maxRecDepth 100000 in
set_option maxHeartbeats 8000000 in
theorem PySem.Challenge.cw_treestacks_k01_errors_holds : PySem.Challenge.rw_treestacks_k01_errors.Holds := by
  exact LW.holds_of (k := 10) ⟨rfl, by decide, by decide⟩ fun ns _ => LW.pure_law 6 ns
